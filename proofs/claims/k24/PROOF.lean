import PyProof.Rows.All
import Wide.All
import OpenK.AllK
import Wide.FinOn
import PyProof.ReprNest
import HandS.ForMost
import HandS.IsInst
import HandS.Style
import HandS.Walk
import HandS.WideBits
import HandS.NoneIn
import HandS.RaiseMore
import KE.GoesZip
import KE.GoesMore
import KE.GoesEnum
import HandS.ForDict
import HandS.More
import HandS.ExcInit
import HandS.Conv
import HandS.WordsExc
import HandS.ExcField
import HandS.ExcOwn
import PyProof.InstEq
import PyProof.NeKinds
import PySem.Challenge.RW_halfmade_k24_whole_asked_late
set_option Elab.async false
set_option linter.all false
set_option maxRecDepth 100000
set_option maxHeartbeats 4000000
/-! HLa: promises of defs that are called where no repr is under way (guards known), and repr of plain data. -/
namespace HL
open PySem PySem.Spec PyProof.Rows L2

/-- a def that keeps its promise where no built-in of the guarded kind is under way -/
structure FnG (P : Program) (w : World) (K : PySem.W.Frag) (mg : Str → Option Value) (base : Heap)
    (k : Nat) (f : Addr) (fd : FuncData) (ps : List Str) (sp : Sp) : Prop where
  len : ∀ vs H Q E, sp vs H Q E → vs.length = ps.length
  run : ∀ (A : Around) (outer : List Env) (s : Shared) (H : Hp) (args : Args) (us : List Value) (vs : List V)
    (Q : VK) (E : XK), A.guards = some [] → Room k A → Env0 P w K mg base A outer s H →
    BindsTo s fd args (ps.zip us) → Vals vs us → sp vs H Q E →
    codeAny (model P w) A (.call (.ref f) args) (CR CX0 outer P w H s Q E) s

theorem FnG.ofOk {P : Program} {w : World} {K : PySem.W.Frag} {mg : Str → Option Value} {base : Heap}
    {k : Nat} {f : Addr} {fd : FuncData} {ps : List Str} {sp : Sp}
    (F : FnOk P w K mg base CX0 k f fd ps sp) : FnG P w K mg base k f fd ps sp :=
  ⟨F.len, fun A outer s H args us vs Q E _ => F.run A outer s H args us vs Q E⟩
theorem FnG.mono {P : Program} {w : World} {K : PySem.W.Frag} {mg : Str → Option Value} {base : Heap}
    {j k : Nat} {f : Addr} {fd : FuncData} {ps : List Str} {sp : Sp}
    (F : FnG P w K mg base j f fd ps sp) (h : j ≤ k) : FnG P w K mg base k f fd ps sp :=
  ⟨F.len, fun A outer s H args us vs Q E g hr => F.run A outer s H args us vs Q E g (hr.mono h)⟩

theorem guards_deeper {A : Around} (env : Env) (h : A.guards = some []) : (A.deeper env).guards = some [] := h

/-- what a body's end says of the call's end -/
theorem bodyEnd {X : Cx} {ps : List (Addr × Obj)} {outer : List Env} {P : Program} {w : World} {H H' : Hp} {s s' : Shared} {σ' : L2.St}
    {Q : VK} {v : V} {u : Value} (J : Inv X ps σ' H' s') (rv : RelV v u) (q : Q v H')
    (hX : Inv X ps σ' H' s' → s'.os = s.os ∧ AllBare s'.gens ∧ Un (frs outer) [] H H' s.heap s'.heap ∧ HOk P w H' s'.heap) :
    CE outer P w H s Q u s' :=
  ⟨v, H', (hX J).1, (hX J).2.1, (hX J).2.2.1, (hX J).2.2.2, rv, q⟩
/-- a def, by its body: as Fun.ok, with the guards handed on -/
theorem fnG_of {P : Program} {w : World} {K : PySem.W.Frag} {mg : Str → Option Value} {base : Heap}
    {x qual : Str} {st : Stmt} {f : Addr} {fd : FuncData} {N ps : List Str} {k : Nat} {sp : Sp}
    (F : Fun K x qual st f fd) (S : FnScope N ps (defScope st))
    (len : ∀ vs H Q E, sp vs H Q E → vs.length = ps.length)
    (hbody : ∀ (cdv : Value) (A : Around) (outer : List Env) (s : Shared) (H : Hp) (vs : List V) (Q : VK) (E : XK),
      (A.deeper (envOfC qual (defScope st) s.heap.objs.size f cdv)).guards = some [] →
      Room k (A.deeper (envOfC qual (defScope st) s.heap.objs.size f cdv)) → sp vs H Q E →
      ∃ t, PSs (cxOf CX0 P w K mg base N qual (defScope st) f cdv A outer s H E).nox (defBody st) t ∧
        t { nx := fun _ H' => Q .non H', rt := Q } (start N vs) H) :
    FnG P w K mg base (k + 1) f fd ps sp where
  len := len
  run := by
    intro A outer s H args us vs Q E known room ent bnd rel prm
    rcases F.ex with ⟨_, _, _, _, _, _, cdv, _, _, e, at_, code⟩
    subst e
    have old := ent.mod.kin.keeps fun b o z => (ent.bs b o z).1
    have free := ent.mod.nolimit.keeps fun b o z => (ent.bs b o z).1
    have fits : vs.length = ps.length := len _ _ _ _ prm
    have places : ∀ y ∈ ps.zip us, (defScope st).names.lookup y.1 = some .local ∨
        ((defScope st).names.lookup y.1 = some .cell ∧
          ((cellsFrom (s.heap.objs.size + 1) (defScope st).names []).lookup y.1).isSome = true) := by
      rintro ⟨n, v⟩ hy
      exact (S.par n (List.of_mem_zip hy).1).imp id fun c => ⟨c, PySem.W.cellsFrom_some _ _ _ (Or.inl c)⟩
    apply codeAny_call_function room.depth (old _ _ at_) rfl S.co S.gen rfl (PySem.W.codeRec_of old code)
    apply bnd
    apply wpAny_newFunctionEnv_cells S.kind places
    rintro env rfl s1 made
    refine ⟨free.keeps made.toInCall.keep, codeAny_func ?_⟩
    rcases hbody cdv A outer s H vs Q E (guards_deeper _ known) (room.deeper _) prm with ⟨t, ht, hq⟩
    have I : Inv (cxOf CX0 P w K mg base N qual (defScope st) f cdv A outer s H E) [] (start N vs) H s1 :=
      inv_start S room.hd ent fits rel made
    apply wpAny_mono (ht.nox.run [] s1 (start N vs) H _ I hq) _ fun _ _ z => z
    intro fl s' hs
    match fl, hs with
    | .ret u, ⟨v, σ', H', J, rv, q⟩ => exact bodyEnd J rv q fun J => ⟨J.os, J.bare, J.base, J.hok⟩
    | .next, ⟨σ', H', J, q⟩ => exact bodyEnd (v := V.non) J rfl q fun J => ⟨J.os, J.bare, J.base, J.hok⟩
    | .brk, ⟨_, _, _, q⟩ => exact q.elim
    | .cont, ⟨_, _, _, q⟩ => exact q.elim

/-- a call by name of such a def -/
theorem pe_callG {X : Cx} {k : Nat} {f : Addr} {fd : FuncData} {ps : List Str} {sp : Sp} {dvs : List V} {ds : List Value}
    {x : Str} {p pos : Pos} {e : Expr} {es : List Expr} {t : TA}
    (F : FnG X.prog X.w X.K X.mg X.base k f fd ps sp) (known : X.A.guards = some []) (room : Room k X.A)
    (hg : Gl X x) (hm : X.mg x = some (.ref f)) (hk : PySem.W.keepIn X.K (.ref f) = true)
    (hb : Binds X.K fd ps ds) (hd : Vals dvs ds) (ha : PA X (e :: es) t)
    (hdb : (x == ("__debug__" : Str)) = false := by decide)
    (he : starEach (e :: es) X.env = (false, eval e X.env) :: starEach es X.env := by rfl)
    (hpl : (backTo pos (starEach es X.env)).any (·.1) = false := by rfl) :
    PE X (.Call (.Name x p) (e :: es) [] pos) (tCall sp dvs E0 t) where
  run := by
    intro pins s σ H Q I h
    apply wpAny_Call_Name_kw (ld_glob I hg hm ?_ hdb)
    apply PySem.W.callWith_K (h₀ := X.base) I.ok.mod.kin hk ?_ he hpl
    refine thn (ha.run pos pins s σ H _ I h) ?_
    rintro us s1 ⟨vs, H1, J, r, q⟩
    have both : Vals (vs ++ dvs) (us ++ ds) := r.append hd
    have many : (us ++ ds).length = ps.length := both.length ▸ F.len _ _ _ _ q
    refine ⟨J.kIn, wpAny_call (codeAny_mono (F.run X.A X.stack s1 H1 ⟨us, []⟩ _ _ Q E0 known room J.env0 (hb s1 us J.kIn many) both q) ?_)⟩
    intro res s' hq
    match res, hq with
    | .error _, z => exact z.elim
    | .ok (.ret _), z => exact J.after z
    | .ok .next, z => exact z.elim
    | .ok .brk, z => exact z.elim
    | .ok .cont, z => exact z.elim

/-! ### repr of plain data -/
section
variable {X : Cx}
def rReprD (K : PySem.W.Frag) : List V → Hp → VK → Prop := fun xs H Q =>
  ∃ (x : V) (d : PyData), xs = [x] ∧ Dp K H x d ∧ isDisplay d = true ∧ d.showable = true ∧ d.hasDict = false ∧
    d.depth ≤ 60 ∧ d.shown.length ≤ sizeLine ∧ Q (.str d.shown) H
theorem call_reprD (hg : X.A.guards = some []) (hu : X.A.units + 64 < cLine) : CallR X (.builtin "repr") (rReprD X.K) := by
  intro pins s σ H xs us Q I r h
  obtain ⟨x, d, rfl, hd, h1, h2, h3, h4, h5, q⟩ := h
  cases r with
  | cons rx rn =>
    cases rn
    rename_i u
    obtain ⟨as, rd⟩ := Dp.reads I d x u hd rx
    obtain ⟨a, rfl⟩ := isRef_of_reads rd h1
    refine repr_of_reads' rd h2 (PyData.noDict_hsm h3) hg (by omega) (fun _ _ e => e) (fun h' u tk hk => ?_) h5
    exact ⟨.str d.shown, H, I.kept hk, ⟨u, rfl⟩, q⟩
end
end HL

/-! HLb: what stays (Kp), readings step by step. -/
namespace HL
open PySem PySem.Spec PyProof.Rows L2

def Nin (q : Addr) : List Addr → Prop
  | [] => True
  | x :: r => q ≠ x ∧ Nin q r
/-- all that was tracked stands, but what is in W -/
def Kp (W : List Addr) (H H' : Hp) : Prop := ∀ q o, Nin q W → H q = some o → H' q = some o
theorem Kp.refl {W : List Addr} {H : Hp} : Kp W H H := fun _ _ _ h => h
theorem Kp.get {W : List Addr} {H H' : Hp} {q : Addr} {o : HO} (k : Kp W H H') (n : Nin q W) (h : H q = some o) : H' q = some o := k q o n h
theorem Nin.of_mem {q x : Addr} : ∀ {W : List Addr}, Nin q W → x ∈ W → q ≠ x
  | [], _, h => nomatch h
  | y :: r, ⟨a, b⟩, h => by
    rcases List.mem_cons.mp h with rfl | h
    · exact a
    · exact Nin.of_mem b h
theorem Nin.intro {q : Addr} : ∀ {W : List Addr}, (∀ x ∈ W, q ≠ x) → Nin q W
  | [], _ => trivial
  | y :: r, h => ⟨h y List.mem_cons_self, Nin.intro fun x hx => h x (List.mem_cons_of_mem _ hx)⟩
theorem Kp.upd_mem {W : List Addr} {H H' : Hp} {a : Addr} {o : HO} (k : Kp W H H') (m : a ∈ W) : Kp W H (upd H' a o) := fun q u n h => by
  rw [upd_ne (n.of_mem m)]
  exact k q u n h
theorem Kp.upd_new {W : List Addr} {H H' : Hp} {a : Addr} {o : HO} (k : Kp W H H') (m : H' a = none) : Kp W H (upd H' a o) := fun q u n h => by
  have e := k q u n h
  rw [upd_ne (ne_of_none e m)]
  exact e
theorem Kp.upd_loc {W : List Addr} {H H' : Hp} {a : Addr} {o : HO} (k : Kp W H H') (m : H a = none) : Kp W H (upd H' a o) := fun q u n h => by
  rw [upd_ne (ne_of_none h m)]
  exact k q u n h
/-- a step that changes what is in W, or what was not there ahead -/
theorem Kp.step {W W' : List Addr} {H H1 H2 : Hp} (k : Kp W H H1) (l : Kp W' H1 H2) (m : ∀ x ∈ W', x ∈ W ∨ H x = none) : Kp W H H2 := fun q u n h =>
  l q u (Nin.intro fun x hx => (m x hx).elim (fun z => n.of_mem z) fun z => ne_of_none h z) (k q u n h)
theorem Kp.free {W : List Addr} {H H' : Hp} {a : Addr} (k : Kp W H H') (n : Nin a W) (h : H' a = none) : H a = none := by
  cases e : H a with
  | none => rfl
  | some o =>
    rw [k a o n e] at h
    cases h
theorem Kp.same {H H' : Hp} (k : Kp [] H H') : Same H H' := fun b o h => k b o trivial h
theorem Kp.of_same {W : List Addr} {H H' : Hp} (k : Same H H') : Kp W H H' := fun b o _ h => k b o h
theorem Kp.weak {W W' : List Addr} {H H' : Hp} (k : Kp W H H') (m : ∀ x ∈ W, x ∈ W') : Kp W' H H' := fun q o n h => k q o (Nin.intro fun x hx => n.of_mem (m x hx)) h

/-! ### steps of readings -/
section
variable {σ : L2.St} {H : Hp} {Q : VK} {ta tb te : TE} {tt tu : TT} {i : Nat} {v x y : V} {K : PySem.W.Frag} {D : Ends} {t u : TS}
theorem s_var (h : σ[i]? = some (some v)) (q : Q v H) : tVar i σ H Q := ⟨v, h, q⟩
theorem s_c (q : Q v H) : tC v σ H Q := q
theorem s_op {r : R2} (h : ta σ H fun x H1 => tb σ H1 fun y H2 => r x y H2 Q) : tOp r ta tb σ H Q := h
theorem s_un {r : V → Hp → VK → Prop} (h : ta σ H fun x H1 => r x H1 Q) : tUn r ta σ H Q := h
theorem s_nil {Q : List V → Hp → Prop} (q : Q [] H) : tNil σ H Q := q
theorem s_cons {tr : TA} {Q : List V → Hp → Prop} (h : ta σ H fun x H1 => tr σ H1 fun xs H2 => Q (x :: xs) H2) : tCons ta tr σ H Q := h
theorem s_cb {r : List V → Hp → VK → Prop} {tl : TA} (h : tl σ H fun vs H1 => r vs H1 Q) : tCB r tl σ H Q := h
theorem s_call {sp : Sp} {dvs : List V} {E : XK} {tl : TA} (h : tl σ H fun vs H1 => sp (vs ++ dvs) H1 Q E) : tCall sp dvs E tl σ H Q := h
theorem s_test {Q : Bool → Hp → Prop} (h : te σ H fun x H1 => ∃ k, x = .bl k ∧ Q k H1) : tTest te σ H Q := h
theorem s_B {Q : Bool → Hp → Prop} (h : te σ H fun x H1 => ∃ k, x = .bl k ∧ Q k H1) : tB te σ H Q := h
theorem s_bl {R : Bool → Prop} {k : Bool} (q : R k) : ∃ k', V.bl k = .bl k' ∧ R k' := ⟨k, rfl, q⟩
theorem s_and {Q : Bool → Hp → Prop} (h : tt σ H fun c H1 => if c = true then tu σ H1 Q else Q false H1) : tAnd tt tu σ H Q := h
theorem s_or {Q : Bool → Hp → Prop} (h : tt σ H fun c H1 => if c = true then Q true H1 else tu σ H1 Q) : tOr tt tu σ H Q := h
theorem s_not {Q : Bool → Hp → Prop} (h : tt σ H fun c H1 => Q (!c) H1) : tNot tt σ H Q := h
theorem s_andV (h : ta σ H fun x H1 => ∃ c, x = .bl c ∧ if c = true then tb σ H1 Q else Q (.bl false) H1) : tAndV ta tb σ H Q := h
theorem s_orV (h : ta σ H fun x H1 => ∃ c, x = .bl c ∧ if c = true then Q (.bl true) H1 else tb σ H1 Q) : tOrV ta tb σ H Q := h
theorem s_notV (h : ta σ H fun x H1 => ∃ c, x = .bl c ∧ Q (.bl (!c)) H1) : tNotV ta σ H Q := h
theorem s_ifE (h : tt σ H fun c H1 => if c = true then ta σ H1 Q else tb σ H1 Q) : tIf tt ta tb σ H Q := h
theorem s_chain {r r' : R2} {tc : TE} (h : ta σ H fun x H1 => tb σ H1 fun y H2 => r x y H2 fun z H3 => ∃ k, z = .bl k ∧ (if k = true then tc σ H3 fun w' H4 => r' y w' H4 Q else Q (.bl false) H3)) : tChain r r' ta tb tc σ H Q := h
theorem s_tup {tl : TA} (h : tl σ H fun xs H1 => xs.length ≤ sizeLine ∧ ∀ p, H1 p = none → Q (.ref p) (upd H1 p (.tup xs))) : tTup tl σ H Q := h
theorem s_lst {tl : TA} (h : tl σ H fun xs H1 => xs.length ≤ sizeLine ∧ ∀ p, H1 p = none → Q (.ref p) (upd H1 p (.lst xs))) : tLst tl σ H Q := h
theorem s_sl {r : V → Option Int → Option Int → Hp → VK → Prop} {tl th : TO} (h : te σ H fun x H1 => tl σ H1 fun l H2 => th σ H2 fun u H3 => r x l u H3 Q) : tSl r te tl th σ H Q := h
theorem s_noPart {Q : Option Int → Hp → Prop} (q : Q none H) : tNoPart σ H Q := q
theorem s_part {Q : Option Int → Hp → Prop} (h : te σ H fun x H1 => ∃ i, x = .int i ∧ Q (some i) H1) : tPart te σ H Q := h
theorem s_int {R : Int → Prop} {k : Int} (q : R k) : ∃ i, V.int k = .int i ∧ R i := ⟨k, rfl, q⟩
theorem s_ints2 {R : Int → Int → Prop} {a b : Int} (q : R a b) : ∃ i j, [V.int a, V.int b] = [V.int i, V.int j] ∧ R i j := ⟨a, b, rfl, q⟩
theorem s_ints1 {R : Int → Prop} {a : Int} (q : R a) : ∃ i, [V.int a] = [V.int i] ∧ R i := ⟨a, rfl, q⟩
theorem s_strs1 {R : Str → Prop} {a : Str} (q : R a) : ∃ i, [V.str a] = [V.str i] ∧ R i := ⟨a, rfl, q⟩
theorem s_vals2 {R : V → V → Prop} {a b : V} (q : R a b) : ∃ i j, [a, b] = [i, j] ∧ R i j := ⟨a, b, rfl, q⟩
theorem s_vals3 {R : V → V → V → Prop} {a b c : V} (q : R a b c) : ∃ i j k, [a, b, c] = [i, j, k] ∧ R i j k := ⟨a, b, c, rfl, q⟩
theorem s_fld {f : Str} (h : ta σ H fun x H1 => ∃ a C dx fs v, x = .ref a ∧ H1 a = some (.ins C dx fs) ∧ Cls K C ∧ NoAttr K C f ∧ fs.lookup f = some v ∧ Q v H1) : tFld K ta f σ H Q := h
theorem s_bm {T : String} {r : V → List V → Hp → VK → Prop} {tl : TA} (h : ta σ H fun x H1 => tyV K T x H1 ∧ tl σ H1 fun xs H2 => r x xs H2 Q) : tBM K T r ta tl σ H Q := h
theorem s_bm0 {T : String} {r : V → List V → Hp → VK → Prop} (h : ta σ H fun x H1 => tyV K T x H1 ∧ r x [] H1 Q) : tBM0 K T r ta σ H Q := h
theorem s_m1 {r : V → List V → Hp → VK → Prop} (h : ta σ H fun x H1 => (∃ a, x = .str a) ∧ te σ H1 fun y H2 => r x [y] H2 Q) : tM1 r ta te σ H Q := h
theorem s_m0 {r : V → List V → Hp → VK → Prop} (h : ta σ H fun x H1 => (∃ a, x = .str a) ∧ r x [] H1 Q) : tM0 r ta σ H Q := h
theorem s_ex {a : Str} {P : Prop} (h : P) : (∃ b, V.str a = .str b) ∧ P := ⟨⟨a, rfl⟩, h⟩
/-! statements -/
theorem s_seq (h : t { D with nx := u D } σ H) : tSeq t u D σ H := h
theorem s_next (h : D.nx σ H) : tNext D σ H := h
theorem s_asg {g : TG} (h : te σ H fun x H1 => g x σ H1 D.nx) : tAsg te g D σ H := h
theorem s_gname {Q : L2.St → Hp → Prop} (q : Q (σ.set i (some v)) H) : gName i v σ H Q := q
theorem s_drop (h : te σ H fun _ H1 => D.nx σ H1) : tDrop te D σ H := h
theorem s_ret (h : te σ H D.rt) : tRet te D σ H := h
theorem s_retN (h : D.rt .non H) : tRetN D σ H := h
theorem s_ifS (h : tt σ H fun b H1 => if b = true then t D σ H1 else u D σ H1) : tIfS tt t u D σ H := h
theorem s_gsub {to ti : TE} {ts : TSet} {Q : L2.St → Hp → Prop} (h : to σ H fun o H1 => ti σ H1 fun i H2 => ts o i v H2 fun H3 => Q σ H3) : gSub to ti ts v σ H Q := h
theorem s_gtup {n : Nat} {g : TGs} {a : Addr} {xs : List V} {Q : L2.St → Hp → Prop} (h : SqT K H a xs) (l : xs.length = n) (q : g xs σ H Q) : gTup K n g (.ref a) σ H Q := ⟨a, xs, rfl, h, l, q⟩
theorem s_gcons {g : TG} {u : TGs} {r : List V} {Q : L2.St → Hp → Prop} (q : g v σ H fun σ' H' => u r σ' H' Q) : gCons g u (v :: r) σ H Q := ⟨v, r, rfl, q⟩
theorem s_gnil {Q : L2.St → Hp → Prop} (q : Q σ H) : gNil [] σ H Q := ⟨rfl, q⟩
theorem s_par3 {i j l : Nat} {tl : TA} (h : tl σ H fun vs H1 => ∃ u v w, vs = [u, v, w] ∧ D.nx (((σ.set i (some u)).set j (some v)).set l (some w)) H1) : tPar3 i j l tl D σ H := h
theorem s_par {i j : Nat} {tl : TA} (h : tl σ H fun vs H1 => ∃ v w, vs = [v, w] ∧ D.nx ((σ.set i (some v)).set j (some w)) H1) : tPar i j tl D σ H := h
/-! operators -/
theorem s_I0 {g : Int → Int → V} {a b : Int} (q : Q (g a b) H) : rI0 g (.int a) (.int b) H Q := ⟨a, b, rfl, rfl, q⟩
theorem s_I {C : Int → Int → Prop} {g : Int → Int → V} {a b : Int} (c : C a b) (q : Q (g a b) H) : rI C g (.int a) (.int b) H Q := ⟨a, b, rfl, rfl, c, q⟩
theorem s_eq (h : scal x y = true) (q : Q (.bl (decide (x = y))) H) : rEq x y H Q := ⟨h, q⟩
theorem s_ne (h : scal x y = true) (q : Q (.bl (!decide (x = y))) H) : rNe x y H Q := ⟨h, q⟩
theorem s_ixL {p : Addr} {xs : List V} {k : Int} (h : SqL K H p xs) (a : atI xs k = some v) (q : Q v H) : rIxL K (.ref p) (.int k) H Q := ⟨p, xs, k, v, rfl, rfl, h, a, q⟩
theorem s_ixT {p : Addr} {xs : List V} {k : Int} (h : SqT K H p xs) (a : atI xs k = some v) (q : Q v H) : rIxT K (.ref p) (.int k) H Q := ⟨p, xs, k, v, rfl, rfl, h, a, q⟩
theorem s_setL {p : Addr} {xs : List V} {k : Int} {j : Nat} {Q : Hp → Prop} (h : H p = some (.lst xs)) (a : ixN xs.length k = some j) (q : Q (upd H p (.lst (xs.set j v)))) : rSetL (.ref p) (.int k) v H Q := ⟨p, xs, k, j, rfl, rfl, h, a, q⟩
theorem s_append {p : Addr} {xs : List V} (h : H p = some (.lst xs)) (l : xs.length < sizeLine) (q : Q .non (upd H p (.lst (xs ++ [v])))) : rAppend (.ref p) [v] H Q := ⟨p, xs, v, rfl, rfl, h, l, q⟩
/-! what a test decides -/
theorem s_dec {c A B : Prop} [Decidable c] (h1 : c → A) (h2 : ¬ c → B) : if decide c = true then A else B := by
  by_cases h : c
  · rw [if_pos (decide_eq_true h)]; exact h1 h
  · rw [if_neg (by simpa using h)]; exact h2 h
theorem s_ndec {c A B : Prop} [Decidable c] (h1 : ¬ c → A) (h2 : c → B) : if (!decide c) = true then A else B := by
  by_cases h : c
  · rw [if_neg (by simpa using h)]; exact h2 h
  · rw [if_pos (by simpa using h)]; exact h1 h
theorem s_bool {c : Bool} {A B : Prop} (h1 : c = true → A) (h2 : c = false → B) : if c = true then A else B := by
  cases c with
  | true => rw [if_pos rfl]; exact h1 rfl
  | false => rw [if_neg Bool.false_ne_true]; exact h2 rfl
end
theorem st_start {t : TS} {D : Ends} {σ σ' : L2.St} {H : Hp} (e : σ = σ') (h : t D σ' H) : t D σ H := e ▸ h
theorem sq_l {K : PySem.W.Frag} {H : Hp} {a : Addr} {xs : List V} (h : H a = some (.lst xs)) : SqL K H a xs := .inl (.inl h)
theorem sq_t {K : PySem.W.Frag} {H : Hp} {a : Addr} {xs : List V} (h : H a = some (.tup xs)) : SqT K H a xs := .inl (.inl h)
theorem Kp.seqL {W : List Addr} {K : PySem.W.Frag} {H H' : Hp} {a : Addr} {xs : List V} (k : Kp W H H') (n : Nin a W) (h : SqL K H a xs) : SqL K H' a xs := by
  rcases h with (h | ⟨o, h⟩) | h
  · exact .inl (.inl (k _ _ n h))
  · exact .inl (.inr ⟨o, k _ _ n h⟩)
  · exact .inr h
end HL

/-! HLc: comprehensions by what they have made, isinstance, facts of the text's defs. -/
namespace HL
open PySem PySem.Spec PyProof.Rows L2

/-- a def of the text, called by its name: its promise -/
def DnF (P : Program) (w : World) (K : PySem.W.Frag) (mg : Str → Option Value) (base : Heap) (k : Nat) (x : Str) (ps : List Str) (sp : Sp) : Prop :=
  ∃ (f : Addr) (fd : FuncData), FnOk P w K mg base CX0 k f fd ps sp ∧ mg x = some (.ref f) ∧ PySem.W.keepIn K (.ref f) = true ∧ Binds K fd ps []
def DnG (P : Program) (w : World) (K : PySem.W.Frag) (mg : Str → Option Value) (base : Heap) (k : Nat) (x : Str) (ps : List Str) (sp : Sp) : Prop :=
  ∃ (f : Addr) (fd : FuncData), FnG P w K mg base k f fd ps sp ∧ mg x = some (.ref f) ∧ PySem.W.keepIn K (.ref f) = true ∧ Binds K fd ps []

/-! ### comprehensions: acc i is what is made behind i turns; W what the parts may change, R what is known of that -/
structure LcOk (D : Addr) (n : Nat) (acc : Nat → List V) (W : List Addr) (H1 : Hp) (R : Nat → Hp → Prop) : Prop where
  sz : n ≤ sizeLine
  a0 : acc 0 = []
  al : ∀ i, i ≤ n → (acc i).length ≤ i
  nD : H1 D = none
  nW : Nin D W
  st : ∀ i H o, R i H → R i (upd H D o)
def LcInv (D : Addr) (acc : Nat → List V) (W : List Addr) (H1 : Hp) (R : Nat → Hp → Prop) (i : Nat) (H : Hp) : Prop := H D = some (.lst (acc i)) ∧ Kp W H1 H ∧ R i H
section
variable {J : It} {n : Nat} {G : Hp → Prop} {Y : Nat → Hp → V → Hp → Prop} {D : Addr} {acc : Nat → List V} {W : List Addr} {H1 H H4 : Hp} {R : Nat → Hp → Prop} {i : Nat} {y : V}
theorem LcInv.put (I : LcInv D acc W H1 R i H) (L : LcOk D n acc W H1 R) (hi : i < n) (e : acc (i + 1) = acc i ++ [y]) (k : Kp W H H4) (r : R (i + 1) H4) :
    ∃ a, H4 D = some (.lst a) ∧ a.length < sizeLine ∧ LcInv D acc W H1 R (i + 1) (upd H4 D (.lst (a ++ [y]))) := by
  obtain ⟨p1, p2, p3⟩ := I
  refine ⟨acc i, k.get L.nW p1, ?_, by rw [upd_same, e], ?_, L.st _ _ _ r⟩
  · have h1 := L.al i (Nat.le_of_lt hi)
    have h2 := L.sz
    omega
  · exact (p2.step k (fun x hx => .inl hx)).upd_loc L.nD
theorem LcInv.skip (I : LcInv D acc W H1 R i H) (L : LcOk D n acc W H1 R) (e : acc (i + 1) = acc i) (k : Kp W H H4) (r : R (i + 1) H4) : LcInv D acc W H1 R (i + 1) H4 :=
  ⟨by rw [e]; exact k.get L.nW I.1, I.2.1.step k (fun x hx => .inl hx), r⟩
theorem lc_go (w : Walk J n G Y) (L : LcOk D n acc W H1 R) {g : TG} {tt : TT} {te : TE} {vs : List Nat} {σ : L2.St} {Qd : Hp → Prop} (r0 : R 0 H1) (hG : ∀ H, Kp W H1 H → G H)
    (hs : ∀ i x H H', i < n → LcInv D acc W H1 R i H → Y i H x H' → g x (wipe σ vs) H' fun σ2 H2 => wipe σ2 vs = wipe σ vs ∧ tt σ2 H2 fun b H3 =>
      if b = true then te σ2 H3 fun y H4 => ∃ a, H4 D = some (.lst a) ∧ a.length < sizeLine ∧ LcInv D acc W H1 R (i + 1) (upd H4 D (.lst (a ++ [y]))) else LcInv D acc W H1 R (i + 1) H3)
    (hd : ∀ H, LcInv D acc W H1 R n H → Qd H) :
    ∃ W : Nat → Nat → Hp → Prop, (∃ m, W 0 m (upd H1 D (.lst []))) ∧ ∀ i m H, W i m H →
      (J.stop i H ∧ Qd H) ∨ (J.go i H ∧ ∃ Nx : Hp → Prop, (∀ H', Nx H' → ∃ m', m' < m ∧ W (i + 1) m' H') ∧ ∀ x H', J.yld i H x H' → g x (wipe σ vs) H' fun σ2 H2 => wipe σ2 vs = wipe σ vs ∧ tt σ2 H2 fun b H3 =>
        if b = true then te σ2 H3 fun y H4 => ∃ acc, H4 D = some (.lst acc) ∧ acc.length < sizeLine ∧ Nx (upd H4 D (.lst (acc ++ [y]))) else Nx H3) :=
  lc_it w (LcInv D acc W H1 R) ⟨by rw [upd_same, L.a0], Kp.refl.upd_new L.nD, L.st _ _ _ r0⟩ (fun i H _ p => hG H p.2.1) hs hd
end
theorem LcOk.ofTake {D : Addr} {n : Nat} {ys : List V} {W : List Addr} {H1 : Hp} {R : Nat → Hp → Prop} (sz : n ≤ sizeLine) (nD : H1 D = none) (nW : Nin D W) (st : ∀ i H o, R i H → R i (upd H D o)) : LcOk D n (fun i => ys.take i) W H1 R :=
  ⟨sz, List.take_zero, fun i _ => by rw [List.length_take]; omega, nD, nW, st⟩
theorem take_put {α : Type} {l : List α} {i : Nat} {x : α} (h : l[i]? = some x) : l.take (i + 1) = l.take i ++ [x] := by
  rw [List.take_add_one, h]
  rfl
/-! ### comprehensions whose values are not told ahead: PL i xs of what is made behind i turns -/
structure LcOkP (D : Addr) (n : Nat) (PL : Nat → List V → Prop) (W : List Addr) (H1 : Hp) (R : Nat → Hp → Prop) : Prop where
  sz : n ≤ sizeLine
  a0 : PL 0 []
  nD : H1 D = none
  nW : Nin D W
  st : ∀ i H o, R i H → R i (upd H D o)
def LcInvP (D : Addr) (PL : Nat → List V → Prop) (W : List Addr) (H1 : Hp) (R : Nat → Hp → Prop) (i : Nat) (H : Hp) : Prop :=
  (∃ xs, H D = some (.lst xs) ∧ PL i xs ∧ xs.length ≤ i) ∧ Kp W H1 H ∧ R i H
section
variable {J : It} {n : Nat} {G : Hp → Prop} {Y : Nat → Hp → V → Hp → Prop} {D : Addr} {PL : Nat → List V → Prop} {W : List Addr} {H1 H H4 : Hp} {R : Nat → Hp → Prop} {i : Nat} {y : V}
theorem LcInvP.put (I : LcInvP D PL W H1 R i H) (L : LcOkP D n PL W H1 R) (hi : i < n) (e : ∀ xs, PL i xs → PL (i + 1) (xs ++ [y])) (k : Kp W H H4) (r : R (i + 1) H4) :
    ∃ a, H4 D = some (.lst a) ∧ a.length < sizeLine ∧ LcInvP D PL W H1 R (i + 1) (upd H4 D (.lst (a ++ [y]))) := by
  obtain ⟨⟨xs, p0, p1, pl⟩, p2, p3⟩ := I
  have h2 := L.sz
  refine ⟨xs, k.get L.nW p0, by omega, ⟨xs ++ [y], upd_same, e xs p1, by simp; exact pl⟩, ?_, L.st _ _ _ r⟩
  exact (p2.step k (fun x hx => .inl hx)).upd_loc L.nD
theorem lc_goP (w : Walk J n G Y) (L : LcOkP D n PL W H1 R) {g : TG} {tt : TT} {te : TE} {vs : List Nat} {σ : L2.St} {Qd : Hp → Prop} (r0 : R 0 H1) (hG : ∀ H, Kp W H1 H → G H)
    (hs : ∀ i x H H', i < n → LcInvP D PL W H1 R i H → Y i H x H' → g x (wipe σ vs) H' fun σ2 H2 => wipe σ2 vs = wipe σ vs ∧ tt σ2 H2 fun b H3 =>
      if b = true then te σ2 H3 fun y H4 => ∃ a, H4 D = some (.lst a) ∧ a.length < sizeLine ∧ LcInvP D PL W H1 R (i + 1) (upd H4 D (.lst (a ++ [y]))) else LcInvP D PL W H1 R (i + 1) H3)
    (hd : ∀ H, LcInvP D PL W H1 R n H → Qd H) :
    ∃ W : Nat → Nat → Hp → Prop, (∃ m, W 0 m (upd H1 D (.lst []))) ∧ ∀ i m H, W i m H →
      (J.stop i H ∧ Qd H) ∨ (J.go i H ∧ ∃ Nx : Hp → Prop, (∀ H', Nx H' → ∃ m', m' < m ∧ W (i + 1) m' H') ∧ ∀ x H', J.yld i H x H' → g x (wipe σ vs) H' fun σ2 H2 => wipe σ2 vs = wipe σ vs ∧ tt σ2 H2 fun b H3 =>
        if b = true then te σ2 H3 fun y H4 => ∃ acc, H4 D = some (.lst acc) ∧ acc.length < sizeLine ∧ Nx (upd H4 D (.lst (acc ++ [y]))) else Nx H3) :=
  lc_it w (LcInvP D PL W H1 R) ⟨⟨[], upd_same, L.a0, Nat.le_refl _⟩, Kp.refl.upd_new L.nD, L.st _ _ _ r0⟩ (fun i H _ p => hG H p.2.1) hs hd
end
/-! ### small steps more -/
section
variable {σ : L2.St} {H : Hp} {Q : VK} {K : PySem.W.Frag} {A B : Prop}
theorem s_lc {wi : TI} {g : TG} {tt : TT} {te : TE} {vs : List Nat} (h : wi σ H fun J H1 => ∀ D, H1 D = none → ∃ W : Nat → Nat → Hp → Prop, (∃ m, W 0 m (upd H1 D (.lst []))) ∧ ∀ i m H, W i m H →
  (J.stop i H ∧ Q (.ref D) H) ∨ (J.go i H ∧ ∃ Nx : Hp → Prop, (∀ H', Nx H' → ∃ m', m' < m ∧ W (i + 1) m' H') ∧ ∀ x H', J.yld i H x H' → g x (wipe σ vs) H' fun σ2 H2 => wipe σ2 vs = wipe σ vs ∧ tt σ2 H2 fun b H3 =>
    if b = true then te σ2 H3 fun y H4 => ∃ acc, H4 D = some (.lst acc) ∧ acc.length < sizeLine ∧ Nx (upd H4 D (.lst (acc ++ [y]))) else Nx H3)) : tLc wi g tt te vs σ H Q := h
theorem s_iStr {te : TE} {R : It → Hp → Prop} (h : te σ H fun v H1 => ∃ x, v = .str x ∧ R (Its x) H1) : iStr te σ H R := h
theorem s_iList {te : TE} {R : It → Hp → Prop} (h : te σ H fun x H1 => ∃ a, x = .ref a ∧ (∃ xs, SqL K H1 a xs) ∧ R (Itl K a) H1) : iList K te σ H R := h
theorem s_iTup {te : TE} {R : It → Hp → Prop} (h : te σ H fun x H1 => ∃ a, x = .ref a ∧ (∃ xs, SqT K H1 a xs) ∧ R (Itt K a) H1) : iTup K te σ H R := h
theorem s_iRng1 {ta : TA} {R : It → Hp → Prop} (h : ta σ H fun vs H1 => ∃ j : Int, vs = [.int j] ∧ -(2 ^ 62) ≤ j ∧ j < 2 ^ 62 ∧ R (Itr 0 j.toNat) H1) : iRng1 ta σ H R := h
theorem s_str {R : Str → Prop} {a : Str} (q : R a) : ∃ x, V.str a = .str x ∧ R x := ⟨a, rfl, q⟩
theorem s_ref {R : Addr → Prop} {a : Addr} (q : R a) : ∃ x, V.ref a = .ref x ∧ R x := ⟨a, rfl, q⟩
theorem s_yes {R : Bool → Hp → Prop} (q : R true H) : tYes σ H R := q
theorem s_for {wi : TI} {g : TG} {tb : TS} {E : Ends} (h : wi σ H fun J H1 => ∃ W : Nat → Nat → L2.St → Hp → Prop, (∃ m, W 0 m σ H1) ∧ ∀ i m σ H, W i m σ H →
      (J.stop i H ∧ E.nx σ H) ∨ (J.go i H ∧ ∃ N : L2.St → Hp → Prop, (∀ σ' H', N σ' H' → ∃ m', m' < m ∧ W (i + 1) m' σ' H') ∧ ∀ x H', J.yld i H x H' → g x σ H' fun σ2 H2 => tb { E with nx := N, ct := N, bk := E.nx } σ2 H2)) : tFor wi g tb E σ H := h
theorem i_T (h : A) : if true = true then A else B := by rw [if_pos rfl]; exact h
theorem i_F (h : B) : if false = true then A else B := by rw [if_neg Bool.false_ne_true]; exact h
theorem i_nT (h : B) : if (!true) = true then A else B := by rw [if_neg (by decide)]; exact h
theorem i_nF (h : A) : if (!false) = true then A else B := by rw [if_pos (by decide)]; exact h
theorem isi_ty {x : V} {t T : String} {b : Bool} (ht : TyX K H x (.type t)) (hk : kitB t T = some b) (q : Q (.bl b) H) : rIsi K [x, .ty T] H Q := ⟨x, .ty T, .type t, .type T, b, rfl, .ty T, ht, kit_ty hk, q⟩
theorem s_lenS {z : Str} (l : z.length ≤ sizeLine) (q : Q (.int z.length) H) : (fun (xs : List V) (H : Hp) (Q : VK) => ∃ z, xs = [.str z] ∧ z.length ≤ sizeLine ∧ Q (.int z.length) H) [.str z] H Q := ⟨z, rfl, l, q⟩
end
end HL

/-! HLm: words between dots, in plain Lean. -/
namespace HL
open PySem PySem.Spec PyProof.Rows L2 TL
def mkS (l : List Nat) : Str := ⟨l.toArray⟩
theorem tl_mkS (l : List Nat) : tl (mkS l) = l := rfl
theorem mkS_tl (z : Str) : mkS (tl z) = z := mk_tl z
theorem mkS_inj {a b : List Nat} (h : mkS a = mkS b) : a = b := by
  have := congrArg tl h
  exact this
theorem mkS_len (l : List Nat) : (mkS l).length = l.length := by rw [len_tl, tl_mkS]
theorem mkS_app (a b : List Nat) : mkS a ++ mkS b = mkS (a ++ b) := ext_tl (by rw [tl_append, tl_mkS, tl_mkS, tl_mkS])
/-- the words between dots; acc what the first one has already -/
def wds : List Nat → List Nat → List (List Nat)
  | acc, [] => [acc]
  | acc, c :: r => if c = 46 then acc :: wds [] r else wds (acc ++ [c]) r
theorem wds_spl : ∀ (l acc : List Nat), spl [46] 0 acc l = wds acc l
  | [], acc => by rw [spl_nil]; rfl
  | c :: r, acc => by
    by_cases h : c = 46
    · subst h
      rw [spl_hit (by simp [pre])]
      show acc :: spl [46] 0 [] r = _
      rw [wds_spl r]
      simp [wds]
    · rw [spl_miss (pre_of_head _ _ h), wds_spl r]
      simp [wds, h]
theorem map_mkS_tl (ys : List Str) : (ys.map tl).map mkS = ys := by
  rw [List.map_map]
  conv => rhs; rw [← List.map_id ys]
  exact List.map_congr_left fun a _ => mkS_tl a
/-- z.split('.') -/
theorem split_dot (z : Str) : Txt.split z "." = (wds [] (tl z)).map mkS := by
  have h := split_spl z "." (by decide +kernel) (kind_ok (by decide +kernel))
  rw [show tl "." = [46] from by decide +kernel, wds_spl] at h
  rw [← h, map_mkS_tl]
theorem wds_ne : ∀ (l acc : List Nat), wds acc l ≠ []
  | [], acc => by simp [wds]
  | c :: r, acc => by
    unfold wds
    split
    · simp
    · exact wds_ne r _
theorem wds_mem : ∀ (l acc p : List Nat), p ∈ wds acc l → p.length ≤ acc.length + l.length
  | [], acc, p, h => by simp [wds] at h; subst h; simp
  | c :: r, acc, p, h => by
    unfold wds at h
    split at h
    · rcases List.mem_cons.mp h with rfl | h
      · simp
      · have := wds_mem r [] p h
        simp at this ⊢
        omega
    · have := wds_mem r _ p h
      simp at this ⊢
      omega
theorem wds_length : ∀ (l acc : List Nat), (wds acc l).length ≤ l.length + 1
  | [], acc => by simp [wds]
  | c :: r, acc => by
    unfold wds
    split
    · have := wds_length r []
      simp
      omega
    · have := wds_length r (acc ++ [c])
      simp
      omega
theorem wds_sum : ∀ (l acc : List Nat), ((wds acc l).map List.length).sum ≤ acc.length + l.length
  | [], acc => by simp [wds]
  | c :: r, acc => by
    unfold wds
    split
    · have := wds_sum r []
      simp at this ⊢
      omega
    · have := wds_sum r (acc ++ [c])
      simp at this ⊢
      omega
/-- one sign more -/
def wst (s : List (List Nat) × List Nat) (c : Nat) : List (List Nat) × List Nat := if c = 46 then (s.1 ++ [s.2], []) else (s.1, s.2 ++ [c])
theorem wst_run : ∀ (l : List Nat) (p : List (List Nat)) (acc : List Nat), (l.foldl wst (p, acc)).1 ++ [(l.foldl wst (p, acc)).2] = p ++ wds acc l
  | [], p, acc => rfl
  | c :: r, p, acc => by
    rw [List.foldl_cons]
    by_cases h : c = 46
    · rw [show wst (p, acc) c = (p ++ [acc], []) by unfold wst; rw [if_pos h]]
      rw [wst_run r, List.append_assoc]
      simp [wds, h]
    · rw [show wst (p, acc) c = (p, acc ++ [c]) by unfold wst; rw [if_neg h]]
      rw [wst_run r]
      simp [wds, h]
theorem joinL_dot : ∀ {ps : List (List Nat)}, ps ≠ [] → (∀ p ∈ ps, 46 ∉ p) → wds [] (joinL [46] ps) = ps := fun hne h => by
  rw [← wds_spl]
  exact spl_join hne h
theorem wds_free : ∀ (l acc : List Nat), 46 ∉ acc → ∀ p ∈ wds acc l, 46 ∉ p
  | [], acc, h, p, hp => by simp [wds] at hp; subst hp; exact h
  | c :: r, acc, h, p, hp => by
    unfold wds at hp
    split at hp
    · rcases List.mem_cons.mp hp with rfl | hp
      · exact h
      · exact wds_free r [] (by simp) p hp
    · rename_i hc
      exact wds_free r _ (by simp [h]; exact fun e => hc e.symm) p hp
theorem sum_take_le (f : List Nat → Nat) : ∀ (l : List (List Nat)) (k : Nat), ((l.take k).map f).sum ≤ (l.map f).sum
  | [], k => by simp
  | a :: r, 0 => by simp
  | a :: r, k + 1 => by
    have := sum_take_le f r k
    rw [List.take_succ_cons, List.map_cons, List.sum_cons, List.map_cons, List.sum_cons]
    omega
theorem joinS (ps : List (List Nat)) : Txt.join "." (ps.map mkS) = mkS (joinL [46] ps) := ext_tl (by
  rw [join_eq, tl_join, List.map_map, show tl "." = [46] from by decide +kernel, tl_mkS]
  congr 1
  conv => rhs; rw [← List.map_id ps]
  exact List.map_congr_left fun a _ => tl_mkS a)
theorem eqvAll_strs : ∀ xs ys : List Str, PyData.eqvAll (xs.map PyData.str) (ys.map PyData.str) = decide (xs = ys)
  | [], [] => by simp [PyData.eqvAll]
  | [], _ :: _ => by simp [PyData.eqvAll]
  | _ :: _, [] => by simp [PyData.eqvAll]
  | x :: xs, y :: ys => by
    have ih := eqvAll_strs xs ys
    simp only [List.map_cons, PyData.eqvAll, ih, PyData.eqv]
    by_cases h : x = y
    · subst h; simp
    · simp [h]
theorem dpAll_strs {K : PySem.W.Frag} {H : Hp} : ∀ xs : List Str, DpAll K H (xs.map V.str) (xs.map PyData.str)
  | [] => .nil
  | x :: xs => .cons (.str x) (dpAll_strs xs)
theorem joinL_len (S : List Nat) : ∀ ps : List (List Nat), (joinL S ps).length ≤ (ps.map List.length).sum + ps.length * S.length
  | [] => by simp [joinL]
  | [p] => by simp [joinL]
  | p :: q :: r => by
    have ih := joinL_len S (q :: r)
    have e : joinL S (p :: q :: r) = p ++ S ++ joinL S (q :: r) := by simp [joinL]
    rw [e, List.length_append, List.length_append, List.map_cons, List.sum_cons, List.length_cons, Nat.add_mul]
    omega
theorem join_len (y : Str) (ps : List Str) : (Txt.join y ps).length ≤ (ps.map (·.length)).sum + ps.length * y.length := by
  have h := joinL_len (tl y) (ps.map tl)
  rw [len_tl, join_eq, tl_join]
  rw [List.length_map, List.map_map, ← len_tl] at h
  have e : (List.map (List.length ∘ tl) ps) = ps.map (·.length) := List.map_congr_left fun a _ => (len_tl a).symm
  rw [e] at h
  exact h
theorem sum_le_of {l : List Str} {m : Nat} (h : ∀ y ∈ l, y.length ≤ m) : (l.map (·.length)).sum ≤ l.length * m := by
  induction l with
  | nil => simp
  | cons a r ih =>
    have h1 := h a List.mem_cons_self
    have h2 := ih fun y hy => h y (List.mem_cons_of_mem _ hy)
    rw [List.map_cons, List.sum_cons, List.length_cons, Nat.add_mul]
    omega
/-- codes that a text may have -/
def OkL (l : List Nat) : Prop := ∀ c ∈ l, c < 1114112
theorem OkL.app {a b : List Nat} (h : OkL a) (g : OkL b) : OkL (a ++ b) := fun c hc => (List.mem_append.mp hc).elim (h c) (g c)
theorem OkL.str {l : List Nat} (h : OkL l) : PyData.strOk (mkS l) = true := by
  unfold PyData.strOk mkS
  simp only [List.all_toArray, List.all_eq_true]
  intro c hc
  simpa using h c hc
theorem OkL.strT {z : Str} (h : OkL (tl z)) : PyData.strOk z = true := by
  have := OkL.str h
  rw [mkS_tl] at this
  exact this
theorem atI_mem {α : Type} {xs : List α} {i : Int} {v : α} (h : atI xs i = some v) : v ∈ xs := by
  unfold atI at h
  cases e : ixN xs.length i with
  | none => rw [e] at h; cases h
  | some j => rw [e] at h; exact List.mem_of_getElem? h
theorem joinL_mem {S : List Nat} {c : Nat} : ∀ ps : List (List Nat), c ∈ joinL S ps → c ∈ S ∨ ∃ p ∈ ps, c ∈ p
  | [], h => by simp [joinL] at h
  | [p], h => .inr ⟨p, by simp, by simpa [joinL] using h⟩
  | p :: q :: r, h => by
    have e : joinL S (p :: q :: r) = p ++ (S ++ joinL S (q :: r)) := rfl
    rw [e] at h
    rcases List.mem_append.mp h with h | h
    · exact .inr ⟨p, by simp, h⟩
    rcases List.mem_append.mp h with h | h
    · exact .inl h
    rcases joinL_mem (q :: r) h with h | ⟨y, hy, hc⟩
    · exact .inl h
    · exact .inr ⟨y, List.mem_cons_of_mem _ hy, hc⟩
theorem OkL.join {s : Str} {ys : List Str} (h : OkL (tl s)) (g : ∀ y ∈ ys, OkL (tl y)) : OkL (tl (Txt.join s ys)) := fun c hc => by
  rw [join_eq, tl_join] at hc
  rcases joinL_mem _ hc with e | ⟨p, hp, e⟩
  · exact h c e
  · obtain ⟨y, hy, rfl⟩ := List.mem_map.mp hp
    exact g y hy c e
theorem wds_sub : ∀ (l acc p : List Nat), p ∈ wds acc l → ∀ c ∈ p, c ∈ acc ∨ c ∈ l
  | [], acc, p, h, c, hc => by simp [wds] at h; subst h; exact .inl hc
  | a :: r, acc, p, h, c, hc => by
    unfold wds at h
    split at h
    · rcases List.mem_cons.mp h with rfl | h
      · exact .inl hc
      · rcases wds_sub r [] p h c hc with e | e
        · cases e
        · exact .inr (List.mem_cons_of_mem _ e)
    · rcases wds_sub r _ p h c hc with e | e
      · rcases List.mem_append.mp e with e | e
        · exact .inl e
        · rw [List.mem_singleton.mp e]
          exact .inr List.mem_cons_self
      · exact .inr (List.mem_cons_of_mem _ e)
theorem OkL.wds {l : List Nat} (h : OkL l) : ∀ p ∈ wds [] l, OkL p := fun p hp c hc => by
  rcases wds_sub l [] p hp c hc with e | e
  · cases e
  · exact h c e
theorem OkL.cut {z : Str} (h : OkL (tl z)) (lo hi : Option Int) : OkL (tl (cutS z lo hi)) := fun c hc => by
  apply h
  have hc2 : c ∈ List.take (HT.sIx z.length z.length hi - HT.sIx z.length 0 lo) (List.drop (HT.sIx z.length 0 lo) z.cps.toList) := hc
  exact List.mem_of_mem_drop (List.mem_of_mem_take hc2)
theorem shaped_strs {xs : List Str} (h : ∀ x ∈ xs, PyData.strOk x = true) : SeqAt.shaped (.list (xs.map PyData.str)) = true := by
  have e : ∀ ys : List Str, (∀ x ∈ ys, PyData.strOk x = true) → PyData.canLayAll0 (ys.map PyData.str) = true ∧ PyData.depthAll (ys.map PyData.str) = 0 := by
    intro ys
    induction ys with
    | nil => intro _; simp [PyData.canLayAll0, PyData.depthAll]
    | cons a r ih =>
      intro g
      obtain ⟨h1, h2⟩ := ih fun x hx => g x (List.mem_cons_of_mem _ hx)
      simp [PyData.canLayAll0, PyData.depthAll, PyData.canLay0, PyData.depth, h1, h2, g a List.mem_cons_self]
  obtain ⟨h1, h2⟩ := e xs h
  unfold SeqAt.shaped
  simp [PyData.canLay0, PyData.depth, h1, h2]
/-- what a name is -/
def lets : List Nat := tl "abcdefghijklmnopqrstuvwxyz"
def isNameL (l : List Nat) : Bool := decide (1 ≤ l.length) && decide (l.length ≤ 8) && l.all fun c => decide (c ∈ lets)
def isPathL (l : List Nat) : Bool := decide ((wds [] l).length ≤ 4) && (wds [] l).all isNameL
theorem joinL_cons (S p : List Nat) {ps : List (List Nat)} (h : ps ≠ []) : joinL S (p :: ps) = p ++ (S ++ joinL S ps) := by
  cases ps with
  | nil => exact absurd rfl h
  | cons a r => rfl
theorem joinL_wds : ∀ (l acc : List Nat), joinL [46] (wds acc l) = acc ++ l
  | [], acc => by simp [wds, joinL]
  | c :: r, acc => by
    unfold wds
    split
    · rename_i h
      rw [joinL_cons _ _ (wds_ne _ _), joinL_wds r []]
      simp [h]
    · rw [joinL_wds r _]
      simp
theorem wds_one : ∀ (l acc : List Nat), (wds acc l).length = 1 → wds acc l = [acc ++ l]
  | [], acc, _ => by simp [wds]
  | c :: r, acc, h => by
    unfold wds at h ⊢
    split at h
    · have := List.length_pos_iff.mpr (wds_ne r [])
      simp at h
      exact absurd h (wds_ne r [])
    · rename_i hc
      rw [if_neg hc, wds_one r _ h]
      simp
theorem wds_nodot : ∀ (l acc : List Nat), 46 ∉ l → wds acc l = [acc ++ l]
  | [], acc, _ => by simp [wds]
  | c :: r, acc, h => by
    have hc : c ≠ 46 := fun e => h (by simp [e])
    unfold wds
    rw [if_neg hc, wds_nodot r _ fun q => h (List.mem_cons_of_mem _ q)]
    simp
theorem name_nodot {l : List Nat} (h : isNameL l = true) : 46 ∉ l := fun hm => by
  unfold isNameL at h
  simp only [Bool.and_eq_true, List.all_eq_true, decide_eq_true_eq] at h
  have := h.2 46 hm
  revert this
  decide +kernel
theorem name_words (l : List Nat) : isNameL l = (decide ((wds [] l).length = 1) && (wds [] l).all isNameL) := by
  by_cases h1 : (wds [] l).length = 1
  · rw [wds_one l [] h1]
    simp
  · rw [decide_eq_false h1, Bool.false_and]
    cases h : isNameL l with
    | false => rfl
    | true => exact absurd (by rw [wds_nodot l [] (name_nodot h)]; rfl) h1
end HL

/-! HLk: the rules with the written part K named, for use within a comprehension's block too. -/
namespace HL
open PySem PySem.Spec PyProof.Rows L2 TL
def rLen (K : PySem.W.Frag) : List V → Hp → VK → Prop := fun vs H Q =>
  ∃ p ys, vs = [.ref p] ∧ (SqL K H p ys ∨ SqT K H p ys) ∧ Q (.int ys.length) H
def rLenS : List V → Hp → VK → Prop := fun vs H Q =>
  ∃ z : Str, vs = [.str z] ∧ z.length ≤ sizeLine ∧ Q (.int z.length) H
def rListOf (K : PySem.W.Frag) : List V → Hp → VK → Prop := fun vs H Q =>
  ∃ p ys, vs = [.ref p] ∧ (SqL K H p ys ∨ SqT K H p ys) ∧ ∀ l, H l = none → Q (.ref l) (upd H l (.lst ys))
def rTupleOf (K : PySem.W.Frag) : List V → Hp → VK → Prop := fun vs H Q =>
  ∃ p ys, vs = [.ref p] ∧ ((SqL K H p ys ∧ ∀ l, H l = none → Q (.ref l) (upd H l (.tup ys))) ∨ (SqT K H p ys ∧ Q (.ref p) H))
def rJoin (K : PySem.W.Frag) : V → List V → Hp → VK → Prop := fun x vs H Q =>
  ∃ a p, ∃ ys : List Str, x = .str a ∧ vs = [.ref p] ∧ (SqL K H p (ys.map V.str) ∨ SqT K H p (ys.map V.str)) ∧
    (ys.map (·.length)).sum + ys.length * a.length ≤ 16777216 ∧ Q (.str (Txt.join a ys)) H
def rSplit : V → List V → Hp → VK → Prop := fun x vs H Q =>
  ∃ a b, x = .str a ∧ vs = [.str b] ∧ (b.length == 0) = false ∧ a.length + 2 ≤ sizeLine ∧ rNewStrs (Txt.split a b) H Q
def rAddS : R2 := fun x y H Q => ∃ i j, x = .str i ∧ y = .str j ∧ i.length + j.length ≤ sizeLine ∧ Q (.str (i ++ j)) H
def rInSg : R2 := fun x y H Q => ∃ (c : Nat) (z : Str), x = .str ⟨#[c]⟩ ∧ y = .str z ∧ Q (.bl (decide (c ∈ z.cps.toList))) H
def rDivmod : List V → Hp → VK → Prop := fun vs H Q => ∃ i j, vs = [.int i, .int j] ∧ CDiv i j ∧ ∀ p, H p = none → Q (.ref p) (upd H p (.tup [.int (i / j), .int (i % j)]))
section
variable {X : Cx} {K : PySem.W.Frag} {e tg : Expr} {to : TE} {tl : TA} {T : String} {r : V → List V → Hp → VK → Prop}
theorem addS : OpR X (binaryOp .Add) rAddS := op_add_str
theorem inSg : OpR X (compareOp .In) rInSg := op_in_sign
theorem divmodR : CallR X (.builtin "divmod") rDivmod := call_divmod
theorem ixLK (h : X.K = K) : IxR X (rIxL K) := h ▸ ix_list
theorem ixTK (h : X.K = K) : IxR X (rIxT K) := h ▸ ix_tup
theorem slLK (h : X.K = K) : SlR X (rSlL K) := h ▸ sl_list
theorem slTK (h : X.K = K) : SlR X (rSlT K) := h ▸ sl_tup
theorem inK (h : X.K = K) : OpR X (compareOp .In) (rIn K false) := h ▸ op_in_seq
theorem ninK (h : X.K = K) : OpR X (compareOp .NotIn) (rIn K true) := h ▸ op_notIn_seq
theorem eqDK (h : X.K = K) (hu : X.A.units + 64 < cLine) : OpR X (compareOp .Eq) (rEqD K) := h ▸ op_eqD hu
theorem neDK (h : X.K = K) (hu : X.A.units + 64 < cLine) : OpR X (compareOp .NotEq) (rNeD K) := h ▸ op_neD hu
theorem lenK (h : X.K = K) : CallR X (.builtin "len") (rLen K) := h ▸ call_len_seq
theorem lenS : CallR X (.builtin "len") rLenS := call_len_str
theorem listK (h : X.K = K) : CallR X (.type "list") (rListOf K) := h ▸ call_list_of
theorem tupleK (h : X.K = K) : CallR X (.type "tuple") (rTupleOf K) := h ▸ call_tuple_of
theorem joinK (h : X.K = K) : MtR X "str.join" (rJoin K) := h ▸ mt_join
theorem splitR : MtR X "str.split" rSplit := mt_split
theorem isiK (h : X.K = K) : CallR X (.builtin "isinstance") (rIsi K) := h ▸ call_isi
theorem allK (h : X.K = K) (hc : X.calm = true) : CallR X (.builtin "all") (rAll K) := h ▸ cr_all hc
theorem anyK (h : X.K = K) (hc : X.calm = true) : CallR X (.builtin "any") (rAny K) := h ▸ cr_any hc
theorem reprK (h : X.K = K) (hg : X.A.guards = some []) (hu : X.A.units + 64 < cLine) : CallR X (.builtin "repr") (rReprD K) := h ▸ call_reprD hg hu
theorem kBM (h : X.K = K) (p : PE X e (tBM X.K T r to tl)) : PE X e (tBM K T r to tl) := h ▸ p
theorem kBM0 (h : X.K = K) (p : PE X e (tBM0 X.K T r to)) : PE X e (tBM0 K T r to) := h ▸ p
theorem kFld {f : Str} (h : X.K = K) (p : PE X e (tFld X.K to f)) : PE X e (tFld K to f) := h ▸ p
theorem kiL (h : X.K = K) (p : PI X tg e (iList X.K to)) : PI X tg e (iList K to) := h ▸ p
theorem kiT (h : X.K = K) (p : PI X tg e (iTup X.K to)) : PI X tg e (iTup K to) := h ▸ p
theorem kiE (h : X.K = K) (p : PI X tg e (iEnum X.K tl)) : PI X tg e (iEnum K tl) := h ▸ p
theorem kgT {n : Nat} {g : TGs} (h : X.K = K) (p : PG X e (gTup X.K n g)) : PG X e (gTup K n g) := h ▸ p
end
/-- a statement, what follows behind it: stopped at by the steps, to be cut by an invariant -/
def tCut (t u : TS) : TS := tSeq t u
theorem pss_cut2 {X : Cx} {st : Stmt} {rest : List Stmt} {t u : TS} (h1 : PS X st t) (h2 : PSs X rest u) : PSs X (st :: rest) (tCut t u) := pss_cons h1 h2
theorem s_cut {t u : TS} {D : Ends} {σ : L2.St} {H : Hp} (Iv : L2.St → Hp → Prop) (h1 : ∀ J : L2.St → Hp → Prop, (∀ σ H, Iv σ H → J σ H) → t { D with nx := J } σ H) (h2 : ∀ σ H, Iv σ H → u D σ H) : tCut t u D σ H := h1 (u D) h2
/-- a for over a walk: Pv by the turn, the slots, the heap -/
theorem for_go {J : It} {n : Nat} {G : Hp → Prop} {Y : Nat → Hp → V → Hp → Prop} (w : Walk J n G Y) {g : TG} {tb : TS} {nx : L2.St → Hp → Prop} {rt : VK} {σ : L2.St} {H : Hp}
    (Pv : Nat → L2.St → Hp → Prop) (h0 : Pv 0 σ H) (hG : ∀ i σ H, i ≤ n → Pv i σ H → G H)
    (hs : ∀ i x σ H H', i < n → Pv i σ H → Y i H x H' → g x σ H' fun σ2 H2 => tb { nx := Pv (i + 1), rt := rt, bk := nx, ct := Pv (i + 1) } σ2 H2) (hd : ∀ σ H, Pv n σ H → nx σ H) :
    ∃ W : Nat → Nat → L2.St → Hp → Prop, (∃ m, W 0 m σ H) ∧ ∀ i m σ H, W i m σ H → (J.stop i H ∧ nx σ H) ∨
      (J.go i H ∧ ∃ N : L2.St → Hp → Prop, (∀ σ' H', N σ' H' → ∃ m', m' < m ∧ W (i + 1) m' σ' H') ∧
        ∀ x H', J.yld i H x H' → g x σ H' fun σ2 H2 => tb { nx := N, rt := rt, bk := nx, ct := N } σ2 H2) :=
  for_it w (D := { nx := nx, rt := rt }) Pv h0 hG hs hd
/-! ### steps of these -/
section
variable {σ : L2.St} {H : Hp} {Q : VK} {K : PySem.W.Frag} {p : Addr} {ys : List V}
theorem s_lenL (h : SqL K H p ys) (q : Q (.int ys.length) H) : rLen K [.ref p] H Q := ⟨p, ys, rfl, .inl h, q⟩
theorem s_lenT (h : SqT K H p ys) (q : Q (.int ys.length) H) : rLen K [.ref p] H Q := ⟨p, ys, rfl, .inr h, q⟩
theorem s_lenStr {z : Str} (h : z.length ≤ sizeLine) (q : Q (.int z.length) H) : rLenS [.str z] H Q := ⟨z, rfl, h, q⟩
theorem s_listL (h : SqL K H p ys) (q : ∀ l, H l = none → Q (.ref l) (upd H l (.lst ys))) : rListOf K [.ref p] H Q := ⟨p, ys, rfl, .inl h, q⟩
theorem s_tupL (h : SqL K H p ys) (q : ∀ l, H l = none → Q (.ref l) (upd H l (.tup ys))) : rTupleOf K [.ref p] H Q := ⟨p, ys, rfl, .inl ⟨h, q⟩⟩
theorem s_joinL {a : Str} {zs : List Str} (h : SqL K H p (zs.map V.str)) (l : (zs.map (·.length)).sum + zs.length * a.length ≤ 16777216) (q : Q (.str (Txt.join a zs)) H) : rJoin K (.str a) [.ref p] H Q := ⟨a, p, zs, rfl, rfl, .inl h, l, q⟩
theorem s_splitS {a b : Str} (h1 : (b.length == 0) = false) (h2 : a.length + 2 ≤ sizeLine) (q : ∀ p, H p = none → Q (.ref p) (upd H p (.lst ((Txt.split a b).map V.str)))) : rSplit (.str a) [.str b] H Q := ⟨a, b, rfl, rfl, h1, h2, q⟩
theorem s_slL {lo hi : Option Int} (h : SqL K H p ys) (q : ∀ l, H l = none → Q (.ref l) (upd H l (.lst (cutV ys lo hi)))) : rSlL K (.ref p) lo hi H Q := ⟨p, ys, rfl, h, q⟩
theorem s_slS {z : Str} {lo hi : Option Int} (h : z.length ≤ sizeLine) (q : Q (.str (cutS z lo hi)) H) : rSlS (.str z) lo hi H Q := ⟨z, rfl, h, q⟩
theorem s_ixS {z : Str} {k : Int} {c : Nat} (h : z.length ≤ sizeLine) (a : atI z.cps.toList k = some c) (q : Q (.str ⟨#[c]⟩) H) : rIxS (.str z) (.int k) H Q := ⟨z, k, c, rfl, rfl, h, a, q⟩
theorem s_addS {a b : Str} (l : a.length + b.length ≤ sizeLine) (q : Q (.str (a ++ b)) H) : rAddS (.str a) (.str b) H Q := ⟨a, b, rfl, rfl, l, q⟩
theorem s_inSg {c : Nat} {z : Str} (q : Q (.bl (decide (c ∈ z.cps.toList))) H) : rInSg (.str ⟨#[c]⟩) (.str z) H Q := ⟨c, z, rfl, rfl, q⟩
theorem s_divmod {a b : Int} (c : CDiv a b) (q : ∀ p, H p = none → Q (.ref p) (upd H p (.tup [.int (a / b), .int (a % b)]))) : rDivmod [.int a, .int b] H Q := ⟨a, b, rfl, c, q⟩
theorem s_U {g : Int → V} {i : Int} (q : Q (g i) H) : rU g (.int i) H Q := ⟨i, rfl, q⟩
theorem s_nn {P : Prop} (q : P) : V.non = V.non ∧ P := ⟨rfl, q⟩
theorem s_tyL {P : Prop} (h : H p = some (.lst ys)) (q : P) : tyV K "list" (.ref p) H ∧ P := ⟨.inl ⟨rfl, _, sq_l h⟩, q⟩
theorem s_all {bs : List Bool} (h : SqL K H p (bs.map V.bl)) (q : Q (.bl (bs.all id)) H) : rAll K [.ref p] H Q := ⟨p, bs, rfl, h, q⟩
theorem s_any {bs : List Bool} (h : SqL K H p (bs.map V.bl)) (q : Q (.bl (bs.any id)) H) : rAny K [.ref p] H Q := ⟨p, bs, rfl, h, q⟩
theorem s_eqD {x y : V} {d e : PyData} (hd : Dp K H x d) (he : Dp K H y e) (sd : SeqAt.shaped d = true) (se : SeqAt.shaped e = true) (q : Q (.bl (PyData.eqv d e)) H) : rEqD K x y H Q := ⟨d, e, hd, he, sd, se, q⟩
theorem s_neD {x y : V} {d e : PyData} (hd : Dp K H x d) (he : Dp K H y e) (sd : SeqAt.shaped d = true) (se : SeqAt.shaped e = true) (q : Q (.bl (!PyData.eqv d e)) H) : rNeD K x y H Q := ⟨d, e, hd, he, sd, se, q⟩
end
end HL

/-! HLd: plain data (Dp) kept, its kinds. -/
namespace HL
open PySem PySem.Spec PyProof.Rows L2 TL
theorem Kp.seqT {W : List Addr} {K : PySem.W.Frag} {H H' : Hp} {a : Addr} {xs : List V} (k : Kp W H H') (n : Nin a W) (h : SqT K H a xs) : SqT K H' a xs := by
  rcases h with (h | ⟨o, h⟩) | h
  · exact .inl (.inl (k _ _ n h))
  · exact .inl (.inr ⟨o, k _ _ n h⟩)
  · exact .inr h
mutual
theorem Dp.same {K : PySem.W.Frag} {H H' : Hp} (k : Kp [] H H') : ∀ (d : PyData) (v : V), Dp K H v d → Dp K H' v d
  | .none, _, h => by cases h; exact .non
  | .bool b, _, h => by cases h; exact .bl b
  | .int i, _, h => by cases h; exact .int i
  | .str x, _, h => by cases h; exact .str x
  | .list ds, _, h => by
    cases h with
    | lst hs ha => exact .lst (k.seqL trivial hs) (Dp.sameAll k ds _ ha)
  | .tuple ds, _, h => by
    cases h with
    | tup hs ha => exact .tup (k.seqT trivial hs) (Dp.sameAll k ds _ ha)
  | .dict _, _, h => by cases h
theorem Dp.sameAll {K : PySem.W.Frag} {H H' : Hp} (k : Kp [] H H') : ∀ (ds : List PyData) (vs : List V), DpAll K H vs ds → DpAll K H' vs ds
  | [], _, h => by cases h; exact .nil
  | d :: ds, _, h => by
    cases h with
    | cons h1 h2 => exact .cons (Dp.same k d _ h1) (Dp.sameAll k ds _ h2)
end
/-- the tuples stay -/
def TupK (H H' : Hp) : Prop := ∀ a xs, Rd H a (.tup xs) → Rd H' a (.tup xs)
mutual
/-- data of tuples alone -/
def flatD : PyData → Bool
  | .none | .bool _ | .int _ | .str _ => true
  | .tuple xs => flatAll xs
  | .list _ | .dict _ => false
def flatAll : List PyData → Bool
  | [] => true
  | x :: xs => flatD x && flatAll xs
end
mutual
theorem Dp.tups {K : PySem.W.Frag} {H H' : Hp} (k : TupK H H') : ∀ (d : PyData) (v : V), flatD d = true → Dp K H v d → Dp K H' v d
  | .none, _, _, h => by cases h; exact .non
  | .bool b, _, _, h => by cases h; exact .bl b
  | .int i, _, _, h => by cases h; exact .int i
  | .str x, _, _, h => by cases h; exact .str x
  | .list ds, _, f, h => by simp [flatD] at f
  | .tuple ds, _, f, h => by
    cases h with
    | tup hs ha =>
      refine .tup ?_ (Dp.tupsAll k ds _ (by simpa [flatD] using f) ha)
      rcases hs with hs | hs
      · exact .inl (k _ _ hs)
      · exact .inr hs
  | .dict _, _, _, h => by cases h
theorem Dp.tupsAll {K : PySem.W.Frag} {H H' : Hp} (k : TupK H H') : ∀ (ds : List PyData) (vs : List V), flatAll ds = true → DpAll K H vs ds → DpAll K H' vs ds
  | [], _, _, h => by cases h; exact .nil
  | d :: ds, _, f, h => by
    simp only [flatAll, Bool.and_eq_true] at f
    cases h with
    | cons h1 h2 => exact .cons (Dp.tups k d _ f.1 h1) (Dp.tupsAll k ds _ f.2 h2)
end
/-- what holds no tuple -/
def NoTup (H : Hp) (a : Addr) : Prop := ∀ xs, ¬ Rd H a (.tup xs)
theorem TupK.of {W : List Addr} {H H' : Hp} (k : Kp W H H') (n : ∀ x ∈ W, NoTup H x) : TupK H H' := fun a xs h => by
  have na : Nin a W := Nin.intro fun x hx e => n x hx xs (e ▸ h)
  rcases h with h | ⟨o, h⟩
  · exact .inl (k _ _ na h)
  · exact .inr ⟨o, k _ _ na h⟩
theorem NoTup.lst {H : Hp} {a : Addr} {xs : List V} (h : H a = some (.lst xs)) : NoTup H a := fun ys r => by
  rcases r with r | ⟨o, r⟩
  · rw [h] at r
    cases r
  · rw [h] at r
    cases r
theorem TupK.trans {A B C : Hp} (h : TupK A B) (g : TupK B C) : TupK A C := fun a xs r => g a xs (h a xs r)
/-- the built-in type of plain data -/
def tyD : PyData → String
  | .none => "NoneType"
  | .bool _ => "bool"
  | .int _ => "int"
  | .str _ => "str"
  | .list _ => "list"
  | .tuple _ => "tuple"
  | .dict _ => "dict"
theorem Dp.ty {K : PySem.W.Frag} {H : Hp} : ∀ {d : PyData} {v : V}, Dp K H v d → TyX K H v (.type (tyD d))
  | _, _, .non => .base .non
  | _, _, .bl b => .base (.bl b)
  | _, _, .int i => .base (.int i)
  | _, _, .str x => .base (.str x)
  | _, _, .lst hs _ => by
    rcases hs with (h | ⟨o, h⟩) | ⟨o, its, n, h, hc, _⟩
    · exact .base (.lst h)
    · exact .base (.frz h)
    · exact .kList h hc
  | _, _, .tup hs _ => by
    rcases hs with (h | ⟨o, h⟩) | ⟨o, its, n, h, hc, _⟩
    · exact .base (.tup h)
    · exact .fTuple h
    · exact .kTuple h hc
end HL

/-! HLe: more rules with K named: len(set(t)), wide divmod, xs[::-1], str, int, unpacking a list. -/
namespace HL
open PySem PySem.Spec PyProof.Rows L2
def rDivmodP : List V → Hp → VK → Prop := fun vs H Q => ∃ i j, vs = [.int i, .int j] ∧ CDivP i j ∧ ∀ p, H p = none → Q (.ref p) (upd H p (.tup [.int (i / j), .int (i % j)]))
def rStrOf : List V → Hp → VK → Prop := fun vs H Q => (∃ a, vs = [.str a] ∧ Q (.str a) H) ∨ ∃ i : Int, vs = [.int i] ∧ i.natAbs.log2 < 1920 ∧ Q (.str (toString i)) H
def rIntOf : List V → Hp → VK → Prop := fun vs H Q => ∃ a n, vs = [.str a] ∧ intText? a = some n ∧ a.length ≤ 640 ∧ Q (.int n) H
def rStarts : V → List V → Hp → VK → Prop := fun x vs H Q => ∃ a b, x = .str a ∧ vs = [.str b] ∧ Q (.bl (Txt.startswith a b)) H
section
variable {X : Cx} {K : PySem.W.Frag} {e : Expr} {te : TE}
theorem divmodPR : CallR X (.builtin "divmod") rDivmodP := call_divmodW
theorem strOfR : CallR X (.type "str") rStrOf := fun pins s σ H xs us Q I r h => h.elim
  (fun z => SkE.call_str_str pins s σ H xs us Q I r z) (fun z => call_str_int pins s σ H xs us Q I r z)
theorem intOfR : CallR X (.type "int") rIntOf := call_int_str
theorem startsR : MtR X "str.startswith" rStarts := mt_startswith
theorem revK {k : Nat} {p1 p2 p3 pos : Pos} (hK : X.K = K) (he : PE X e te) : PE X (.Subscript e (.Slice none none (some (.UnaryOp .USub (.Constant (.int 1) k p1) p2)) p3) pos) (tRevL K te) := hK ▸ pe_revL he
theorem kgU {n : Nat} {g : TGs} {tg : Expr} (h : X.K = K) (p : PG X tg (gUnl X.K n g)) : PG X tg (gUnl K n g) := h ▸ p
end
section
variable {σ : L2.St} {H : Hp} {Q : VK} {K : PySem.W.Frag} {a : Addr} {xs : List V}
theorem s_divP {i j : Int} (j0 : 0 < j) (jm : j ≤ 2000000000000000000000000000000000000000000000000000000000000) (q : ∀ p, H p = none → Q (.ref p) (upd H p (.tup [.int (i / j), .int (i % j)]))) : rDivmodP [.int i, .int j] H Q := by
  refine ⟨i, j, rfl, ⟨j0, PyProof.noPylong_of_log2 ?_⟩, q⟩
  have h : j.natAbs ≤ 2000000000000000000000000000000000000000000000000000000000000 := by omega
  exact (Nat.log2_lt (by omega)).mpr (Nat.lt_of_le_of_lt h (by decide +kernel))
theorem s_revL {te : TE} (h : te σ H fun x H1 => ∃ a xs, x = .ref a ∧ SqL K H1 a xs ∧ ∀ p, H1 p = none → Q (.ref p) (upd H1 p (.lst xs.reverse))) : tRevL K te σ H Q := h
theorem s_gunl {n : Nat} {g : TGs} {R : L2.St → Hp → Prop} (h : SqL K H a xs) (l : xs.length = n) (q : g xs σ H R) : gUnl K n g (.ref a) σ H R := ⟨a, xs, rfl, h, l, q⟩
theorem s_slT {lo hi : Option Int} (h : SqT K H a xs) (n : ¬ (HT.sIx xs.length 0 lo = 0 ∧ HT.sIx xs.length xs.length hi = xs.length)) (q : ∀ l, H l = none → Q (.ref l) (upd H l (.tup (cutV xs lo hi)))) : rSlT K (.ref a) lo hi H Q := ⟨a, xs, rfl, h, n, q⟩
end
/-! ### xs == [], xs != [] -/
def rNil (K : PySem.W.Frag) (f : Bool → Bool) : R2 := fun x y H Q => ∃ a b xs, x = .ref a ∧ y = .ref b ∧ SqL K H a xs ∧ SqL K H b [] ∧ Q (.bl (f xs.isEmpty)) H
section
variable {X : Cx} {K : PySem.W.Frag}
theorem nil_sizes {K : PySem.W.Frag} {X : Cx} (hK : X.K = K) {pins : List (Addr × Obj)} {σ : L2.St} {H : Hp} {s : Shared} (I : Inv X pins σ H s) {a b : Addr} {xs : List V} (ha : SqL K H a xs) (hb : SqL K H b []) :
    ∃ us ws : Array Value, s.heap.IsList a us ∧ s.heap.IsList b ws ∧ us.size = xs.length ∧ ws.size = 0 := by
  subst hK
  obtain ⟨us, r1, p1, _⟩ := I.list ha
  obtain ⟨ws, r2, p2, _⟩ := I.list hb
  exact ⟨us.toArray, ws.toArray, p1.isList, p2.isList, by rw [List.size_toArray, ← r1.length], by rw [List.size_toArray, ← r2.length]; rfl⟩
theorem eqNilK (hK : X.K = K) (hu : X.A.units + 64 < cLine) : OpR X (compareOp .Eq) (rNil K fun b => b) := by
  intro pins s σ H x y v u Q I rx ry h
  obtain ⟨a, b, xs, rfl, rfl, ha, hb, q⟩ := h
  cases rx
  cases ry
  obtain ⟨us, ws, p1, p2, n1, n2⟩ := nil_sizes hK I ha hb
  have room : X.A.units < cLine := by omega
  show wpAny (model X.prog X.w) X.A (richCompare .Eq (.ref a) (.ref b)) (EP X pins σ Q) X.xe s
  cases xs with
  | nil =>
    have z := SeqAt.RcAt.lists (e := fun _ => true) p1 p2 (n1.trans n2.symm) room (fun j h1 _ => absurd h1 (by rw [n1]; exact Nat.not_lt_zero j))
    rw [n1] at z
    exact z _ _ _ _ ⟨.bl true, H, I, rfl, q⟩
  | cons c r =>
    exact SeqAt.RcAt.lists_lengths p1 p2 (by rw [n1, n2]; rfl) room _ _ _ _ ⟨.bl false, H, I, rfl, q⟩
theorem neNilK (hK : X.K = K) (hu : X.A.units + 64 < cLine) : OpR X (compareOp .NotEq) (rNil K fun b => !b) := by
  intro pins s σ H x y v u Q I rx ry h
  obtain ⟨a, b, xs, rfl, rfl, ha, hb, q⟩ := h
  cases rx
  cases ry
  obtain ⟨us, ws, p1, p2, n1, n2⟩ := nil_sizes hK I ha hb
  have room : X.A.units < cLine := by omega
  show wpAny (model X.prog X.w) X.A (richCompare .NotEq (.ref a) (.ref b)) (EP X pins σ Q) X.xe s
  cases xs with
  | nil =>
    have z := SeqAt.RcNeAt.lists (e := fun _ => true) p1 p2 (n1.trans n2.symm) room (fun j h1 _ => absurd h1 (by rw [n1]; exact Nat.not_lt_zero j))
    rw [n1] at z
    exact z _ _ _ _ ⟨.bl false, H, I, rfl, q⟩
  | cons c r =>
    exact SeqAt.RcNeAt.lists_lengths p1 p2 (by rw [n1, n2]; rfl) room _ _ _ _ ⟨.bl true, H, I, rfl, q⟩
theorem s_nil0 {f : Bool → Bool} {H : Hp} {Q : VK} {a b : Addr} {xs : List V} (ha : SqL K H a xs) (hb : SqL K H b []) (q : Q (.bl (f xs.isEmpty)) H) : rNil K f (.ref a) (.ref b) H Q := ⟨a, b, xs, rfl, rfl, ha, hb, q⟩
end
end HL

/-! HLn: plain facts: drawn items, names and paths made of letters. -/
namespace HL
open PySem PySem.Spec PyProof.Rows L2 TL
theorem pick {xs : List V} {v : Int} (h0 : 0 ≤ v) (h1 : v < (xs.length : Int)) : ∃ y, atI xs v = some y ∧ y ∈ xs := by
  obtain ⟨n, rfl⟩ := Int.eq_ofNat_of_zero_le h0
  have hn : n < xs.length := by omega
  exact ⟨_, atI_nat (List.getElem?_eq_getElem hn), List.getElem_mem hn⟩
/-- a text of one sign -/
abbrev sg (c : Nat) : Str := ⟨#[c]⟩
theorem pickS {z : Str} {v : Int} (h0 : 0 ≤ v) (h1 : v < ((tl z).length : Int)) : ∃ c, atI z.cps.toList v = some c ∧ c ∈ tl z := by
  obtain ⟨n, rfl⟩ := Int.eq_ofNat_of_zero_le h0
  have hn : n < (tl z).length := by omega
  exact ⟨_, atI_nat (List.getElem?_eq_getElem hn), List.getElem_mem hn⟩
theorem joinL_empty : ∀ cs : List Nat, joinL [] (cs.map fun c => [c]) = cs
  | [] => rfl
  | [c] => rfl
  | c :: d :: r => by
    have ih := joinL_empty (d :: r)
    show joinL [] ([c] :: (d :: r).map fun c => [c]) = c :: d :: r
    rw [joinL_cons [] [c] (by simp), ih]
    rfl
/-- ''.join of signs -/
theorem join_sg (cs : List Nat) : Txt.join "" (cs.map sg) = mkS cs := ext_tl (by
  rw [join_eq, tl_join, List.map_map, show tl "" = [] from by decide +kernel, tl_mkS]
  exact joinL_empty cs)
theorem sg_sum : ∀ cs : List Nat, ((cs.map sg).map (·.length)).sum = cs.length
  | [] => rfl
  | c :: r => by
    rw [List.map_cons, List.map_cons, List.sum_cons, sg_sum r, List.length_cons]
    show 1 + r.length = r.length + 1
    omega
theorem isNameL_of {cs : List Nat} (h1 : 1 ≤ cs.length) (h2 : cs.length ≤ 8) (h3 : ∀ c ∈ cs, c ∈ lets) : isNameL cs = true := by
  unfold isNameL
  rw [decide_eq_true h1, decide_eq_true h2, Bool.true_and, Bool.true_and, List.all_eq_true]
  exact fun c hc => decide_eq_true (h3 c hc)
theorem isNameL_len {cs : List Nat} (h : isNameL cs = true) : 1 ≤ cs.length ∧ cs.length ≤ 8 := by
  unfold isNameL at h
  simp only [Bool.and_eq_true, decide_eq_true_eq] at h
  exact h.1
theorem isNameL_mem {cs : List Nat} (h : isNameL cs = true) : ∀ c ∈ cs, c ∈ lets := by
  unfold isNameL at h
  simp only [Bool.and_eq_true, List.all_eq_true, decide_eq_true_eq] at h
  exact h.2
theorem isPathL_of {ps : List (List Nat)} (h0 : ps ≠ []) (h1 : ps.length ≤ 4) (h2 : ∀ p ∈ ps, isNameL p = true) : isPathL (joinL [46] ps) = true := by
  unfold isPathL
  rw [joinL_dot h0 fun p hp => name_nodot (h2 p hp), decide_eq_true h1, Bool.true_and, List.all_eq_true]
  exact h2
theorem len_le_of_sum : ∀ {ps : List (List Nat)} {m : Nat}, (∀ p ∈ ps, p.length ≤ m) → (ps.map List.length).sum ≤ ps.length * m
  | [], m, _ => by simp
  | p :: r, m, h => by
    have h1 := h p List.mem_cons_self
    have h2 := len_le_of_sum (ps := r) (m := m) fun q hq => h q (List.mem_cons_of_mem _ hq)
    rw [List.map_cons, List.sum_cons, List.length_cons, Nat.add_mul]
    omega
/-- signs of a path -/
def plets : List Nat := 46 :: lets
theorem isPathL_facts {l : List Nat} (h : isPathL l = true) : 1 ≤ l.length ∧ l.length ≤ 35 ∧ ∀ c ∈ l, c ∈ plets := by
  unfold isPathL at h
  simp only [Bool.and_eq_true, List.all_eq_true, decide_eq_true_eq] at h
  obtain ⟨h1, h2⟩ := h
  have e := joinL_wds l []
  rw [List.nil_append] at e
  have ne := wds_ne l []
  generalize wds [] l = ps at *
  refine ⟨?_, ?_, fun c hc => ?_⟩
  · cases ps with
    | nil => exact absurd rfl ne
    | cons p r =>
      have hp := (isNameL_len (h2 p List.mem_cons_self)).1
      rw [← e]
      cases r with
      | nil => simpa [joinL] using hp
      | cons q r =>
        rw [joinL_cons _ _ (by simp), List.length_append]
        omega
  · have s := len_le_of_sum (ps := ps) (m := 8) fun p hp => (isNameL_len (h2 p hp)).2
    have j : ∀ qs : List (List Nat), (joinL [46] qs).length + 1 ≤ (qs.map List.length).sum + qs.length + (if qs = [] then 1 else 0) := by
      intro qs
      induction qs with
      | nil => simp [joinL]
      | cons p r ih =>
        cases r with
        | nil => simp [joinL]
        | cons q r =>
          rw [joinL_cons _ _ (by simp), List.length_append, List.length_append, List.map_cons, List.sum_cons, List.length_cons, if_neg (by simp)]
          rw [if_neg (by simp)] at ih
          simp at ih ⊢
          omega
    have j1 := j ps
    rw [if_neg ne, e] at j1
    have : ps.length * 8 ≤ 32 := by omega
    omega
  · rw [← e] at hc
    rcases joinL_mem _ hc with z | ⟨p, hp, z⟩
    · rw [List.mem_singleton.mp z]
      exact List.mem_cons_self
    · exact List.mem_cons_of_mem _ (isNameL_mem (h2 p hp) c z)
theorem joinS46 (ps : List (List Nat)) : Txt.join "." (ps.map mkS) = mkS (joinL [46] ps) := joinS ps
theorem lets_small : ∀ c ∈ plets, c < 1114112 := by decide +kernel
theorem isNameL_ok {l : List Nat} (h : isNameL l = true) : OkL l := fun c hc => lets_small c (List.mem_cons_of_mem _ (isNameL_mem h c hc))
theorem isPathL_ok {l : List Nat} (h : isPathL l = true) : OkL l := fun c hc => lets_small c ((isPathL_facts h).2.2 c hc)
end HL

/-! HLx: more steps: extend, +, pop, list(tuple), str, int; slices; texts in lists. -/
namespace HL
open PySem PySem.Spec PyProof.Rows L2 TL
section
variable {σ : L2.St} {H : Hp} {Q : VK} {K : PySem.W.Frag} {l b : Addr} {xs zs : List V}
theorem s_extend (h : H l = some (.lst xs)) (g : H b = some (.lst zs)) (n : xs.length + zs.length ≤ sizeLine) (q : Q .non (upd H l (.lst (xs ++ zs)))) : rExtend (.ref l) [.ref b] H Q := ⟨l, b, xs, zs, rfl, rfl, h, g, n, q⟩
theorem s_cat (h : H l = some (.lst xs)) (g : H b = some (.lst zs)) (n : xs.length + zs.length ≤ sizeLine) (q : ∀ p, H p = none → Q (.ref p) (upd H p (.lst (xs ++ zs)))) : rCat (.ref l) (.ref b) H Q := ⟨l, b, xs, zs, rfl, rfl, h, g, n, q⟩
theorem s_pop {y : V} (h : H l = some (.lst xs)) (g : xs[xs.length - 1]? = some y) (q : Q y (upd H l (.lst xs.dropLast))) : rPop (.ref l) [] H Q := ⟨l, xs, y, rfl, rfl, h, g, q⟩
theorem s_listT (h : SqT K H l xs) (q : ∀ p, H p = none → Q (.ref p) (upd H p (.lst xs))) : rListOf K [.ref l] H Q := ⟨l, xs, rfl, .inr h, q⟩
theorem s_strS {a : Str} (q : Q (.str a) H) : rStrOf [.str a] H Q := .inl ⟨a, rfl, q⟩
theorem s_strI {i : Int} (h : i.natAbs.log2 < 1920) (q : Q (.str (Str.ofString (toString i))) H) : rStrOf [.int i] H Q := .inr ⟨i, rfl, h, q⟩
theorem s_starts {a c : Str} (q : Q (.bl (Txt.startswith a c)) H) : rStarts (.str a) [.str c] H Q := ⟨a, c, rfl, rfl, q⟩
theorem s_intOf {a : Str} {n : Int} (h : intText? a = some n) (g : a.length ≤ 640) (q : Q (.int n) H) : rIntOf [.str a] H Q := ⟨a, n, rfl, h, g, q⟩
end
theorem Kp.nil_W {W : List Addr} {A B : Hp} (k : Kp [] A B) : Kp W A B := k.weak fun x hx => absurd hx List.not_mem_nil
theorem Kp.tr {W : List Addr} {A B C : Hp} (k : Kp W A B) (l : Kp W B C) : Kp W A C := k.step l fun x hx => .inl hx
theorem inV_strs (z : Str) (ws : List Str) : inV (.str z) (ws.map V.str) = decide (z ∈ ws) := by
  unfold inV
  rw [List.any_map]
  induction ws with
  | nil => simp
  | cons a r ih =>
    rw [List.any_cons, ih]
    show (eqV (.str a) (.str z) || _) = _
    have e : eqV (.str a) (.str z) = decide (z = a) := by
      show decide _ = _
      exact decide_eq_decide.mpr ⟨fun h => Eq.symm h, fun h => Eq.symm h⟩
    rw [e]
    by_cases c : z = a
    · simp [c]
    · simp [c]
theorem flatV_strs (ws : List Str) : (ws.map V.str).all flatV = true := by
  rw [List.all_map, List.all_eq_true]
  exact fun _ _ => rfl
theorem cut_from1 (x : V) (r : List V) : cutV (x :: r) (some 1) none = r := by
  have e : HT.sIx (x :: r).length 0 (some 1) = 1 := (HT.sIx_nat (x :: r).length 0 1).trans (by rw [List.length_cons]; omega)
  unfold cutV
  rw [e, show HT.sIx (x :: r).length (x :: r).length none = (x :: r).length from rfl]
  simp
theorem cut_last1 (xs : List V) : cutV xs none (some (-1)) = xs.dropLast := by
  unfold cutV
  rw [HT.sIx_none, List.drop_zero, Nat.sub_zero, List.dropLast_eq_take]
  congr 1
  unfold HT.sIx
  simp
  omega
/-! comprehensions whose values are told by the heap too -/
def LcInvH (D : Addr) (PL : Nat → List V → Hp → Prop) (W : List Addr) (H1 : Hp) (i : Nat) (H : Hp) : Prop := ∃ xs, H D = some (.lst xs) ∧ PL i xs H ∧ xs.length ≤ i ∧ Kp W H1 H
section
variable {J : It} {n : Nat} {G : Hp → Prop} {Y : Nat → Hp → V → Hp → Prop} {D : Addr} {PL : Nat → List V → Hp → Prop} {W : List Addr} {H1 H H4 : Hp} {i : Nat} {y : V}
theorem lc_goH (w : Walk J n G Y) {g : TG} {tt : TT} {te : TE} {vs : List Nat} {σ : L2.St} {Qd : Hp → Prop} (nD : H1 D = none) (h0 : PL 0 [] (upd H1 D (.lst []))) (hG : ∀ H, Kp W H1 H → G H)
    (hs : ∀ i x H H', i < n → LcInvH D PL W H1 i H → Y i H x H' → g x (wipe σ vs) H' fun σ2 H2 => wipe σ2 vs = wipe σ vs ∧ tt σ2 H2 fun b H3 =>
      if b = true then te σ2 H3 fun y H4 => ∃ a, H4 D = some (.lst a) ∧ a.length < sizeLine ∧ LcInvH D PL W H1 (i + 1) (upd H4 D (.lst (a ++ [y]))) else LcInvH D PL W H1 (i + 1) H3)
    (hd : ∀ H, LcInvH D PL W H1 n H → Qd H) :
    ∃ W : Nat → Nat → Hp → Prop, (∃ m, W 0 m (upd H1 D (.lst []))) ∧ ∀ i m H, W i m H →
      (J.stop i H ∧ Qd H) ∨ (J.go i H ∧ ∃ Nx : Hp → Prop, (∀ H', Nx H' → ∃ m', m' < m ∧ W (i + 1) m' H') ∧ ∀ x H', J.yld i H x H' → g x (wipe σ vs) H' fun σ2 H2 => wipe σ2 vs = wipe σ vs ∧ tt σ2 H2 fun b H3 =>
        if b = true then te σ2 H3 fun y H4 => ∃ acc, H4 D = some (.lst acc) ∧ acc.length < sizeLine ∧ Nx (upd H4 D (.lst (acc ++ [y]))) else Nx H3) :=
  lc_it w (LcInvH D PL W H1) ⟨[], upd_same, h0, Nat.le_refl _, Kp.refl.upd_new nD⟩ (fun i H _ p => by obtain ⟨_, _, _, _, k⟩ := p; exact hG H k) hs hd
theorem LcInvH.put {xs : List V} (e : H D = some (.lst xs)) (l : xs.length ≤ i) (k0 : Kp W H1 H) (nD : H1 D = none) (nW : Nin D W) (k : Kp W H H4) (sz : i < sizeLine) (p : PL (i + 1) (xs ++ [y]) (upd H4 D (.lst (xs ++ [y])))) :
    ∃ a, H4 D = some (.lst a) ∧ a.length < sizeLine ∧ LcInvH D PL W H1 (i + 1) (upd H4 D (.lst (a ++ [y]))) :=
  ⟨xs, k.get nW e, by omega, xs ++ [y], upd_same, p, by rw [List.length_append, List.length_singleton]; omega, (k0.tr k).upd_loc nD⟩
end
theorem s_iRng2 {ta : TA} {σ : L2.St} {H : Hp} {R : It → Hp → Prop} (h : ta σ H fun vs H1 => ∃ i j : Int, vs = [.int i, .int j] ∧ (-(2 ^ 62) ≤ i ∧ i < 2 ^ 62 ∧ -(2 ^ 62) ≤ j ∧ j < 2 ^ 62) ∧ R (Itr i (j - i).toNat) H1) : iRng2 ta σ H R := h
end HL

/-! HLz: zip of three lists. -/
namespace HL
open PySem PySem.Spec PyProof.Rows L2 TL
/-- three lists walked together, the items in new tuples -/
def Itz3 (K : PySem.W.Frag) (a b c : Addr) : It :=
  ⟨fun i H => ∃ (xs ys zs : List V) (x y z : V), SqL K H a xs ∧ SqL K H b ys ∧ SqL K H c zs ∧ xs[i]? = some x ∧ ys[i]? = some y ∧ zs[i]? = some z,
    fun i H v H' => ∃ T x y z, v = .ref T ∧ H T = none ∧ H' = upd H T (.tup [x, y, z]) ∧ (∀ xs, SqL K H a xs → xs[i]? = some x) ∧ (∀ ys, SqL K H b ys → ys[i]? = some y) ∧ ∀ zs, SqL K H c zs → zs[i]? = some z,
    fun i H => ∃ xs ys zs : List V, SqL K H a xs ∧ SqL K H b ys ∧ SqL K H c zs ∧ min (min xs.length ys.length) zs.length = i⟩
section
variable {P : Program} {w : World} {K : PySem.W.Frag} {elts : List Expr} {kk : Nat} {tpos : Pos} {a b c z TI TO i1 i2 i3 : Addr}
theorem turn_zip3 (D : ZipSep3 z TI TO i1 i2 i3 [i1, a] [i2, b] [i3, c]) :
    Turn P w K (.Tuple elts kk tpos) (Itz3 K a b c) [z, TI, TO, i1, i2, i3] z
      (fun i h => IsZip h z TI TO .none ∧ IsTupOf3 h TI (.ref i1) (.ref i2) (.ref i3) ∧ (∃ x y u, IsTupOf3 h TO x y u) ∧ h.IsListIter i1 a i ∧ h.IsListIter i2 b i ∧ h.IsListIter i3 c i) where
  mem := by simp
  obj := fun i h st q hq => by
    obtain ⟨hz, hTI, ⟨x, y, u, hTO⟩, ⟨o1, e1, _, d1⟩, ⟨o2, e2, _, d2⟩, ⟨o3, e3, _, d3⟩⟩ := st
    have e' : q = z ∨ q = TI ∨ q = TO ∨ q = i1 ∨ q = i2 ∨ q = i3 := by simpa using hq
    rcases e' with rfl | rfl | rfl | rfl | rfl | rfl
    · exact ⟨_, hz, fun v q => nomatch q⟩
    · exact ⟨_, hTI, fun v q => nomatch q⟩
    · exact ⟨_, hTO, fun v q => nomatch q⟩
    · exact ⟨o1, e1, fun v q => by rw [d1] at q; cases q⟩
    · exact ⟨o2, e2, fun v q => by rw [d2] at q; cases q⟩
    · exact ⟨o3, e3, fun v q => by rw [d3] at q; cases q⟩
  keep := fun i h h' st k => by
    obtain ⟨hz, hTI, ⟨x, y, u, hTO⟩, h1, h2, h3⟩ := st
    exact ⟨k z (by simp) _ hz, k TI (by simp) _ hTI, ⟨x, y, u, k TO (by simp) _ hTO⟩, h1.at fun o q => k i1 (by simp) o q, h2.at fun o q => k i2 (by simp) o q, h3.at fun o q => k i3 (by simp) o q⟩
  item := by
    intro X hP hw hK hc i pins s σ H E I hf st hg
    subst hP hw hK
    obtain ⟨hz, hTI, hTO, h1, h2, h3⟩ := st
    obtain ⟨xs, ys, zs, x, y, u, qx, qy, qz, ex, ey, ez⟩ := hg
    obtain ⟨is1, r1, p1, _⟩ := I.list qx
    obtain ⟨is2, r2, p2, _⟩ := I.list qy
    obtain ⟨is3, r3, p3, _⟩ := I.list qz
    have hh : X.A.in1.handled = none := I.ok.hd hc
    have nofp : ∀ {q l : Addr} {vs : List V}, q ∈ [z, TI, TO, i1, i2, i3] → SqL X.K H l vs → l < s.heap.objs.size := fun _ hl => by
      obtain ⟨_, _, p, _⟩ := I.list hl; exact p.lt
    have n1 : a ≠ i1 := by
      rintro rfl
      obtain ⟨o, e, c1, d1⟩ := h1
      obtain ⟨o2, e2, c2, _⟩ := p1.isList
      rw [e] at e2
      cases e2
      rw [c1] at c2
      exact absurd (Value.type.inj c2) (by decide)
    have n2 : b ≠ i2 := by
      rintro rfl
      obtain ⟨o, e, c1, d1⟩ := h2
      obtain ⟨o2, e2, c2, _⟩ := p2.isList
      rw [e] at e2
      cases e2
      rw [c1] at c2
      exact absurd (Value.type.inj c2) (by decide)
    have n3 : c ≠ i3 := by
      rintro rfl
      obtain ⟨o, e, c1, d1⟩ := h3
      obtain ⟨o2, e2, c2, _⟩ := p3.isList
      rw [e] at e2
      cases e2
      rw [c1] at c2
      exact absurd (Value.type.inj c2) (by decide)
    have W := WalksT.zipD3 (prog := X.prog) (w := X.w) (A := X.A) D (Draws.list hh i1 a n1 is1.toArray) (Draws.list hh i2 b n2 is2.toArray) (Draws.list hh i3 c n3 is3.toArray)
    have l1 := r1.length
    have l2 := r2.length
    have l3 := r3.length
    have g1 := (List.getElem?_eq_some_iff.mp ex).1
    have g2 := (List.getElem?_eq_some_iff.mp ey).1
    have g3 := (List.getElem?_eq_some_iff.mp ez).1
    refine W.item i s _ _ (by simp only [List.size_toArray]; omega) ⟨hz, hTI, hTO, ⟨h1, p1.isList⟩, ⟨h2, p2.isList⟩, ⟨h3, p3.isList⟩⟩ fun T vals h' tk hP hT hv hm hk => ?_
    refine ⟨_, rfl, W.go elts kk tpos i T _ _ _ hm fun h'' st' hk' => ?_⟩
    obtain ⟨v1, v2, v3, f1, f2, f3, rfl⟩ := hP
    obtain ⟨u1, b1, w1⟩ := r1.get ex
    obtain ⟨u2, b2, w2⟩ := r2.get ey
    obtain ⟨u3, b3, w3⟩ := r3.get ez
    have c1 : v1 = u1 := by
      have : is1[i]? = some v1 := by simpa using f1
      rw [b1] at this; exact (Option.some.inj this).symm
    have c2 : v2 = u2 := by
      have : is2[i]? = some v2 := by simpa using f2
      rw [b2] at this; exact (Option.some.inj this).symm
    have c3 : v3 = u3 := by
      have : is3[i]? = some v3 := by simpa using f3
      rw [b3] at this; exact (Option.some.inj this).symm
    subst c1 c2 c3
    have sub : ∀ q ∈ [z, TO, i1, i2, i3], q ∈ [z, TI, TO, i1, i2, i3] := fun q hq => by
      simp only [List.mem_cons, List.not_mem_nil, or_false] at hq ⊢
      rcases hq with h | h | h | h | h <;> simp [h]
    have tw := W.apart i T h' hm
    have hv2 := hv.at (h' := h'') fun o e => hk' T o tw e
    have new : ObjOk X.prog X.w (upd H T (.tup [x, y, u])) h'' T (.tup [x, y, u]) :=
      ⟨by show 3 ≤ sizeLine; decide, [v1, v2, v3], .cons w1 (.cons w2 (.cons w3 .nil)), by
        obtain ⟨o, e, c, n, d⟩ := hv2
        exact ⟨o, e, c, n, d⟩⟩
    have I1 : Inv X pins σ (upd H T (.tup [x, y, u])) { s with heap := h'', toks := tk } :=
      I.turnedNew (ch := [z, TI, TO, i1, i2, i3]) (fun q o hb e => hk' q o (fun m => hb (sub q m)) (hk q o (fun m => hb (sub q m)) e)) hf hT new
    obtain ⟨hz2, hTI2, hTO2, ⟨h12, _⟩, ⟨h22, _⟩, ⟨h32, _⟩⟩ := st'
    refine ⟨.ref T, _, I1, rfl, ⟨T, x, y, u, rfl, I.hok.fresh hT, rfl, fun l hl => by rw [I.list_inj hl qx]; exact ex, fun l hl => by rw [I.list_inj hl qy]; exact ey, fun l hl => by rw [I.list_inj hl qz]; exact ez⟩, ⟨hz2, hTI2, hTO2, h12, h22, h32⟩, fun q hq => ?_⟩
    have hlt : q < s.heap.objs.size := by
      have e' : q = z ∨ q = TI ∨ q = TO ∨ q = i1 ∨ q = i2 ∨ q = i3 := by simpa using hq
      obtain ⟨_, _, _, hTO⟩ := hTO
      rcases e' with rfl | rfl | rfl | rfl | rfl | rfl
      · exact Heap.lt_size hz
      · exact Heap.lt_size hTI
      · exact Heap.lt_size hTO
      · obtain ⟨_, e1, _⟩ := h1; exact Heap.lt_size e1
      · obtain ⟨_, e1, _⟩ := h2; exact Heap.lt_size e1
      · obtain ⟨_, e1, _⟩ := h3; exact Heap.lt_size e1
    rw [upd_ne (Nat.ne_of_lt (Nat.lt_of_lt_of_le hlt hT))]
    exact (hf q hq).1
  done := by
    intro X hP hw hK hc i pins s σ H E I hf st hg
    subst hP hw hK
    obtain ⟨hz, hTI, hTO, h1, h2, h3⟩ := st
    obtain ⟨xs, ys, zs, qx, qy, qz, hn⟩ := hg
    obtain ⟨is1, r1, p1, _⟩ := I.list qx
    obtain ⟨is2, r2, p2, _⟩ := I.list qy
    obtain ⟨is3, r3, p3, _⟩ := I.list qz
    have hh : X.A.in1.handled = none := I.ok.hd hc
    have n1 : a ≠ i1 := by
      rintro rfl
      obtain ⟨o, e, c1, d1⟩ := h1
      obtain ⟨o2, e2, c2, _⟩ := p1.isList
      rw [e] at e2
      cases e2
      rw [c1] at c2
      exact absurd (Value.type.inj c2) (by decide)
    have n2 : b ≠ i2 := by
      rintro rfl
      obtain ⟨o, e, c1, d1⟩ := h2
      obtain ⟨o2, e2, c2, _⟩ := p2.isList
      rw [e] at e2
      cases e2
      rw [c1] at c2
      exact absurd (Value.type.inj c2) (by decide)
    have n3 : c ≠ i3 := by
      rintro rfl
      obtain ⟨o, e, c1, d1⟩ := h3
      obtain ⟨o2, e2, c2, _⟩ := p3.isList
      rw [e] at e2
      cases e2
      rw [c1] at c2
      exact absurd (Value.type.inj c2) (by decide)
    have W := WalksT.zipD3 (prog := X.prog) (w := X.w) (A := X.A) D (Draws.list hh i1 a n1 is1.toArray) (Draws.list hh i2 b n2 is2.toArray) (Draws.list hh i3 c n3 is3.toArray)
    have l1 := r1.length
    have l2 := r2.length
    have l3 := r3.length
    have en : min (min is1.toArray.size is2.toArray.size) is3.toArray.size = i := by simp only [List.size_toArray]; omega
    refine W.done s _ _ (by rw [en]; exact ⟨hz, hTI, hTO, ⟨h1, p1.isList⟩, ⟨h2, p2.isList⟩, ⟨h3, p3.isList⟩⟩) fun h' tk hk => ⟨rfl, ?_⟩
    exact I.turnedL (ch := [z, TI, TO, i1, i2, i3]) (fun q o hb e => hk q o (fun m => hb (by
      simp only [List.mem_cons, List.not_mem_nil, or_false] at m ⊢
      rcases m with h | h | h | h | h <;> simp [h])) e) hf
  self := fun A i s Q E st h => wpAny_pyIter_zip st.1 h
end
def iZip3 (K : PySem.W.Frag) (ta : TA) : TI := fun σ H R => ta σ H fun vs H1 => ∃ a b c xs ys zs, vs = [.ref a, .ref b, .ref c] ∧ SqL K H1 a xs ∧ SqL K H1 b ys ∧ SqL K H1 c zs ∧ R (Itz3 K a b c) H1
theorem pi_zip3 {X : Cx} {K : PySem.W.Frag} (hK : X.K = K) {e e2 e3 : Expr} {ta : TA} {p pos tpos : Pos} {elts : List Expr} {kk : Nat} (hg : Gl X "zip") (hm : X.mg "zip" = none) (ha : PA X [e, e2, e3] ta)
    (hs : starEach [e, e2, e3] X.env = (false, eval e X.env) :: starEach [e2, e3] X.env := by rfl) (hpl : (backTo pos (starEach [e2, e3] X.env)).any (·.1) = false := by rfl) :
    PI X (.Tuple elts kk tpos) (.Call (.Name "zip" p) [e, e2, e3] [] pos) (iZip3 K ta) := by
  subst hK
  refine ⟨fun pins s σ H R I h => ?_⟩
  refine Call_ (ld_blt I hg hm boot_zip (callWith_type1 (thn (ha.run pos pins s σ H _ I h) fun us s1 ⟨vs, H1, I1, r1, q1⟩ => ?_) hs hpl))
  obtain ⟨a, b, c, xs, ys, zs, ex, qx, qy, qz, q⟩ := q1
  subst ex
  obtain ⟨u1, us, rfl, ru, r1⟩ : ∃ u1 us', us = u1 :: us' ∧ RelV (V.ref a) u1 ∧ Vals [.ref b, .ref c] us' := by
    cases r1 with
    | cons r rr => exact ⟨_, _, rfl, r, rr⟩
  obtain ⟨u2, u3, rfl, ru2, ru3⟩ := vals2 r1
  cases ru
  cases ru2
  cases ru3
  obtain ⟨is1, r1, p1, _⟩ := I1.list qx
  obtain ⟨is2, r2, p2, _⟩ := I1.list qy
  obtain ⟨is3, r3, p3, _⟩ := I1.list qz
  refine zip_begins3 (begins_list a is1.toArray) (begins_list b is2.toArray) (begins_list c is3.toArray) p1.isList p2.isList p3.isList fun h' hz hTI hTO o1 o2 o3 hsz hk => wpAny_pyIter_zip hz ?_
  have I2 : Inv X pins σ H1 { s1 with heap := h' } := I1.kept (t' := s1.toks) hk
  have S := zip_sep3 (N := s1.heap.objs.size) (fp1 := [a]) (fp2 := [b]) (fp3 := [c]) (fun q hq => by rw [List.mem_singleton.mp hq]; exact p1.lt) (fun q hq => by rw [List.mem_singleton.mp hq]; exact p2.lt) (fun q hq => by rw [List.mem_singleton.mp hq]; exact p3.lt)
  refine ⟨_, [s1.heap.objs.size + 5, s1.heap.objs.size + 3, s1.heap.objs.size + 4, s1.heap.objs.size, s1.heap.objs.size + 1, s1.heap.objs.size + 2], _, _, H1, rfl, I2, turn_zip3 S, ⟨hz, hTI, ⟨_, _, _, hTO⟩, ⟨_, o1, rfl, rfl⟩, ⟨_, o2, rfl, rfl⟩, ⟨_, o3, rfl, rfl⟩⟩, fun q hq => ?_, q⟩
  have hle : s1.heap.objs.size ≤ q := by
    have e' : q = s1.heap.objs.size + 5 ∨ q = s1.heap.objs.size + 3 ∨ q = s1.heap.objs.size + 4 ∨ q = s1.heap.objs.size ∨ q = s1.heap.objs.size + 1 ∨ q = s1.heap.objs.size + 2 := by simpa using hq
    rcases e' with rfl | rfl | rfl | rfl | rfl | rfl
    · exact Nat.le_add_right _ _
    · exact Nat.le_add_right _ _
    · exact Nat.le_add_right _ _
    · exact Nat.le_refl _
    · exact Nat.le_add_right _ _
    · exact Nat.le_add_right _ _
  exact I1.fpOk hle (I1.hok.fresh hle)
def YTrip (xs ys zs : Nat → Option V) : Nat → Hp → V → Hp → Prop := fun i H v H' => ∃ T x y z, v = .ref T ∧ H T = none ∧ H' = upd H T (.tup [x, y, z]) ∧ xs i = some x ∧ ys i = some y ∧ zs i = some z
theorem walk_zip3 {K : PySem.W.Frag} {a b c : Addr} {xs ys zs : List V} {n : Nat} (h1 : xs.length = n) (h2 : ys.length = n) (h3 : zs.length = n) :
    Walk (Itz3 K a b c) n (fun H => SqL K H a xs ∧ SqL K H b ys ∧ SqL K H c zs) (YTrip (fun i => xs[i]?) (fun i => ys[i]?) (fun i => zs[i]?)) := by
  refine ⟨fun i _ hi q => ?_, fun _ q => ⟨xs, ys, zs, q.1, q.2.1, q.2.2, by omega⟩, fun i H v H' _ q y => ?_⟩
  · exact ⟨xs, ys, zs, xs[i], ys[i], zs[i], q.1, q.2.1, q.2.2, by simp, by simp, by simp⟩
  · obtain ⟨T, x, y, z, h1, h2, h3, h4, h5, h6⟩ := y
    exact ⟨T, x, y, z, h1, h2, h3, h4 xs q.1, h5 ys q.2.1, h6 zs q.2.2⟩
theorem s_iZip3 {K : PySem.W.Frag} {ta : TA} {σ : L2.St} {H : Hp} {R : It → Hp → Prop} (h : ta σ H fun vs H1 => ∃ a b c xs ys zs, vs = [.ref a, .ref b, .ref c] ∧ SqL K H1 a xs ∧ SqL K H1 b ys ∧ SqL K H1 c zs ∧ R (Itz3 K a b c) H1) : iZip3 K ta σ H R := h
end HL

/-! HLy: instances, dicts with text keys, sorted texts. -/
namespace HL
open PySem PySem.Spec PyProof.Rows L2 TL
section
variable {σ : L2.St} {H : Hp} {Q : VK} {K : PySem.W.Frag} {ta tb te : TE} {D : Ends} {a C dx : Addr} {fs : List (Str × V)} {f : Str} {v : V}
theorem s_ins {R : V → Prop} (h : H a = some (.ins C dx fs)) (c : Cls K C) (n : NoAttr K C f) (l : fs.lookup f = some v) (q : R v) : ∃ a' C dx fs v, V.ref a = .ref a' ∧ H a' = some (.ins C dx fs) ∧ Cls K C ∧ NoAttr K C f ∧ fs.lookup f = some v ∧ R v := ⟨a, C, dx, fs, v, rfl, h, c, n, l, q⟩
theorem s_sfld (h : tb σ H fun y H1 => ta σ H1 fun x H2 => ∃ a C dx fs, x = .ref a ∧ H2 a = some (.ins C dx fs) ∧ Cls K C ∧ NoAttr K C f ∧ fs.length < 1000 ∧ D.nx σ (upd H2 a (.ins C dx (putF f y fs)))) : sFld K ta tb f D σ H := h
theorem s_insP {P : Hp → Prop} {y : V} (h : H a = some (.ins C dx fs)) (c : Cls K C) (n : NoAttr K C f) (l : fs.length < 1000) (q : P (upd H a (.ins C dx (putF f y fs)))) : ∃ a' C dx fs, V.ref a = .ref a' ∧ H a' = some (.ins C dx fs) ∧ Cls K C ∧ NoAttr K C f ∧ fs.length < 1000 ∧ P (upd H a' (.ins C dx (putF f y fs))) := ⟨a, C, dx, fs, rfl, h, c, n, l, q⟩
theorem s_meth {m : Str} {sp : Sp} {dvs : List V} {E : XK} {t : TA} (h : ta σ H fun x H1 => ∃ a dx fs, x = .ref a ∧ H1 a = some (.ins C dx fs) ∧ fs.lookup m = none ∧ t σ H1 fun vs H2 => sp (x :: (vs ++ dvs)) H2 Q E) : tMeth C m sp dvs E ta t σ H Q := h
theorem s_insM {P : Prop} {m : Str} (h : H a = some (.ins C dx fs)) (l : fs.lookup m = none) (q : P) : ∃ a' dx fs, V.ref a = .ref a' ∧ H a' = some (.ins C dx fs) ∧ fs.lookup m = none ∧ P := ⟨a, dx, fs, rfl, h, l, q⟩
theorem s_make {sp : Sp} {dvs : List V} {E : XK} {t : TA} (h : t σ H fun vs H1 => ∀ x dx, H1 x = none → H1 dx = none → dx ≠ x → sp (.ref x :: (vs ++ dvs)) (upd (upd H1 dx (.own x)) x (.ins C dx [])) (fun v H2 => v = .non ∧ Q (.ref x) H2) E) : tMake C sp dvs E t σ H Q := h
theorem s_dnew (h : ∀ p, H p = none → Q (.ref p) (upd H p (.dK []))) : tDNewK σ H Q := h
theorem s_dget (h : ta σ H fun x H1 => tb σ H1 fun y H2 => ∃ a v, x = .ref a ∧ DGet H2 a y (some v) ∧ Q v H2) : tDGet ta tb σ H Q := h
theorem s_din (h : ta σ H fun y H1 => tb σ H1 fun x H2 => ∃ a o, x = .ref a ∧ DGet H2 a y o ∧ Q (.bl o.isSome) H2) : tDIn ta tb σ H Q := h
theorem s_dnotin (h : ta σ H fun y H1 => tb σ H1 fun x H2 => ∃ a o, x = .ref a ∧ DGet H2 a y o ∧ Q (.bl (!o.isSome)) H2) : tDNotIn ta tb σ H Q := h
theorem s_dput (h : te σ H fun v H1 => ta σ H1 fun x H2 => tb σ H2 fun y H3 => ∃ a H4, x = .ref a ∧ DPut H3 a y v H4 ∧ D.nx σ H4) : sDPut ta tb te D σ H := h
theorem s_dget1 (h : ta σ H fun x H1 => ∃ a, x = .ref a ∧ IsD H1 a ∧ tb σ H1 fun y H2 => ∃ o, DGet H2 a y o ∧ Q (o.getD .non) H2) : tDGet1 ta tb σ H Q := h
variable {kvs : List (Key × V)} {z : Str}
theorem s_getS {R : V → Prop} (h : H a = some (.dK kvs)) (e : valV kvs (.inr z) = some v) (q : R v) : ∃ a' v, V.ref a = .ref a' ∧ DGet H a' (.str z) (some v) ∧ R v := ⟨a, v, rfl, e ▸ DGet.k (k := Sum.inr z) h, q⟩
theorem s_inS {R : Option V → Prop} (h : H a = some (.dK kvs)) (q : R (valV kvs (.inr z))) : ∃ a' o, V.ref a = .ref a' ∧ DGet H a' (.str z) o ∧ R o := ⟨a, _, rfl, DGet.k (k := Sum.inr z) h, q⟩
theorem s_putS {P : Hp → Prop} (h : H a = some (.dK kvs)) (l : kvs.length < sizeLine) (q : P (upd H a (.dK (putK kvs (.inr z) v)))) : ∃ a' H4, V.ref a = .ref a' ∧ DPut H a' (.str z) v H4 ∧ P H4 := ⟨a, _, rfl, DPut.k (k := Sum.inr z) h l, q⟩
end
/-! repr of a number, a list, a tuple -/
def rReprA (K : PySem.W.Frag) : List V → Hp → VK → Prop := fun xs H Q => (∃ i : Int, xs = [.int i] ∧ i.natAbs.log2 < 1920 ∧ Q (.str (Str.ofString (toString i))) H) ∨ rReprD K xs H Q
theorem reprAK {X : Cx} {K : PySem.W.Frag} (h : X.K = K) (hg : X.A.guards = some []) (hu : X.A.units + 64 < cLine) : CallR X (.builtin "repr") (rReprA K) := fun pins s σ H xs us Q I r z => z.elim
  (fun z => SkE.call_repr_int pins s σ H xs us Q I r z) (fun z => reprK h hg hu pins s σ H xs us Q I r z)
/-! sorted texts -/
theorem sortedSK {X : Cx} {K : PySem.W.Frag} (h : X.K = K) : CallR X (.builtin "sorted") (rSortedS K) := h ▸ cr_sortedS
theorem rising_head : ∀ {r : List Str} {p : Str}, risingS p r = true → ∀ x ∈ r, ¬ tl x < tl p
  | [], _, _, x, hx => absurd hx List.not_mem_nil
  | y :: r, p, h, x, hx => by
    have h' : (!ltCps y.cps.toList p.cps.toList && risingS y r) = true := h
    simp only [Bool.and_eq_true, Bool.not_eq_true', ltCps_eq, decide_eq_false_iff_not] at h'
    rcases List.mem_cons.mp hx with rfl | hx
    · exact h'.1
    · have h2 := rising_head h'.2 x hx
      exact List.not_lt.mpr (List.le_trans (List.not_lt.mp h'.1) (List.not_lt.mp h2))
theorem rising_pw : ∀ {r : List Str} {p : Str}, risingS p r = true → (p :: r).Pairwise fun a b => ¬ tl b < tl a
  | [], _, _ => List.pairwise_singleton _ _
  | y :: r, p, h => by
    have h' : (!ltCps y.cps.toList p.cps.toList && risingS y r) = true := h
    simp only [Bool.and_eq_true] at h'
    exact List.pairwise_cons.mpr ⟨rising_head h, rising_pw h'.2⟩
theorem sortedS_pw : ∀ {l : List Str}, sortedS l = true → l.Pairwise fun a b => ¬ tl b < tl a
  | [], _ => .nil
  | _ :: _, h => rising_pw h
theorem sorted_eq {xs ys ks : List Str} (h1 : xs.Perm ks) (h2 : sortedS xs = true) (h3 : ys.Perm ks) (h4 : sortedS ys = true) : xs = ys :=
  List.Perm.eq_of_pairwise (fun a b _ _ h h' => ext_tl (List.le_antisymm (List.not_lt.mp h) (List.not_lt.mp h'))) (sortedS_pw h2) (sortedS_pw h4) (h1.trans h3.symm)
/-! facts of classes -/
structure IsiC (K : PySem.W.Frag) (C : Addr) : Prop where
  ha : PySem.W.findIn K (.ref C) "__class__" = some (some (.builtin "object.__class__"))
  hn : PySem.W.specialIn K (.builtin "object.__class__") "__get__" = some (some (.builtin "getset_descriptor.__get__"))
  htk : PySem.W.takesIn K (.builtin "object.__class__") = some true
  hm : PySem.W.mroIn K C (.type "object") = some true
theorem IsiC.ty {K : PySem.W.Frag} {C a dx : Addr} {H : Hp} {fs : List (Str × V)} (h : IsiC K C) (c : Cls K C) (e : H a = some (.ins C dx fs)) : TyX K H (.ref a) (.ref C) := .base (.ins e c h.ha h.hn h.htk h.hm)
theorem kit_self (K : PySem.W.Frag) (t : Value) : PySem.W.kitOne K t t = some true := by
  unfold PySem.W.kitOne
  rw [if_pos (beq_self_eq_true t)]
theorem isi_own {K : PySem.W.Frag} {H : Hp} {Q : VK} {x : V} {t : Value} {C : Addr} {b : Bool} (ht : TyX K H x t) (hk : PySem.W.kitOne K t (.ref C) = some b) (q : Q (.bl b) H) : rIsi K [x, .ref C] H Q := ⟨x, .ref C, t, .ref C, b, rfl, .own C, ht, hk, q⟩
/-- a method of a class, an instance's making -/
def DmF (P : Program) (w : World) (K : PySem.W.Frag) (mg : Str → Option Value) (base : Heap) (k : Nat) (C : Addr) (m : Str) (ps : List Str) (sp : Sp) : Prop :=
  ∃ (f : Addr) (fd : FuncData), FnOk P w K mg base CX0 k f fd ps sp ∧ Meth K C m f ∧ Binds K fd ps []
def DkF (P : Program) (w : World) (K : PySem.W.Frag) (mg : Str → Option Value) (base : Heap) (k : Nat) (C : Addr) (ps : List Str) (sp : Sp) : Prop :=
  ∃ (f : Addr) (fd : FuncData), FnOk P w K mg base CX0 k f fd ps sp ∧ Mk K C f ∧ Binds K fd ps []
theorem nin1' {p x : Addr} (h : p ≠ x) : Nin x [p] := ⟨h.symm, trivial⟩
theorem kit_sub {K : PySem.W.Frag} {t : Value} {C : Addr} {b : Bool} (hc : PySem.W.isClsIn K C = true) (ht : PySem.W.typeIn K (.ref C) = some (.type "type")) (ss : PySem.W.subIn K (.ref C) (.ref C) = some true)
    (hs : PySem.W.subIn K t (.ref C) = some b) : PySem.W.kitOne K t (.ref C) = some b := by
  unfold PySem.W.kitOne
  split
  · rename_i e
    have e := eq_of_beq e
    subst e
    exact ss.symm.trans hs
  · unfold PySem.W.kitCls
    dsimp only
    rw [if_pos (by rw [Bool.and_eq_true]; exact ⟨hc, by rw [ht]; exact beq_self_eq_true _⟩)]
    exact hs
theorem sub_bt {K : PySem.W.Frag} {T : String} {C : Addr} (h : (PySem.fastBuiltinMro T).any (fun l => l.all fun v => match v with | .type _ => true | _ => false) = true) : PySem.W.subIn K (.type T) (.ref C) = some false := by
  show (PySem.fastBuiltinMro T).map (·.contains (.ref C)) = some false
  cases e : PySem.fastBuiltinMro T with
  | none => rw [e] at h; cases h
  | some l =>
    rw [e] at h
    have h : (l.all fun v => match v with | .type _ => true | _ => false) = true := h
    rw [Option.map_some]
    congr 1
    rw [Bool.eq_false_iff]
    intro c
    rw [List.contains_iff_mem] at c
    have := List.all_eq_true.mp h _ c
    cases this
end HL

/-! HLf: an exception class of one's own whose __init__ calls the __init__ of the class above it. -/
namespace HL
open PySem PySem.Spec PyProof.Rows L2 TL
/-- what is asked of the class above, by which __init__ is called -/
structure TopC (K : PySem.W.Frag) (C : Addr) : Prop where
  ga : PySem.W.specialIn K (.ref C) "__getattribute__" = some (some (.builtin "type.__getattribute__"))
  rd : PySem.W.readsIn K C (.type "type") = true
  vi : PySem.W.findCls K (.ref C) (.type "type") "__init__" = some (.val (.builtin "ValueError.__init__"))
theorem pe_meinit {X : Cx} {K : PySem.W.Frag} (hK : X.K = K) {x : Str} {C : Addr} {e : Expr} {es : List Expr} {ta : TA} {p1 p2 pos : Pos} {pl : Sem Bool} (hg : Gl X x) (hm : X.mg x = some (.ref C)) (T : TopC K C) (ha : PA X (e :: es) ta)
    (hdb : (x == ("__debug__" : Str)) = false := by decide)
    (hc : eval (.Call (.Attribute (.Name x p1) "__init__" p2) (e :: es) [] pos) X.env = (do
      let ov ← eval (.Name x p1) X.env
      standAt p2.atName
      let (f, first) ← holding [ov] (getMethod ov "__init__" pl)
      callWith pos f first (backTo pos (starEach (e :: es) X.env)) (backToKw pos (keywordEach [] X.env))) := by rfl)
    (he : starEach (e :: es) X.env = (false, eval e X.env) :: starEach es X.env := by rfl) (hpl : (backTo pos (starEach es X.env)).any (·.1) = false := by rfl) :
    PE X (.Call (.Attribute (.Name x p1) "__init__" p2) (e :: es) [] pos) (tVeI K ta) := by
  subst hK
  refine ⟨fun pins s σ H Q I h => ?_⟩
  refine PySem.W.methodCall_KW (ld_glob I hg hm ?_ hdb) hc
  refine PySem.W.method_cls I.kIn T.ga (PySem.W.cls_value I.kIn T.rd T.vi (by decide +kernel) ?_)
  show wpAny _ _ (callWith pos (Value.builtin "ValueError.__init__") [] (backTo pos (starEach (e :: es) X.env)) []) _ _ _
  refine callWith_method1 (thn (ha.run pos pins _ σ H _ (I.tok _) h) fun us s1 ⟨vs, H1, I1, r1, a, D, ws, ev, hl, TC, ea, q⟩ => ?_) he hpl
  subst ev
  cases r1 with
  | @cons _ u0 _ ur ra rw' =>
    cases ra
    exact oinit_ok TC I1 ea (by rw [← Paired.length rw', sizeLine_eq]; omega) fun s' J => ⟨.non, H1, J, rfl, q⟩
end HL

/-! HLi: instances compared by ==; lists of pairs of an instance and a number compared by !=; isinstance by two classes. -/
namespace HL
open PySem PySem.Spec PyProof.Rows L2 TL
/-- a class that has object's own __eq__ -/
structure EqC (K : PySem.W.Frag) (C : Addr) : Prop where
  top : PySem.W.mroIn K C (.type "object") = some true
  own : PySem.W.findIn K (.ref C) "__eq__" = some (some (.builtin "object.__eq__"))
section
variable {prog : Program} {w : World} {A : Around} {E : Value → Shared → Prop} {s : Shared} {K : PySem.W.Frag} {x y C : Addr} {ox oy : Obj} {dx dy : Option Obj}
/-- what one side says of the other -/
theorem asked_eq (kin : K.In s.heap) (I : PySem.W.InstAt s.heap x ox C dx) (J : s.heap.get? y = some oy) (c : EqC K C) {r : Option Value} (hr : if x = y then r = some (.bool true) else r = none) :
    wpAny (model prog w) A (tryCompare (.ref x) "__eq__" (.ref y)) (fun v s' => v = r ∧ s' = s) E s := by
  unfold tryCompare
  refine wpAny_bind (HN.ifBound_objEq kin I c.own (wpAny_call (codeAny_call_builtin F.cmp_object.eq.plain F.cmpEntry_eq
    (PySem.W.check_slot F.cmpKind_eq F.cmpSplit_eq (I.type.andThen (PySem.W.looks_mroIn kin c.top)) (F.cmpArgs_eq _ _) ?_))))
  by_cases e : x = y
  · subst e
    rw [if_pos rfl] at hr
    exact objEq_entry_same (wpAny_pure ⟨hr.symm, rfl⟩)
  · rw [if_neg e] at hr
    refine objEq_entry_other e I.at_ J (fun z => ?_) (wpAny_pure ⟨hr.symm, rfl⟩)
    rw [I.cls] at z
    cases z
theorem inst_eq (room : A.units < cLine) (kin : K.In s.heap) (I : PySem.W.InstAt s.heap x ox C dx) (J : PySem.W.InstAt s.heap y oy C dy) (c : EqC K C) : SeqAt.RcAt A s (.ref x) (.ref y) (decide (x = y)) := fun prog w E Q q => by
  simp only [richCompare, cmpInfo_Eq, oneThing_ref]
  refine wpAny_holding (wpAny_bind (wpAny_cRoomFor room ?_))
  refine wpAny_bind (I.type.here (wpAny_bind (J.type.here ?_)))
  rw [if_neg (by simp)]
  refine wpAny_bind (wpAny_pure ?_)
  by_cases e : x = y
  · subst e
    rw [decide_eq_true rfl] at q
    simp only [Bool.false_eq_true, if_false]
    refine wpAny_bind (wpAny_mono (asked_eq kin I J.at_ c (r := some (.bool true)) (by rw [if_pos rfl])) (fun v s1 z => ?_) fun _ _ z => z)
    obtain ⟨rfl, rfl⟩ := z
    exact wpAny_pure q
  · rw [decide_eq_false e] at q
    simp only [Bool.false_eq_true, if_false, Bool.not_false, if_true]
    refine wpAny_bind (wpAny_mono (asked_eq kin I J.at_ c (r := none) (by rw [if_neg e])) (fun v s1 z => ?_) fun _ _ z => z)
    obtain ⟨rfl, rfl⟩ := z
    refine wpAny_bind (wpAny_mono (asked_eq kin J I.at_ c (r := none) (by rw [if_neg (Ne.symm e)])) (fun v s1 z => ?_) fun _ _ z => z)
    obtain ⟨rfl, rfl⟩ := z
    refine wpAny_bind (wpAny_rule (wpAny_bind (wpAny_isSame_ref_other e I.at_ J.at_ (fun z => ?_) (wpAny_pure q))))
    rw [I.cls] at z
    cases z
/-- two objects, equal by richCompare -/
theorem eq_of_rc {b : Bool} (ne : x ≠ y) (h : SeqAt.RcAt A s (.ref x) (.ref y) b) : SeqAt.EqAt A s (.ref x) (.ref y) b := fun prog w E Q q => by
  unfold eqBool
  refine wpAny_holding (wpAny_ite_split (fun z => absurd (eq_of_beq z) fun z => ne (Value.ref.inj z)) (fun _ => ?_))
  exact wpAny_bind (h prog w E _ (wpAny_truthy_bool q))
end
section
variable {X : Cx} {K : PySem.W.Frag} {σ : L2.St} {H : Hp} {Q : VK}
def rEqI (K : PySem.W.Frag) : R2 := fun x y H Q => ∃ (a b C da db : Addr) (fa fb : List (Str × V)), x = .ref a ∧ y = .ref b ∧ H a = some (.ins C da fa) ∧ H b = some (.ins C db fb) ∧ EqC K C ∧ Q (.bl (decide (a = b))) H
theorem eqIK (hK : X.K = K) (hu : X.A.units + 64 < cLine) : OpR X (compareOp .Eq) (rEqI K) := by
  subst hK
  intro pins s σ H x y v u Q I rx ry h
  obtain ⟨a, b, C, da, db, fa, fb, rfl, rfl, ha, hb, c, q⟩ := h
  cases rx
  cases ry
  obtain ⟨_, oa, _⟩ := ins_get I.hok ha
  obtain ⟨_, ob, _⟩ := ins_get I.hok hb
  obtain ⟨_, ja, _⟩ := oa.look
  obtain ⟨_, jb, _⟩ := ob.look
  exact inst_eq (by omega) I.kIn ja jb c _ _ _ _ ⟨.bl _, H, I, rfl, q⟩
theorem s_eqI {a b C da db : Addr} {fa fb : List (Str × V)} (ha : H a = some (.ins C da fa)) (hb : H b = some (.ins C db fb)) (c : EqC K C) (q : Q (.bl (decide (a = b))) H) : rEqI K (.ref a) (.ref b) H Q := ⟨a, b, C, da, db, fa, fb, rfl, rfl, ha, hb, c, q⟩
/-- lists of pairs (an object, a number), pair by pair the same -/
def rNePairs (K : PySem.W.Frag) : R2 := fun x y H Q => ∃ (a b : Addr) (ps : List (Addr × Addr × Addr × Int)), x = .ref a ∧ y = .ref b ∧ SqL K H a (ps.map fun p => .ref p.1) ∧ SqL K H b (ps.map fun p => .ref p.2.1) ∧
  (∀ p ∈ ps, SqT K H p.1 [.ref p.2.2.1, .int p.2.2.2] ∧ SqT K H p.2.1 [.ref p.2.2.1, .int p.2.2.2]) ∧ Q (.bl false) H
theorem all_true {n : Nat} : ((List.range n).all fun _ => true) = true := List.all_eq_true.mpr fun _ _ => rfl
theorem nePK (hK : X.K = K) (hu : X.A.units + 64 < cLine) : OpR X (compareOp .NotEq) (rNePairs K) := by
  subst hK
  intro pins s σ H x y v u Q I rx ry h
  obtain ⟨a, b, ps, rfl, rfl, ha, hb, hp, q⟩ := h
  cases rx
  cases ry
  obtain ⟨us, r1, p1, _⟩ := I.list ha
  obtain ⟨ws, r2, p2, _⟩ := I.list hb
  have l1 := r1.length
  have l2 := r2.length
  rw [List.length_map] at l1 l2
  have z := SeqAt.RcNeAt.lists (A := X.A) (e := fun _ => true) p1.isList p2.isList (by simp only [List.size_toArray]; omega) (by omega) fun j h1 h2 => by
    simp only [List.size_toArray] at h1 h2
    have hj : j < ps.length := by omega
    obtain ⟨u1, e1, w1⟩ := r1.get (i := j) (x := .ref ps[j].1) (by rw [List.getElem?_map, List.getElem?_eq_getElem hj]; rfl)
    obtain ⟨u2, e2, w2⟩ := r2.get (i := j) (x := .ref ps[j].2.1) (by rw [List.getElem?_map, List.getElem?_eq_getElem hj]; rfl)
    cases w1
    cases w2
    have g1 : us.toArray[j] = .ref ps[j].1 := by
      rw [List.getElem?_eq_getElem h1] at e1
      simpa using e1
    have g2 : ws.toArray[j] = .ref ps[j].2.1 := by
      rw [List.getElem?_eq_getElem h2] at e2
      simpa using e2
    rw [g1, g2]
    by_cases same : ps[j].1 = ps[j].2.1
    · rw [same]
      exact SeqAt.EqAt.same _
    refine eq_of_rc same ?_
    obtain ⟨t1, t2⟩ := hp ps[j] (List.getElem_mem hj)
    obtain ⟨i1, m1, q1, _⟩ := I.tuple t1
    obtain ⟨i2, m2, q2, _⟩ := I.tuple t2
    obtain ⟨c1, d1, rfl, f1, k1⟩ := vals2 m1
    obtain ⟨c2, d2, rfl, f2, k2⟩ := vals2 m2
    cases f1
    cases f2
    obtain ⟨k1t, rfl⟩ := k1
    obtain ⟨k2t, rfl⟩ := k2
    have room : X.A.in1.units < cLine := by show X.A.units + 1 < cLine; omega
    exact SeqAt.RcAt.tuples (e := fun _ => true) q1 q2 room fun i g1 g2 => by
      match i, g1, g2 with
      | 0, _, _ => exact SeqAt.EqAt.same _
      | 1, _, _ => simpa using SeqAt.EqAt.int_int ps[j].2.2.2 k1t ps[j].2.2.2 k2t
  rw [all_true] at z
  exact z _ _ _ _ ⟨.bl false, H, I, rfl, q⟩
theorem isiTK (hK : X.K = K) : CallR X (.builtin "isinstance") (rIsiT K) := hK ▸ call_isiT
theorem s_isiT2 {x : V} {tp C D : Addr} {t : Value} {b d : Bool} (ht : H tp = some (.tup [.ref C, .ref D])) (ty : TyX K H x t) (k1 : PySem.W.kitOne K t (.ref C) = some b) (k2 : PySem.W.kitOne K t (.ref D) = some d) (q : Q (.bl (b || d)) H) :
    rIsiT K [x, .ref tp] H Q := by
  refine ⟨x, tp, [.ref C, .ref D], t, [.ref C, .ref D], b || d, rfl, ht, .cons (.own C) (.cons (.own D) .nil), ty, kitAny_cons k1 (fun e => ?_) (fun e => by rw [e]; rfl), q⟩
  subst e
  refine kitAny_cons k2 (fun e => ?_) (fun e => by rw [e]; rfl)
  subst e
  exact kitAny_nil
theorem s_lstRg1 {ta : TE} (h : ta σ H fun x H1 => ∃ n, x = .int n ∧ RgOk 0 n ∧ ∀ q, H1 q = none → Q (.ref q) (upd H1 q (.lst (rgV 0 n)))) : tLstRg (tRg1 ta) σ H Q := h
theorem s_vei {ta : TA} (h : ta σ H fun vs H1 => ∃ (a C : Addr) (ws : List V), vs = .ref a :: ws ∧ ws.length ≤ 1000 ∧ OexC K C ∧ H1 a = some (exo a C none) ∧ Q .non H1) : tVeI K ta σ H Q := h
theorem s_ost {f : Str} {to te : TE} {D : Ends} (h : te σ H fun y H1 => to σ H1 fun x H2 => ∃ a C : Addr, x = .ref a ∧ OexC K C ∧ PySem.W.findIn K (.ref C) f = some none ∧
    ((H2 a = some (exo a C none) ∧ ∀ dx, H2 dx = none → dx ≠ a → D.nx σ (upd (upd H2 dx (exd dx [(f, y)])) a (exo a C (some dx)))) ∨
      ∃ (dx : Addr) (fs : List (Str × V)), H2 a = some (exo a C (some dx)) ∧ H2 dx = some (exd dx fs) ∧ fs.length ≤ 900 ∧ D.nx σ (upd H2 dx (exd dx ((f, y) :: fs))))) : tOst K f to te D σ H := h
theorem s_mkO {C : Addr} {sp : Sp} {dvs : List V} {ta : TA} {R : XK} (h : ta σ H fun vs H1 => vs.length ≤ 1000 ∧ ∀ a, H1 a = none → sp (.ref a :: (vs ++ dvs)) (upd H1 a (exo a C none))
    (fun v H2 => v = .non ∧ ∃ (d : Addr) (fs : List (Str × V)), H2 a = some (exo a C (some d)) ∧ H2 d = some (exd d fs) ∧ H1 d = none ∧ R (.ref C) (some d) (upd (del H2 a) d (.xd fs))) (fun _ _ _ => False)) : tMkO C sp dvs ta σ H R := h
theorem s_callS {sp : Sp} {E : L2.St → XK} {t : TA} (h : t σ H fun vs H1 => sp vs H1 Q (E σ)) : tCallS sp E t σ H Q := h
theorem s_xf {a : Addr} {cls : Value} {d : Option Addr} {C : Addr} {f : Str} {te : TE} (h : te σ H fun x H1 => x = .ref a ∧ cls = .ref C ∧ ∃ (dd : Addr) (fs : List (Str × V)) (v : V), d = some dd ∧ H1 dd = some (.xd fs) ∧ fs.lookup f = some v ∧ Q v H1) : tXf a cls d C f te σ H Q := h
/-- an except clause's class, by what is asked of it -/
theorem exm_sub {K : PySem.W.Frag} {t : Value} {C : Addr} {b : Bool} (h1 : PySem.W.subIn K (.ref C) (.type "BaseException") = some true) (hc : PySem.W.isClsIn K C = true) (ht : PySem.W.typeIn K (.ref C) = some (.type "type"))
    (hs : PySem.W.subIn K t (.ref C) = some b) : PySem.W.exmOne K t (.ref C) = some b := by
  unfold PySem.W.exmOne
  rw [h1, if_pos (beq_self_eq_true _)]
  unfold PySem.W.kitCls
  dsimp only
  rw [if_pos (by rw [Bool.and_eq_true]; exact ⟨hc, by rw [ht]; exact beq_self_eq_true _⟩)]
  exact hs
/-- facts of an own exception class with an __init__: what its making asks, what reading its fields asks -/
structure ExcC (K : PySem.W.Frag) (C f : Addr) : Prop where
  ox : OexC K C
  ic : PySem.W.findIn K (.ref C) "__init__" = some (some (.ref f))
  ti : PySem.W.typeIn K (.ref f) = some (.type "function")
/-- a def of the text that may raise -/
def DnX (P : Program) (w : World) (K : PySem.W.Frag) (mg : Str → Option Value) (base : Heap) (k : Nat) (x : Str) (ps : List Str) (sp : Sp) : Prop :=
  ∃ (f : Addr) (fd : FuncData), FnOk P w K mg base (L2.CX P w) k f fd ps sp ∧ mg x = some (.ref f) ∧ PySem.W.keepIn K (.ref f) = true ∧ Binds K fd ps []
def DxF (P : Program) (w : World) (K : PySem.W.Frag) (mg : Str → Option Value) (base : Heap) (k : Nat) (C : Addr) (ps : List Str) (sp : Sp) : Prop :=
  ∃ (f : Addr) (fd : FuncData), FnOk P w K mg base CX0 k f fd ps sp ∧ ExcC K C f ∧ Binds K fd ps []
end
end HL

/-! HLq: repr of data: what it asks, how long it gets. -/
namespace HL
open PySem PySem.Spec PyProof.Rows L2 TL
/-! shown: how long -/
theorem short_str {z : Str} (h : OkL (tl z)) : PyData.leavesShort 410 (.str z) = true := by
  simp only [PyData.leavesShort, List.all_eq_true, decide_eq_true_eq]
  intro c hc
  exact Nat.lt_of_lt_of_le (h c hc) (by decide)
theorem short_all {xs : List PyData} (h : ∀ x ∈ xs, PyData.leavesShort 410 x = true) : PyData.leavesShortAll 410 xs = true := by
  induction xs with
  | nil => rfl
  | cons x r ih =>
    simp only [PyData.leavesShortAll, Bool.and_eq_true]
    exact ⟨h x List.mem_cons_self, ih fun y hy => h y (List.mem_cons_of_mem _ hy)⟩
theorem showable_all {xs : List PyData} (h : ∀ x ∈ xs, PyData.showable x = true) : PyData.showableAll xs = true := by
  induction xs with
  | nil => rfl
  | cons x r ih =>
    simp only [PyData.showableAll, Bool.and_eq_true]
    exact ⟨h x List.mem_cons_self, ih fun y hy => h y (List.mem_cons_of_mem _ hy)⟩
theorem noDict_all {xs : List PyData} (h : ∀ x ∈ xs, PyData.hasDict x = false) : PyData.hasDictAll xs = false := by
  induction xs with
  | nil => rfl
  | cons x r ih =>
    simp only [PyData.hasDictAll, Bool.or_eq_false_iff]
    exact ⟨h x List.mem_cons_self, ih fun y hy => h y (List.mem_cons_of_mem _ hy)⟩
theorem depth_all {xs : List PyData} {n : Nat} (h : ∀ x ∈ xs, PyData.depth x ≤ n) : PyData.depthAll xs ≤ n := by
  induction xs with
  | nil => exact Nat.zero_le _
  | cons x r ih =>
    simp only [PyData.depthAll]
    exact Nat.max_le.mpr ⟨h x List.mem_cons_self, ih fun y hy => h y (List.mem_cons_of_mem _ hy)⟩
theorem bulk_all {xs : List PyData} {n : Nat} (h : ∀ x ∈ xs, PyData.bulk x ≤ n) : PyData.bulkAll xs ≤ xs.length * (n + 1) := by
  induction xs with
  | nil => exact Nat.zero_le _
  | cons x r ih =>
    have h1 := h x List.mem_cons_self
    have h2 := ih fun y hy => h y (List.mem_cons_of_mem _ hy)
    simp only [PyData.bulkAll, List.length_cons, Nat.add_mul]
    omega
/-- what repr asks -/
structure ShowOk (x : PyData) (n k : Nat) : Prop where
  sh : x.leavesShort 410 = true
  ok : x.showable = true
  nd : x.hasDict = false
  dp : x.depth ≤ k
  bk : x.bulk ≤ n
theorem ShowOk.tup {xs : List PyData} {n k : Nat} (h : ∀ x ∈ xs, ∃ n, ShowOk x n k) (b : PyData.bulkAll xs ≤ n) : ShowOk (.tuple xs) n (k + 1) := by
  refine ⟨?_, ?_, ?_, ?_, ?_⟩
  · simp only [PyData.leavesShort]
    exact short_all fun x hx => (h x hx).choose_spec.sh
  · simp only [PyData.showable]
    exact showable_all fun x hx => (h x hx).choose_spec.ok
  · simp only [PyData.hasDict]
    exact noDict_all fun x hx => (h x hx).choose_spec.nd
  · simp only [PyData.depth]
    have := depth_all (n := k) fun x hx => (h x hx).choose_spec.dp
    omega
  · simp only [PyData.bulk]
    exact b
theorem ShowOk.str {z : Str} {k : Nat} (h : OkL (tl z)) : ShowOk (.str z) z.length k := ⟨short_str h, by simp only [PyData.showable], by simp only [PyData.hasDict], by simp only [PyData.depth]; exact Nat.zero_le _, by simp only [PyData.bulk]; exact Nat.le_refl _⟩
theorem ShowOk.int {n : Int} {k : Nat} (h : n.natAbs < 10 ^ 60) : ShowOk (.int n) 0 k := by
  refine ⟨?_, ?_, by simp only [PyData.hasDict], by simp only [PyData.depth]; exact Nat.zero_le _, by simp only [PyData.bulk]; exact Nat.zero_le _⟩
  · simp only [PyData.leavesShort, decide_eq_true_eq]
    have e : PyData.shown (.int n) = Str.ofString (toString n) := by simp only [PyData.shown]
    rw [e, PySem.ofString_length]
    exact Nat.le_trans (int_text_length_le10 (by decide) h) (by decide)
  · simp only [PyData.showable, decide_eq_true_eq]
    by_cases z : n.natAbs = 0
    · rw [z]; decide
    · exact (Nat.log2_lt z).mpr (Nat.lt_of_lt_of_le h (by decide +kernel))
theorem ShowOk.weak {x : PyData} {n m k l : Nat} (h : ShowOk x n k) (a : n ≤ m) (b : k ≤ l) : ShowOk x m l := ⟨h.sh, h.ok, h.nd, Nat.le_trans h.dp b, Nat.le_trans h.bk a⟩
/-- repr of a tuple that is laid out -/
theorem rep_show {K : PySem.W.Frag} {H : Hp} {Q : VK} {t : Addr} {xs : List PyData} {n : Nat} (d : Dp K H (.ref t) (.tuple xs)) (s : ShowOk (.tuple xs) n 60) (b : n ≤ 30000) (q : Q (.str (PyData.shown (.tuple xs))) H) : rReprD K [.ref t] H Q := by
  refine ⟨_, _, rfl, d, rfl, s.ok, s.nd, s.dp, ?_, q⟩
  have e := PyData.shown_le_bulk 410 (by decide) _ s.sh
  have := s.bk
  have := line63
  rw [sizeLine_eq]
  omega
end HL

/-! HLg: the end of a law whose defs ask that no repr is under way. -/
namespace HL
open PySem PySem.Spec PyProof.Rows L2
/-- the script's object -/
abbrev scObj (vs : List Value) : Obj := { cls := .type "list", data := .seq vs.toArray }
/-- the heap in which the script alone is tracked, or nothing, where it is an object of the module -/
def scT (K : PySem.W.Frag) (a : Addr) (vs : List Value) (ns : List Int) : Hp := fun b =>
  if b = a ∧ K.lookup a = none then some (.frz (scObj vs) (.lst (ns.map V.int))) else none
theorem scT_some {K : PySem.W.Frag} {a b : Addr} {vs : List Value} {ns : List Int} {u : HO} (h : scT K a vs ns b = some u) :
    b = a ∧ K.lookup a = none ∧ u = .frz (scObj vs) (.lst (ns.map V.int)) := by
  unfold scT at h
  split at h
  · rename_i c
    exact ⟨c.1, c.2, (Option.some.inj h).symm⟩
  · cases h
theorem scT_ne {K : PySem.W.Frag} {a b : Addr} {vs : List Value} {ns : List Int} (h : b ≠ a) : scT K a vs ns b = none :=
  if_neg fun c => h c.1
theorem scT_own {K : PySem.W.Frag} {a b : Addr} {vs : List Value} {ns : List Int} {o : Obj} (h : K.lookup b = some o) : scT K a vs ns b = none :=
  if_neg fun c => by
    rw [c.1, c.2] at h
    exact absurd h (by simp)
theorem scT_only (K : PySem.W.Frag) (a : Addr) (vs : List Value) (ns : List Int) : Only (scT K a vs ns) := fun b => by
  cases e : scT K a vs ns b with
  | none => exact Or.inl rfl
  | some u => exact Or.inr ⟨_, _, congrArg some (scT_some e).2.2⟩
/-- a law's call, from the promise of its def -/
theorem law_callG {P : Program} {w : World} {K : PySem.W.Frag} {mg mb : Str → Option Value} {k : Nat} {fa a : Addr}
    {fd : FuncData} {x : Str} {sp : Sp} {t : Shared} {vs : List Value} {ns : List Int}
    (inK : K.In t.heap) (glob : t.heap.Ns mainGlobals mg) (blt : t.heap.Ns builtinsNs mb)
    (bltq : ∀ x : Str, x ≠ "__name__" → mb x = bootBuiltins x) (lim : t.heap.NoLimit) (gens : t.gens = #[])
    (ob : t.heap.get? a = some (scObj vs)) (hints : IntsAre vs ns)
    (size : ns.length ≤ sizeLine) (room : Room k callerA)
    (F : ∀ base : Heap, K.In base → base.Ns mainGlobals mg → FnG P w K mg base k fa fd [x] sp)
    (bind : ∀ (s : Shared) (u : Value), BindsTo s fd ⟨[u], []⟩ [(x, u)])
    (prm : ∀ H : Hp, Only H → SqL K H a (ns.map V.int) → sp [.ref a] H (fun v _ => v = .bl true) fun _ _ _ => False) :
    codeAny (model P w) callerA (.call (.ref fa) ⟨[.ref a], []⟩)
      (fun r s' => r = .ok (.ret (.bool true)) ∧ OldK t.heap s'.heap ∧ s'.os = t.os ∧ AllBare s'.gens) t := by
  generalize hT : scT K a vs ns = T
  have visK : K.In (hidT t.heap T) := fun b o e => hidT_get (inK b o e) (hT ▸ scT_own e)
  have visN : ∀ b m, t.heap.Ns b m → (hidT t.heap T).Ns b m := by
    rintro b m ⟨o, es, ep, e, d, r⟩
    refine ⟨o, es, ep, hidT_get e ?_, d, r⟩
    rw [← hT]
    apply scT_ne
    rintro rfl
    rw [← Option.some.inj (ob.symm.trans e)] at d
    exact Data.noConfusion d
  have held : HOk P w T t.heap := by
    intro b u e
    rw [← hT] at e
    obtain ⟨rfl, _, rfl⟩ := scT_some e
    exact ⟨ob, by rw [List.length_map]; exact size, vs, _, vals_ints hints, ob⟩
  have seq : SqL K T a (ns.map V.int) := by
    cases e : K.lookup a with
    | none => exact .inl (.inr ⟨scObj vs, hT ▸ if_pos ⟨rfl, e⟩⟩)
    | some o =>
      rw [← Option.some.inj (ob.symm.trans (inK a o e))] at e
      exact .inr ⟨_, vs.toArray, _, e, rfl, rfl, rfl, by rw [List.size_toArray, hints.length]; exact size, by simpa using vals_ints hints⟩
  have around : Env0 P w K mg (hidT t.heap T) callerA [] t T :=
    { frames := rfl
      mod := ⟨visK, visN _ _ glob, ⟨mb, visN _ _ blt, bltq⟩, lim.imp fun mc h => ⟨visN _ _ h.1, h.2⟩⟩
      bs := fun _ _ e => of_hidT e
      bsz := Nat.le_of_eq (hidT_size _ _)
      funs := trivial
      frf := fun _ hb => (List.not_mem_nil hb).elim
      hok := held
      bare := .of_eq gens }
  apply codeAny_mono ((F _ visK (visN _ _ glob)).run callerA [] t T ⟨[.ref a], []⟩ [.ref a] [.ref a] _ _ rfl room around (bind t (.ref a)) (.cons rfl .nil) (prm T (hT ▸ scT_only K a vs ns) seq))
  intro r s' h
  match r, h with
  | .error _, z => exact z.elim
  | .ok .next, z => exact z.elim
  | .ok .brk, z => exact z.elim
  | .ok .cont, z => exact z.elim
  | .ok (.ret u), ⟨v, H', os, bare, un, held', rel, q⟩ =>
    cases q
    cases (show u = Value.bool true from rel)
    refine ⟨rfl, .of_keep ?_, os, bare⟩
    intro b o e
    by_cases c : T b = none
    · exact un.keep b o e c List.not_mem_nil List.not_mem_nil
    · obtain ⟨y, hy⟩ := Option.ne_none_iff_exists'.mp c
      have z := scT_some (hT ▸ hy)
      have hy2 : T b = some (.frz (scObj vs) (.lst (ns.map V.int))) := z.2.2 ▸ hy
      have same : some o = some (scObj vs) := e.symm.trans (held b _ hy2).1
      exact same ▸ (held' b _ (un.frzs b _ _ hy2)).1
/-- the goal that the head leaves, from the promise of the law's def -/
theorem walk_ofG {l : PySem.W.OpenLaw} {n k : Nat} {q : Program} {loose : List Str}
    {XP : (Str → Option Value) → Heap → Prop} {YP : World → Heap → Prop} {d : DefRec} {K : Params → PySem.W.Frag}
    {sp : World → Sp} {x : Str} (hn : l.most = some n) (hn2 : n ≤ sizeLine) (hdf : d.params.defaults = [])
    (room : Room k callerA) (hY : ∀ (w : World) (h : Heap), YP w h → (K w.params).In h)
    (F : ∀ (w : World) (mg : Str → Option Value) (fa : Addr) (h : Heap), (K w.params).In h → h.Ns mainGlobals mg →
      mg d.name = some (.ref fa) → ∃ fd : FuncData, (∀ (s : Shared) (u : Value), BindsTo s fd ⟨[u], []⟩ [(x, u)]) ∧
        ∀ base : Heap, (K w.params).In base → base.Ns mainGlobals mg →
          FnG l.prog w (K w.params) mg base k fa fd [x] (sp w))
    (prm : ∀ (w : World) (H : Hp) (a : Addr) (ns : List Int), ns.length ≤ n → Only H →
      SqL (K w.params) H a (ns.map V.int) → sp w [.ref a] H (fun v _ => v = .bl true) fun _ _ _ => False) :
    PySem.W.WalkO q loose XP YP
      l.row.toRowW d [] (fun f vs => PySem.call f vs) :=
  Att.attach_call hn hdf fun w _ _ _ _ fa _ _ _ _ a _ ns G Y _ _ _ hmg hobj hints hlen hg =>
    have inK := hY w _ Y
    let ⟨_, hb, hF⟩ := F w _ fa _ inK G.T.g hmg
    law_callG inK G.T.g G.T.b G.T.builtins G.T.nolimit hg hobj hints (Nat.le_trans hlen hn2) room hF hb
      fun H hO hS => prm w H a ns hlen hO hS
end HL

namespace K24
open PySem PySem.Spec PyProof.Rows L2 HL TL
local macro_rules | `(tactic| walk_at "N") => `(tactic| first
  | with_reducible assumption
  | (apply Ne.symm; with_reducible assumption)
  | (refine' ne_of_none (H := ?H0) ?h1 ?h2; (case h2 => with_reducible assumption); (case h1 => walk_at "L"))
  | (apply Ne.symm; refine' ne_of_none (H := ?H0) ?h1 ?h2; (case h2 => with_reducible assumption); (case h1 => walk_at "L"))
  | fail "no")
local macro_rules | `(tactic| walk_at "M") => `(tactic| first
  | exact trivial
  | exact True.intro
  | (refine ⟨?_, ?_⟩; (walk_at "N"); (walk_at "M"))
  | fail "no")
local macro_rules | `(tactic| walk_at "L") => `(tactic| first
  | with_reducible assumption
  | with_reducible exact upd_same
  | ((with_reducible refine' (upd_ne ?n1).trans ?l1); (case n1 => walk_at "N"); (case l1 => walk_at "L"))
  | ((with_reducible refine' Kp.get ?k1 ?m1 ?l1); (case k1 => with_reducible assumption); (case l1 => walk_at "L"); (case m1 => walk_at "M"))
  | fail "no")
local macro_rules | `(tactic| walk_at "Q") => `(tactic| first
  | with_reducible assumption
  | ((with_reducible refine' sq_l ?e1); (case e1 => walk_at "L"))
  | ((with_reducible refine' sq_t ?e1); (case e1 => walk_at "L"))
  | ((with_reducible refine' Kp.seqL ?k1 ?m1 ?l1); (case k1 => with_reducible assumption); (case l1 => walk_at "Q"); (case m1 => walk_at "M"))
  | fail "no")
local macro_rules | `(tactic| walk_at "K") => `(tactic| first
  | with_reducible assumption
  | with_reducible exact Kp.refl
  | ((with_reducible refine' Kp.upd_mem ?k1 ?m1); (case m1 => simp only [List.mem_cons, true_or, or_true]); (case k1 => walk_at "K"))
  | ((with_reducible refine' Kp.upd_new ?k1 ?m1); (case m1 => with_reducible assumption); (case k1 => walk_at "K"))
  | ((with_reducible refine' Kp.upd_loc ?k1 ?m1); (case m1 => with_reducible assumption); (case k1 => walk_at "K"))
  | ((with_reducible refine' Kp.step ?k1 ?k2 ?m1); (case k2 => with_reducible assumption); (case m1 => (intro z hz; first | exact (List.not_mem_nil hz).elim | exact .inl hz | (simp only [List.mem_cons, List.not_mem_nil, or_false] at hz ⊢; first | (left; assumption) | (subst hz; first | (left; rfl) | (right; assumption))))); (case k1 => walk_at "K"))
  | fail "no")
local macro_rules | `(tactic| walk_at "C") => `(tactic| first | decide | assumption | omega | (show (0 : Int) < _; omega) | exact ⟨by decide, by decide⟩ | exact ⟨by omega, by omega⟩ | (left; exact ⟨by omega, by omega⟩) | (right; exact ⟨by omega, by omega⟩) | fail "no")
local macro_rules | `(tactic| walk_at "S1") => `(tactic| first
  | ((with_reducible refine' s_var ?h1 ?_); (case h1 => exact rfl))
  | with_reducible refine' s_c ?_
  | with_reducible refine' s_op ?_
  | with_reducible refine' s_un ?_
  | with_reducible refine' s_nil ?_
  | with_reducible refine' s_cons ?_
  | with_reducible refine' s_cb ?_
  | with_reducible refine' s_call ?_
  | with_reducible refine' s_test ?_
  | with_reducible refine' s_B ?_
  | with_reducible refine' s_and ?_
  | with_reducible refine' s_or ?_
  | with_reducible refine' s_not ?_
  | with_reducible refine' s_andV ?_
  | with_reducible refine' s_orV ?_
  | with_reducible refine' s_notV ?_
  | with_reducible refine' s_ifE ?_
  | with_reducible refine' s_chain ?_
  | with_reducible refine' s_tup ?_
  | with_reducible refine' s_lst ?_
  | with_reducible refine' s_sl ?_
  | with_reducible refine' s_noPart ?_
  | with_reducible refine' s_part ?_
  | with_reducible refine' s_fld ?_
  | with_reducible refine' s_bm ?_
  | with_reducible refine' s_bm0 ?_
  | with_reducible refine' s_m1 ?_
  | with_reducible refine' s_m0 ?_
  | with_reducible refine' s_seq ?_
  | with_reducible refine' s_next ?_
  | with_reducible refine' s_asg ?_
  | with_reducible refine' s_gname ?_
  | with_reducible refine' s_drop ?_
  | with_reducible refine' s_ret ?_
  | with_reducible refine' s_retN ?_
  | with_reducible refine' s_ifS ?_
  | with_reducible refine' s_gsub ?_
  | with_reducible refine' s_par ?_
  | with_reducible refine' s_bl ?_
  | with_reducible refine' s_iStr ?_
  | with_reducible refine' s_iList ?_
  | with_reducible refine' s_iTup ?_
  | with_reducible refine' s_iRng1 ?_
  | with_reducible refine' s_str ?_
  | with_reducible refine' s_ref ?_
  | with_reducible refine' s_yes ?_
  | with_reducible refine' s_for ?_
  | with_reducible refine' s_lc ?_
  | with_reducible refine' i_T ?_
  | with_reducible refine' i_F ?_
  | with_reducible refine' i_nT ?_
  | with_reducible refine' i_nF ?_
  | with_reducible refine' s_int ?_
  | with_reducible refine' s_ints2 ?_
  | with_reducible refine' s_ints1 ?_
  | with_reducible refine' s_strs1 ?_
  | with_reducible refine' s_vals2 ?_
  | with_reducible refine' s_vals3 ?_
  | ((with_reducible refine' s_gtup ?h1 ?l1 ?_); (case h1 => walk_at "Q"); (case l1 => exact rfl))
  | with_reducible refine' s_gcons ?_
  | with_reducible refine' s_gnil ?_
  | with_reducible refine' s_par3 ?_
  | with_reducible refine' s_ex ?_
  | with_reducible refine' s_I0 ?_
  | ((with_reducible refine' s_I ?c1 ?_); (case c1 => walk_at "C"))
  | ((with_reducible refine' s_eq ?h1 ?_); (case h1 => exact rfl))
  | ((with_reducible refine' s_ne ?h1 ?_); (case h1 => exact rfl))
  | ((with_reducible refine' s_ixL ?h1 ?a1 ?_); (case h1 => walk_at "Q"); (case a1 => exact rfl))
  | ((with_reducible refine' s_ixT ?h1 ?a1 ?_); (case h1 => walk_at "Q"); (case a1 => exact rfl))
  | ((with_reducible refine' s_setL ?h1 ?a1 ?_); (case h1 => walk_at "L"); (case a1 => exact rfl))
  | ((with_reducible refine' s_lenL ?h1 ?_); (case h1 => walk_at "Q"))
  | ((with_reducible refine' s_lenT ?h1 ?_); (case h1 => walk_at "Q"))
  | ((with_reducible refine' s_lenStr ?h1 ?_); (case h1 => assumption))
  | ((with_reducible refine' s_slL ?h1 ?_); (case h1 => walk_at "Q"))
  | ((with_reducible refine' s_slS ?h1 ?_); (case h1 => assumption))
  | with_reducible refine' s_U ?_
  | ((with_reducible refine' s_tyL ?h1 ?_); (case h1 => walk_at "L"))
  | with_reducible refine' s_inSg ?_
  | with_reducible refine' s_nn ?_
  | with_reducible refine' s_meth ?_
  | with_reducible refine' s_make ?_
  | with_reducible refine' s_dnew ?_
  | with_reducible refine' s_dget ?_
  | with_reducible refine' s_din ?_
  | with_reducible refine' s_dnotin ?_
  | with_reducible refine' s_dput ?_
  | with_reducible refine' s_dget1 ?_
  | with_reducible refine' s_sfld ?_
  | with_reducible refine' s_revL ?_
  | with_reducible refine' s_iZip3 ?_
  | with_reducible refine' s_iRng2 ?_
  | dsimp only
  | fail "no")
local macro_rules | `(tactic| walk_at "S") => `(tactic| repeat walk_at "S1")

def topS (i : Nat) : Stmt := PySem.Challenge.pw_halfmade_k24_whole_asked_late.main.body.getD i (.Pass ⟨0, 0, 0, 0⟩)
abbrev s_Fault_init : Stmt := inClass (topS 2) 0
abbrev N_Fault_init : List Str := ["self", "fault"]
theorem sc_Fault_init : FnScope ["self", "fault"] ["self", "fault"] (defScope s_Fault_init) := ⟨rfl, rfl, rfl, by decide +kernel, rfl, by decide +kernel, by decide +kernel⟩
abbrev s_Module_init : Stmt := inClass (topS 4) 0
abbrev N_Module_init : List Str := ["self", "number", "path"]
theorem sc_Module_init : FnScope ["self", "number", "path"] ["self", "number", "path"] (defScope s_Module_init) := ⟨rfl, rfl, rfl, by decide +kernel, rfl, by decide +kernel, by decide +kernel⟩
abbrev s_Module_bind : Stmt := inClass (topS 4) 1
abbrev N_Module_bind : List Str := ["self", "name", "thing"]
theorem sc_Module_bind : FnScope ["self", "name", "thing"] ["self", "name", "thing"] (defScope s_Module_bind) := ⟨rfl, rfl, rfl, by decide +kernel, rfl, by decide +kernel, by decide +kernel⟩
abbrev s_Module_has : Stmt := inClass (topS 4) 2
abbrev N_Module_has : List Str := ["self", "name"]
theorem sc_Module_has : FnScope ["self", "name"] ["self", "name"] (defScope s_Module_has) := ⟨rfl, rfl, rfl, by decide +kernel, rfl, by decide +kernel, by decide +kernel⟩
abbrev s_Module_thing_of : Stmt := inClass (topS 4) 3
abbrev N_Module_thing_of : List Str := ["self", "name"]
theorem sc_Module_thing_of : FnScope ["self", "name"] ["self", "name"] (defScope s_Module_thing_of) := ⟨rfl, rfl, rfl, by decide +kernel, rfl, by decide +kernel, by decide +kernel⟩
abbrev s_Module_bound : Stmt := inClass (topS 4) 4
abbrev N_Module_bound : List Str := ["self"]
theorem sc_Module_bound : FnScope ["self"] ["self"] (defScope s_Module_bound) := ⟨rfl, rfl, rfl, by decide +kernel, rfl, by decide +kernel, by decide +kernel⟩
abbrev s_Late_init : Stmt := inClass (topS 5) 0
abbrev N_Late_init : List Str := ["self", "home", "road"]
theorem sc_Late_init : FnScope ["self", "home", "road"] ["self", "home", "road"] (defScope s_Late_init) := ⟨rfl, rfl, rfl, by decide +kernel, rfl, by decide +kernel, by decide +kernel⟩
abbrev s_told : Stmt := topS 6
abbrev N_told : List Str := ["thing"]
theorem sc_told : FnScope ["thing"] ["thing"] (defScope s_told) := ⟨rfl, rfl, rfl, by decide +kernel, rfl, by decide +kernel, by decide +kernel⟩
abbrev s_ring_from : Stmt := topS 8
abbrev N_ring_from : List Str := ["module", "chain", "found", "one", "row"]
theorem sc_ring_from : FnScope ["module", "chain", "found", "one", "row"] ["module", "chain"] (defScope s_ring_from) := ⟨rfl, rfl, rfl, by decide +kernel, rfl, by decide +kernel, by decide +kernel⟩
abbrev s_look : Stmt := topS 9
abbrev N_look : List Str := ["module", "name", "chain", "ring"]
theorem sc_look : FnScope ["module", "name", "chain", "ring"] ["module", "name", "chain"] (defScope s_look) := ⟨rfl, rfl, rfl, by decide +kernel, rfl, by decide +kernel, by decide +kernel⟩
abbrev s_place_of : Stmt := topS 10
abbrev N_place_of : List Str := ["module", "road", "chain", "names", "here", "name", "thing"]
theorem sc_place_of : FnScope ["module", "road", "chain", "names", "here", "name", "thing"] ["module", "road", "chain"] (defScope s_place_of) := ⟨rfl, rfl, rfl, by decide +kernel, rfl, by decide +kernel, by decide +kernel⟩
abbrev s_follow : Stmt := topS 11
abbrev N_follow : List Str := ["module", "road", "chain", "here", "name"]
theorem sc_follow : FnScope ["module", "road", "chain", "here", "name"] ["module", "road", "chain"] (defScope s_follow) := ⟨rfl, rfl, rfl, by decide +kernel, rfl, by decide +kernel, by decide +kernel⟩
abbrev s_asked : Stmt := topS 12
abbrev N_asked : List Str := ["late", "chain"]
theorem sc_asked : FnScope ["late", "chain"] ["late", "chain"] (defScope s_asked) := ⟨rfl, rfl, rfl, by decide +kernel, rfl, by decide +kernel, by decide +kernel⟩
abbrev s_l_at : Stmt := topS 14
abbrev N_l_at : List Str := ["_law_script", "_law_k"]
theorem sc_l_at : FnScope ["_law_script", "_law_k"] ["_law_script", "_law_k"] (defScope s_l_at) := ⟨rfl, rfl, rfl, by decide +kernel, rfl, by decide +kernel, by decide +kernel⟩
abbrev s_l_pot : Stmt := topS 15
abbrev N_l_pot : List Str := ["_law_script", "_law_k", "_law_cell"]
theorem sc_l_pot : FnScope ["_law_script", "_law_k", "_law_cell"] ["_law_script", "_law_k"] (defScope s_l_pot) := ⟨rfl, rfl, rfl, by decide +kernel, rfl, by decide +kernel, by decide +kernel⟩
abbrev s_l_draw : Stmt := topS 16
abbrev N_l_draw : List Str := ["_law_pot_here", "_law_room", "_law_digit"]
theorem sc_l_draw : FnScope ["_law_pot_here", "_law_room", "_law_digit"] ["_law_pot_here", "_law_room"] (defScope s_l_draw) := ⟨rfl, rfl, rfl, by decide +kernel, rfl, by decide +kernel, by decide +kernel⟩
abbrev s_l_name : Stmt := topS 17
abbrev N_l_name : List Str := ["_law_pot_here", "_law_taken_here", "_law_letters", "_law_name_here", "_law_way", "_law_k", "_law_letter"]
theorem sc_l_name : FnScope ["_law_pot_here", "_law_taken_here", "_law_letters", "_law_name_here", "_law_way", "_law_k", "_law_letter"] ["_law_pot_here", "_law_taken_here"] (defScope s_l_name) := ⟨rfl, rfl, rfl, by decide +kernel, rfl, by decide +kernel, by decide +kernel⟩
abbrev s_l_names : Stmt := topS 18
abbrev N_l_names : List Str := ["_law_pot_here", "_law_room", "_law_taken_here", "_law_k"]
theorem sc_l_names : FnScope ["_law_pot_here", "_law_room", "_law_taken_here", "_law_k"] ["_law_pot_here", "_law_room"] (defScope s_l_names) := ⟨rfl, rfl, rfl, by decide +kernel, rfl, by decide +kernel, by decide +kernel⟩
abbrev s_l_number : Stmt := topS 19
abbrev N_l_number : List Str := ["_law_pot_here"]
theorem sc_l_number : FnScope ["_law_pot_here"] ["_law_pot_here"] (defScope s_l_number) := ⟨rfl, rfl, rfl, by decide +kernel, rfl, by decide +kernel, by decide +kernel⟩
abbrev s_l_road : Stmt := topS 20
abbrev N_l_road : List Str := ["_law_pot_here", "_law_names_here", "_law_k"]
theorem sc_l_road : FnScope ["_law_pot_here", "_law_names_here", "_law_k"] ["_law_pot_here", "_law_names_here"] (defScope s_l_road) := ⟨rfl, rfl, rfl, by decide +kernel, rfl, by decide +kernel, by decide +kernel⟩
abbrev s_l_facts : Stmt := topS 21
abbrev N_l_facts : List Str := ["_law_pot_here", "_law_room", "_law_own", "_law_number_here", "_law_found", "_law_k", "_law_path"]
theorem sc_l_facts : FnScope ["_law_pot_here", "_law_room", "_law_own", "_law_number_here", "_law_found", "_law_k", "_law_path"] ["_law_pot_here", "_law_room"] (defScope s_l_facts) := ⟨rfl, rfl, rfl, by decide +kernel, rfl, by decide +kernel, by decide +kernel⟩
abbrev s_l_kind : Stmt := topS 22
abbrev N_l_kind : List Str := ["_law_pot_here", "_law_facts_here", "_law_names_here", "_law_way", "_law_at_here"]
theorem sc_l_kind : FnScope ["_law_pot_here", "_law_facts_here", "_law_names_here", "_law_way", "_law_at_here"] ["_law_pot_here", "_law_facts_here", "_law_names_here"] (defScope s_l_kind) := ⟨rfl, rfl, rfl, by decide +kernel, rfl, by decide +kernel, by decide +kernel⟩
abbrev s_l_bound : Stmt := topS 23
abbrev N_l_bound : List Str := ["_law_modules", "_law_models", "_law_which", "_law_name_here", "_law_kind_here", "_law_thing"]
theorem sc_l_bound : FnScope ["_law_modules", "_law_models", "_law_which", "_law_name_here", "_law_kind_here", "_law_thing"] ["_law_modules", "_law_models", "_law_which", "_law_name_here", "_law_kind_here"] (defScope s_l_bound) := ⟨rfl, rfl, rfl, by decide +kernel, rfl, by decide +kernel, by decide +kernel⟩
abbrev s_l_web : Stmt := topS 24
abbrev N_l_web : List Str := ["_law_pot_here", "_law_facts_here", "_law_names_here", "_law_modules", "_law_models", "_law_which", "_law_name_here", "_law_fact"]
theorem sc_l_web : FnScope ["_law_pot_here", "_law_facts_here", "_law_names_here", "_law_modules", "_law_models", "_law_which", "_law_name_here", "_law_fact"] ["_law_pot_here", "_law_facts_here", "_law_names_here", "_law_modules"] (defScope s_l_web) := ⟨rfl, rfl, rfl, by decide +kernel, rfl, by decide +kernel, by decide +kernel⟩
abbrev s_l_told : Stmt := topS 25
abbrev N_l_told : List Str := ["_law_facts_here", "_law_kind_here"]
theorem sc_l_told : FnScope ["_law_facts_here", "_law_kind_here"] ["_law_facts_here", "_law_kind_here"] (defScope s_l_told) := ⟨rfl, rfl, rfl, by decide +kernel, rfl, by decide +kernel, by decide +kernel⟩
abbrev s_l_chain : Stmt := topS 26
abbrev N_l_chain : List Str := ["_law_pot_here", "_law_facts_here", "_law_left", "_law_found", "_law_k"]
theorem sc_l_chain : FnScope ["_law_pot_here", "_law_facts_here", "_law_left", "_law_found", "_law_k"] ["_law_pot_here", "_law_facts_here"] (defScope s_l_chain) := ⟨rfl, rfl, rfl, by decide +kernel, rfl, by decide +kernel, by decide +kernel⟩
abbrev s_l_fault : Stmt := topS 27
abbrev N_l_fault : List Str := ["_law_facts_here", "_law_chain_here", "_law_at_here", "_law_name_here", "_law_ring", "_law_one", "_law_row"]
theorem sc_l_fault : FnScope ["_law_facts_here", "_law_chain_here", "_law_at_here", "_law_name_here", "_law_ring", "_law_one", "_law_row"] ["_law_facts_here", "_law_chain_here", "_law_at_here", "_law_name_here"] (defScope s_l_fault) := ⟨rfl, rfl, rfl, by decide +kernel, rfl, by decide +kernel, by decide +kernel⟩
abbrev s_l_handed : Stmt := topS 28
abbrev N_l_handed : List Str := ["_law_modules", "_law_chain_here", "_law_one", "_law_row"]
theorem sc_l_handed : FnScope ["_law_modules", "_law_chain_here", "_law_one", "_law_row"] ["_law_modules", "_law_chain_here"] (defScope s_l_handed) := ⟨rfl, rfl, rfl, by decide +kernel, rfl, by decide +kernel, by decide +kernel⟩
abbrev s_l_is_the : Stmt := topS 29
abbrev N_l_is_the : List Str := ["_law_thing", "_law_kind_here", "_law_facts_here", "_law_models", "_law_right_here"]
theorem sc_l_is_the : FnScope ["_law_thing", "_law_kind_here", "_law_facts_here", "_law_models", "_law_right_here"] ["_law_thing", "_law_kind_here", "_law_facts_here", "_law_models"] (defScope s_l_is_the) := ⟨rfl, rfl, rfl, by decide +kernel, rfl, by decide +kernel, by decide +kernel⟩
abbrev s_l_agrees : Stmt := topS 30
abbrev N_l_agrees : List Str := ["_law_said_here", "_law_due_here", "_law_facts_here", "_law_models"]
theorem sc_l_agrees : FnScope ["_law_said_here", "_law_due_here", "_law_facts_here", "_law_models"] ["_law_said_here", "_law_due_here", "_law_facts_here", "_law_models"] (defScope s_l_agrees) := ⟨rfl, rfl, rfl, by decide +kernel, rfl, by decide +kernel, by decide +kernel⟩
abbrev s_l_due : Stmt := topS 31
abbrev N_l_due : List Str := ["_law_facts_here", "_law_models", "_law_chain_here", "_law_at_here", "_law_road_here", "_law_here", "_law_name_here"]
theorem sc_l_due : FnScope ["_law_facts_here", "_law_models", "_law_chain_here", "_law_at_here", "_law_road_here", "_law_here", "_law_name_here"] ["_law_facts_here", "_law_models", "_law_chain_here", "_law_at_here", "_law_road_here"] (defScope s_l_due) := ⟨rfl, rfl, rfl, by decide +kernel, rfl, by decide +kernel, by decide +kernel⟩
abbrev s_l_said : Stmt := topS 32
abbrev N_l_said : List Str := ["_law_late", "_law_handed_here", "_law_said_here", "e"]
theorem sc_l_said : FnScope ["_law_late", "_law_handed_here", "_law_said_here", "e"] ["_law_late", "_law_handed_here"] (defScope s_l_said) := ⟨rfl, rfl, rfl, by decide +kernel, rfl, by decide +kernel, by decide +kernel⟩
abbrev s_l_functions : Stmt := topS 33
abbrev N_l_functions : List Str := ["_law_pot_here", "_law_facts_here", "_law_names_here", "_law_modules", "_law_models", "_law_found", "_law_k", "_law_home", "_law_road_here", "_law_late", "_law_which", "_law_name_here"]
theorem sc_l_functions : FnScope ["_law_pot_here", "_law_facts_here", "_law_names_here", "_law_modules", "_law_models", "_law_found", "_law_k", "_law_home", "_law_road_here", "_law_late", "_law_which", "_law_name_here"] ["_law_pot_here", "_law_facts_here", "_law_names_here", "_law_modules", "_law_models"] (defScope s_l_functions) := ⟨rfl, rfl, rfl, by decide +kernel, rfl, by decide +kernel, by decide +kernel⟩
abbrev s_l_taken : Stmt := topS 34
abbrev N_l_taken : List Str := ["_law_pot_here", "_law_functions_here", "_law_modules", "_law_models", "_law_late", "_law_home", "_law_road_here", "_law_which", "_law_name_here", "_law_kind_here"]
theorem sc_l_taken : FnScope ["_law_pot_here", "_law_functions_here", "_law_modules", "_law_models", "_law_late", "_law_home", "_law_road_here", "_law_which", "_law_name_here", "_law_kind_here"] ["_law_pot_here", "_law_functions_here", "_law_modules", "_law_models"] (defScope s_l_taken) := ⟨rfl, rfl, rfl, by decide +kernel, rfl, by decide +kernel, by decide +kernel⟩
abbrev s_l_right : Stmt := topS 35
abbrev N_l_right : List Str := ["_law_facts_here", "_law_models", "_law_modules", "_law_function", "_law_chain_here", "_law_late", "_law_home", "_law_road_here", "_law_handed_here", "_law_due_here", "_law_turn"]
theorem sc_l_right : FnScope ["_law_facts_here", "_law_models", "_law_modules", "_law_function", "_law_chain_here", "_law_late", "_law_home", "_law_road_here", "_law_handed_here", "_law_due_here", "_law_turn"] ["_law_facts_here", "_law_models", "_law_modules", "_law_function", "_law_chain_here"] (defScope s_l_right) := ⟨rfl, rfl, rfl, by decide +kernel, rfl, by decide +kernel, by decide +kernel⟩
abbrev s_law : Stmt := topS 36
abbrev N_law : List Str := ["_law_script", "_law_pot_here", "_law_facts_here", "_law_names_here", "_law_modules", "_law_models", "_law_functions_here", "_law_k", "_law_function", "_law_chain_here", "_law_which", "_law_name_here", "_law_number_here", "_law_path"]
theorem sc_law : FnScope ["_law_script", "_law_pot_here", "_law_facts_here", "_law_names_here", "_law_modules", "_law_models", "_law_functions_here", "_law_k", "_law_function", "_law_chain_here", "_law_which", "_law_name_here", "_law_number_here", "_law_path"] ["_law_script"] (defScope s_law) := ⟨rfl, rfl, rfl, by decide +kernel, rfl, by decide +kernel, by decide +kernel⟩
structure Txt (K : PySem.W.Frag) (mg : Str → Option Value) (C_MadeError C_Fault C_Module C_Late : Addr) : Prop where
  mg_MadeError : mg "MadeError" = some (.ref C_MadeError)
  tp_MadeError : TopC K C_MadeError
  mg_Fault : mg "Fault" = some (.ref C_Fault)
  xf_Fault : XfC K C_Fault
  te_Fault : PySem.W.exmOne K (.ref C_Fault) (.ref C_Fault) = some true
  no_Fault_fault : PySem.W.findIn K (.ref C_Fault) "fault" = some none
  cl_Module : Cls K C_Module
  mg_Module : mg "Module" = some (.ref C_Module)
  n_Module_number : NoAttr K C_Module "number"
  n_Module_path : NoAttr K C_Module "path"
  n_Module_things : NoAttr K C_Module "things"
  is_Module : IsiC K C_Module
  eq_Module : EqC K C_Module
  cl_Late : Cls K C_Late
  mg_Late : mg "Late" = some (.ref C_Late)
  n_Late_home : NoAttr K C_Late "home"
  n_Late_road : NoAttr K C_Late "road"
  is_Late : IsiC K C_Late
  kit_Module_Module : PySem.W.kitOne K (.ref C_Module) (.ref C_Module) = some true
  kit_Module_Late : PySem.W.kitOne K (.ref C_Module) (.ref C_Late) = some false
  kit_Late_Module : PySem.W.kitOne K (.ref C_Late) (.ref C_Module) = some false
  kit_Late_Late : PySem.W.kitOne K (.ref C_Late) (.ref C_Late) = some true
  kit_int_Module : PySem.W.kitOne K (.type "int") (.ref C_Module) = some false
  kit_int_Late : PySem.W.kitOne K (.type "int") (.ref C_Late) = some false
  n_sorted : mg "sorted" = none
  n_isinstance : mg "isinstance" = none
  n_tuple : mg "tuple" = none
  n_len : mg "len" = none
  n_max : mg "max" = none
  n_divmod : mg "divmod" = none
  n_range : mg "range" = none
  n_list : mg "list" = none
  n_repr : mg "repr" = none
  n_min : mg "min" = none
theorem small_le {n : Nat} (h : n ≤ 100010) : n ≤ sizeLine := Nat.le_trans h (by decide)
theorem small_lt {n : Nat} (h : n ≤ 100010) : n < sizeLine := Nat.lt_of_le_of_lt h (by decide)
/-! the pot -/
abbrev Pot := Int × Int
def PotOk (H : Hp) (p : Addr) : Prop := ∃ s : Pot, H p = some (.lst [.int s.1, .int s.2])
theorem PotOk.upd {H : Hp} {p D : Addr} {o : HO} (h : PotOk H p) (n : p ≠ D) : PotOk (upd H D o) p := by
  obtain ⟨s, e⟩ := h
  exact ⟨s, (upd_ne n).trans e⟩
theorem PotOk.ne {H : Hp} {p D : Addr} (h : PotOk H p) (n : H D = none) : p ≠ D := by
  obtain ⟨s, e⟩ := h
  exact ne_of_none e n
theorem PotOk.kp {H H' : Hp} {p : Addr} {W : List Addr} (h : PotOk H p) (k : Kp W H H') (n : Nin p W) : PotOk H' p := by
  obtain ⟨s, e⟩ := h
  exact ⟨s, k.get n e⟩
def spAt (K : PySem.W.Frag) : Sp := fun vs H Q _ => ∃ (a : Addr) (ns : List Int) (k : Nat), vs = [.ref a, .int k] ∧ SqL K H a (ns.map V.int) ∧ Q (.int (ns.getD k 0)) H
def spPot (K : PySem.W.Frag) : Sp := fun vs H Q _ => ∃ (a : Addr) (ns : List Int) (k : Nat), vs = [.ref a, .int k] ∧ SqL K H a (ns.map V.int) ∧ k ≤ 1000 ∧
  ∀ H' p, Kp [] H H' → H p = none → PotOk H' p → Q (.ref p) H'
/-- a draw: some number below m -/
def spDraw : Sp := fun vs H Q _ => ∃ (p : Addr) (m : Int), vs = [.ref p, .int m] ∧ PotOk H p ∧ 0 < m ∧ m ≤ 2000000000000000000000000000000000000000000000000000000000000 ∧
  ∀ H' v, Kp [p] H H' → PotOk H' p → 0 ≤ v → v < m → Q (.int v) H'
section
variable {P : Program} {w : World} {K : PySem.W.Frag} {mg : Str → Option Value} {base : Heap} {C_MadeError C_Fault C_Module C_Late : Addr}
theorem ok_at {f : Addr} {fd : FuncData} (F : Fun K "_law_at" "_law_at" s_l_at f fd) (T : Txt K mg C_MadeError C_Fault C_Module C_Late) : FnOk P w K mg base CX0 1 f fd ["_law_script", "_law_k"] (spAt K) := by
  refine F.ok sc_l_at (fun vs H Q E h => ?_) (fun cdv A outer s H vs Q E hr h => ?_)
  · obtain ⟨a, ns, j, rfl, _⟩ := h
    rfl
  · obtain ⟨a, ns, j, rfl, hs, q⟩ := h
    refine ⟨_, (pss_one (ps_ret (pe_ifExp (pt_cmpR op_lt (pv 1) (pe_callB (lenK (K := K) rfl) (by rfl) T.n_len (by decide +kernel) (pa_cons (pv 0) pa_nil)) (nomark _)) (pe_ix (ixLK (K := K) rfl) (pv 0) (pv 1) (fun _ _ => rfl)) pe_int))), ?_⟩
    refine st_start (σ' := [some (.ref a), some (.int j)]) rfl ?_
    walk_at "S"
    rw [List.length_map]
    refine s_dec (fun h1 => ?_) (fun h1 => ?_)
    · walk_at "S"
      have hj : j < ns.length := by omega
      have e : (ns.map V.int)[j]? = some (.int (ns.getD j 0)) := by
        rw [List.getElem?_map, List.getD_eq_getElem?_getD, List.getElem?_eq_getElem hj]
        rfl
      exact s_ixL hs (atI_nat e) q
    · walk_at "S"
      have e : ns.getD j 0 = 0 := by
        rw [List.getD_eq_getElem?_getD, List.getElem?_eq_none (Nat.le_of_not_lt fun z => h1 (by omega))]
        rfl
      rw [e] at q
      exact q
theorem ok_pot {f : Addr} {fd : FuncData} (F : Fun K "_law_pot" "_law_pot" s_l_pot f fd) (T : Txt K mg C_MadeError C_Fault C_Module C_Late)
    (D_l_at : DnF P w K mg base 1 "_law_at" ["_law_script", "_law_k"] (spAt K)) : FnOk P w K mg base CX0 2 f fd ["_law_script", "_law_k"] (spPot K) := by
  refine F.ok sc_l_pot (fun vs H Q E h => ?_) (fun cdv A outer s H vs Q E hr h => ?_)
  · obtain ⟨a, ns, j, rfl, _⟩ := h
    rfl
  · obtain ⟨f_l_at, fd_l_at, G_l_at, m_l_at, k_l_at, b_l_at⟩ := D_l_at
    obtain ⟨a, ns, j, rfl, hs, hj, q⟩ := h
    refine ⟨_, (pss_cons (ps_set (i := 2) sc_l_pot.nd rfl (Or.inl rfl) (pe_call G_l_at (hr.mono (by first | decide | omega)) (by rfl) m_l_at k_l_at b_l_at .nil pass0 (pa_cons (pv 0) (pa_cons (pv 1) pa_nil))))
      (pss_one (ps_ret (pe_lst (pa_cons (pe_callB (call_max2 rfl) (by rfl) T.n_max (by decide +kernel) (pa_cons pe_int (pa_cons (pe_op op_sub (pv 2) (pe_op op_pow pe_int pe_int)) pa_nil))) (pa_cons (pe_op op_add (pe_op op_mod (pe_op op_pow (pe_op op_add (pe_op op_mod (pv 2) pe_int) (pe_op op_mul pe_int (pe_op op_add (pv 1) pe_int))) pe_int) pe_int) pe_int) pa_nil)))))), ?_⟩
    refine st_start (σ' := [some (.ref a), some (.int j), none]) rfl ?_
    walk_at "S"
    refine ⟨a, ns, j, rfl, hs, ?_⟩
    walk_at "S"
    exact ⟨small_le (by simp), fun p hp => q _ _ (Kp.refl.upd_new hp) hp ⟨(_, _), upd_same⟩⟩
theorem ok_draw {f : Addr} {fd : FuncData} (F : Fun K "_law_draw" "_law_draw" s_l_draw f fd) (T : Txt K mg C_MadeError C_Fault C_Module C_Late) : FnOk P w K mg base CX0 1 f fd ["_law_pot_here", "_law_room"] spDraw := by
  refine F.ok sc_l_draw (fun vs H Q E h => ?_) (fun cdv A outer s H vs Q E hr h => ?_)
  · obtain ⟨p, m, rfl, _⟩ := h
    rfl
  · obtain ⟨p, m, rfl, ⟨⟨a, b⟩, hp⟩, m0, m1, k⟩ := h
    dsimp only at hp
    refine ⟨_, (pss_cons (ps_if (pt_cmpR op_gt (pe_ix (ixLK (K := K) rfl) (pv 0) pe_int (fun _ _ => rfl)) pe_int (nomark _)) (pss_cons (ps_asg (pe_callB divmodPR (by rfl) T.n_divmod (by decide +kernel) (pa_cons (pe_ix (ixLK (K := K) rfl) (pv 0) pe_int (fun _ _ => rfl)) (pa_cons (pv 1) pa_nil))) (kgT (K := K) rfl (pg_tup rfl (pgs_cons (pg_sub (pv 0) pe_int set_list) (pgs_cons (pg_name (i := 2) sc_l_draw.nd rfl (Or.inl rfl)) pgs_nil)))))
      (pss_one (ps_ret (pv 2)))) pss_nil)
      (pss_cons (ps_asg (pe_op op_mod (pe_op op_add (pe_op op_mul (pe_ix (ixLK (K := K) rfl) (pv 0) pe_int (fun _ _ => rfl)) pe_int) pe_int) pe_int) (pg_sub (pv 0) pe_int set_list))
      (pss_one (ps_ret (pe_op op_mod (pe_op op_fdiv (pe_op op_mod (pe_op op_mul (pe_ix (ixLK (K := K) rfl) (pv 0) pe_int (fun _ _ => rfl)) (pe_ix (ixLK (K := K) rfl) (pv 0) pe_int (fun _ _ => rfl))) pe_int) pe_int) (pv 1)))))), ?_⟩
    refine st_start (σ' := [some (.ref p), some (.int m), none]) rfl ?_
    walk_at "S"
    refine s_dec (fun h => ?_) (fun h => ?_)
    · walk_at "S"
      refine s_divP m0 m1 fun t ht => ?_
      walk_at "S"
      exact k _ _ (by walk_at "K") ⟨(_, _), upd_same⟩ (Int.emod_nonneg _ (by omega)) (Int.emod_lt_of_pos _ m0)
    · walk_at "S"
      exact k _ _ (by walk_at "K") ⟨(_, _), upd_same⟩ (Int.emod_nonneg _ (by omega)) (Int.emod_lt_of_pos _ m0)
end
/-! instances -/
abbrev modF (n : Int) (p : Str) (d : Addr) : List (Str × V) := [("number", .int n), ("path", .str p), ("things", .ref d)]
abbrev lateF (m : Addr) (r : Str) : List (Str × V) := [("home", .ref m), ("road", .str r)]
theorem modF_put (n : Int) (p : Str) (d : Addr) : putF "things" (.ref d) (putF "path" (.str p) (putF "number" (.int n) [])) = modF n p d := by
  simp only [putF]
  rw [if_neg (by decide +kernel)]
  simp only [putF]
  rw [if_neg (by decide +kernel), if_neg (by decide +kernel)]
theorem lateF_put (m : Addr) (r : Str) : putF "road" (.str r) (putF "home" (.ref m) []) = lateF m r := by
  simp only [putF]
  rw [if_neg (by decide +kernel)]
theorem look_cons {f g : Str} {v : V} {r : List (Str × V)} (h : decide (f = g) = false) : List.lookup f ((g, v) :: r) = List.lookup f r := by
  have : (f == g) = false := by simpa using h
  simp only [List.lookup, this]
theorem look_hit {f : Str} {v : V} {r : List (Str × V)} : List.lookup f ((f, v) :: r) = some v := by simp [List.lookup]
theorem look_nil {f : Str} : List.lookup f ([] : List (Str × V)) = none := rfl
theorem lk_num (n : Int) (p : Str) (d : Addr) : (modF n p d).lookup ("number" : Str) = some (.int n) := look_hit
theorem lk_path (n : Int) (p : Str) (d : Addr) : (modF n p d).lookup ("path" : Str) = some (.str p) := (look_cons (by decide +kernel)).trans look_hit
theorem lk_things (n : Int) (p : Str) (d : Addr) : (modF n p d).lookup ("things" : Str) = some (.ref d) := (look_cons (by decide +kernel)).trans ((look_cons (by decide +kernel)).trans look_hit)
theorem lk_home (m : Addr) (r : Str) : (lateF m r).lookup ("home" : Str) = some (.ref m) := look_hit
theorem lk_road (m : Addr) (r : Str) : (lateF m r).lookup ("road" : Str) = some (.str r) := (look_cons (by decide +kernel)).trans look_hit
theorem lk_meth {m : Str} (n : Int) (p : Str) (d : Addr) (h : decide (m = "number") = false ∧ decide (m = "path") = false ∧ decide (m = "things") = false) : (modF n p d).lookup m = none :=
  (look_cons h.1).trans ((look_cons h.2.1).trans ((look_cons h.2.2).trans look_nil))
/-- a module stands at m, its dict at d -/
structure ModAt (C : Addr) (H : Hp) (m : Addr) (n : Int) (p : Str) (d : Addr) (kvs : List (Key × V)) : Prop where
  ob : ∃ dx, H m = some (.ins C dx (modF n p d))
  dc : H d = some (.dK kvs)
def spMInit (C : Addr) : Sp := fun vs H Q _ => ∃ (m dx : Addr) (n : Int) (p : Str), vs = [.ref m, .int n, .str p] ∧ H m = some (.ins C dx []) ∧
  ∀ H' d, Kp [m] H H' → H d = none → ModAt C H' m n p d [] → Q .non H'
def spBind (C : Addr) : Sp := fun vs H Q _ => ∃ (m d : Addr) (n : Int) (p z : Str) (v : V) (kvs : List (Key × V)), vs = [.ref m, .str z, v] ∧ ModAt C H m n p d kvs ∧ kvs.length ≤ 1000 ∧
  Q .non (upd H d (.dK (putK kvs (.inr z) v)))
def spHas (C : Addr) : Sp := fun vs H Q _ => ∃ (m d : Addr) (n : Int) (p z : Str) (kvs : List (Key × V)), vs = [.ref m, .str z] ∧ ModAt C H m n p d kvs ∧ Q (.bl (valV kvs (.inr z)).isSome) H
def spThing (C : Addr) : Sp := fun vs H Q _ => ∃ (m d : Addr) (n : Int) (p z : Str) (kvs : List (Key × V)), vs = [.ref m, .str z] ∧ ModAt C H m n p d kvs ∧ Q ((valV kvs (.inr z)).getD .non) H
def spBound (C : Addr) : Sp := fun vs H Q _ => ∃ (m d : Addr) (n : Int) (p : Str) (kvs : List (Key × V)) (ks : List Str), vs = [.ref m] ∧ ModAt C H m n p d kvs ∧ kvs.map (·.1) = ks.map Sum.inr ∧ ks.length < 64 ∧
  ∀ (ys : List Str) (l : Addr), ys.Perm ks → sortedS ys = true → H l = none → Q (.ref l) (upd H l (.lst (ys.map V.str)))
def spLInit (C : Addr) : Sp := fun vs H Q _ => ∃ (x dx m : Addr) (r : Str), vs = [.ref x, .ref m, .str r] ∧ H x = some (.ins C dx []) ∧ ∀ H', Kp [x] H H' → H' x = some (.ins C dx (lateF m r)) → Q .non H'
section
variable {P : Program} {w : World} {K : PySem.W.Frag} {mg : Str → Option Value} {base : Heap} {C_MadeError C_Fault C_Module C_Late : Addr}
theorem ok_m_init {f : Addr} {fd : FuncData} (F : Fun K "__init__" "Module.__init__" s_Module_init f fd) (T : Txt K mg C_MadeError C_Fault C_Module C_Late) : FnOk P w K mg base CX0 1 f fd ["self", "number", "path"] (spMInit C_Module) := by
  refine F.ok sc_Module_init (fun vs H Q E h => ?_) (fun cdv A outer s H vs Q E hr h => ?_)
  · obtain ⟨m, dx, n, p, rfl, _⟩ := h
    rfl
  · obtain ⟨m, dx, n, p, rfl, hm, q⟩ := h
    refine ⟨_, (pss_cons (ps_fld (pv 0) (pv 1) rfl)
      (pss_cons (ps_fld (pv 0) (pv 2) rfl)
      (pss_one (ps_fld (pv 0) pe_dnewK rfl)))), ?_⟩
    refine st_start (σ' := [some (.ref m), some (.int n), some (.str p)]) rfl ?_
    walk_at "S"
    refine s_insP hm T.cl_Module T.n_Module_number (by decide) ?_
    walk_at "S"
    refine s_insP upd_same T.cl_Module T.n_Module_path (by show 1 < 1000; decide) ?_
    walk_at "S"
    intro d hd
    have nmd : m ≠ d := ne_of_none upd_same hd
    walk_at "S"
    refine s_insP ((upd_ne nmd).trans upd_same) T.cl_Module T.n_Module_things (by simp only [putF]; rw [if_neg (by decide +kernel)]; show 2 < 1000; decide) ?_
    rw [modF_put]
    have hd0 : H d = none := by
      have k : Kp [m] H (upd (upd H m (.ins C_Module dx (putF "number" (.int n) []))) m (.ins C_Module dx (putF "path" (.str p) (putF "number" (.int n) [])))) := by walk_at "K"
      exact k.free ⟨nmd.symm, trivial⟩ hd
    refine q _ d ?_ hd0 ⟨⟨dx, upd_same⟩, (upd_ne nmd.symm).trans upd_same⟩
    walk_at "K"
theorem ok_bind {f : Addr} {fd : FuncData} (F : Fun K "bind" "Module.bind" s_Module_bind f fd) (T : Txt K mg C_MadeError C_Fault C_Module C_Late) : FnOk P w K mg base CX0 1 f fd ["self", "name", "thing"] (spBind C_Module) := by
  refine F.ok sc_Module_bind (fun vs H Q E h => ?_) (fun cdv A outer s H vs Q E hr h => ?_)
  · obtain ⟨m, d, n, p, z, v, kvs, rfl, _⟩ := h
    rfl
  · obtain ⟨m, d, n, p, z, v, kvs, rfl, ⟨⟨dx, hm⟩, hd⟩, hl, q⟩ := h
    have hu := hu_of hr
    refine ⟨_, (pss_one (ps_dput hu (kFld (K := K) rfl (pe_fld (pv 0) rfl)) (pv 1) (pv 2) rfl)), ?_⟩
    refine st_start (σ' := [some (.ref m), some (.str z), some v]) rfl ?_
    walk_at "S"
    refine s_ins hm T.cl_Module T.n_Module_things (lk_things _ _ _) ?_
    walk_at "S"
    exact s_putS hd (small_lt (by omega)) q
theorem ok_has {f : Addr} {fd : FuncData} (F : Fun K "has" "Module.has" s_Module_has f fd) (T : Txt K mg C_MadeError C_Fault C_Module C_Late) : FnOk P w K mg base CX0 1 f fd ["self", "name"] (spHas C_Module) := by
  refine F.ok sc_Module_has (fun vs H Q E h => ?_) (fun cdv A outer s H vs Q E hr h => ?_)
  · obtain ⟨m, d, n, p, z, kvs, rfl, _⟩ := h
    rfl
  · obtain ⟨m, d, n, p, z, kvs, rfl, ⟨⟨dx, hm⟩, hd⟩, q⟩ := h
    have hu := hu_of hr
    refine ⟨_, (pss_one (ps_ret (pe_cmp (pc_din hu (pv 1) (kFld (K := K) rfl (pe_fld (pv 0) rfl))) rfl))), ?_⟩
    refine st_start (σ' := [some (.ref m), some (.str z)]) rfl ?_
    walk_at "S"
    refine s_ins hm T.cl_Module T.n_Module_things (lk_things _ _ _) ?_
    exact s_inS hd q
theorem ok_thing_of {f : Addr} {fd : FuncData} (F : Fun K "thing_of" "Module.thing_of" s_Module_thing_of f fd) (T : Txt K mg C_MadeError C_Fault C_Module C_Late) : FnOk P w K mg base CX0 1 f fd ["self", "name"] (spThing C_Module) := by
  refine F.ok sc_Module_thing_of (fun vs H Q E h => ?_) (fun cdv A outer s H vs Q E hr h => ?_)
  · obtain ⟨m, d, n, p, z, kvs, rfl, _⟩ := h
    rfl
  · obtain ⟨m, d, n, p, z, kvs, rfl, ⟨⟨dx, hm⟩, hd⟩, q⟩ := h
    have hu := hu_of hr
    refine ⟨_, (pss_one (ps_ret (pe_dget1 hu (kFld (K := K) rfl (pe_fld (pv 0) rfl)) (pv 1) ⟨by rfl, by rfl, by rfl, by rfl⟩))), ?_⟩
    refine st_start (σ' := [some (.ref m), some (.str z)]) rfl ?_
    walk_at "S"
    refine s_ins hm T.cl_Module T.n_Module_things (lk_things _ _ _) ?_
    refine ⟨d, rfl, .inl ⟨kvs, .inl hd⟩, ?_⟩
    walk_at "S"
    exact ⟨_, DGet.k (k := Sum.inr z) hd, q⟩
theorem ok_bound {f : Addr} {fd : FuncData} (F : Fun K "bound" "Module.bound" s_Module_bound f fd) (T : Txt K mg C_MadeError C_Fault C_Module C_Late) : FnOk P w K mg base CX0 1 f fd ["self"] (spBound C_Module) := by
  refine F.ok sc_Module_bound (fun vs H Q E h => ?_) (fun cdv A outer s H vs Q E hr h => ?_)
  · obtain ⟨m, d, n, p, kvs, ks, rfl, _⟩ := h
    rfl
  · obtain ⟨m, d, n, p, kvs, ks, rfl, ⟨⟨dx, hm⟩, hd⟩, hk, few, q⟩ := h
    refine ⟨_, (pss_one (ps_ret (pe_callB (call_sortedD rfl) (by rfl) T.n_sorted (by decide +kernel) (pa_cons (kFld (K := K) rfl (pe_fld (pv 0) rfl)) pa_nil)))), ?_⟩
    refine st_start (σ' := [some (.ref m)]) rfl ?_
    walk_at "S"
    refine s_ins hm T.cl_Module T.n_Module_things (lk_things _ _ _) ?_
    walk_at "S"
    exact ⟨d, kvs, ks, rfl, .inl hd, hk, few, q⟩
theorem ok_late_init {f : Addr} {fd : FuncData} (F : Fun K "__init__" "Late.__init__" s_Late_init f fd) (T : Txt K mg C_MadeError C_Fault C_Module C_Late) : FnOk P w K mg base CX0 1 f fd ["self", "home", "road"] (spLInit C_Late) := by
  refine F.ok sc_Late_init (fun vs H Q E h => ?_) (fun cdv A outer s H vs Q E hr h => ?_)
  · obtain ⟨x, dx, m, r, rfl, _⟩ := h
    rfl
  · obtain ⟨x, dx, m, r, rfl, hx, q⟩ := h
    refine ⟨_, (pss_cons (ps_fld (pv 0) (pv 1) rfl)
      (pss_one (ps_fld (pv 0) (pv 2) rfl))), ?_⟩
    refine st_start (σ' := [some (.ref x), some (.ref m), some (.str r)]) rfl ?_
    walk_at "S"
    refine s_insP hx T.cl_Late T.n_Late_home (by decide) ?_
    walk_at "S"
    refine s_insP upd_same T.cl_Late T.n_Late_road (by show 1 < 1000; decide) ?_
    rw [lateF_put]
    exact q _ (by walk_at "K") upd_same
/-! the fault -/
def spFInit (C : Addr) : Sp := fun vs H Q _ => ∃ (x : Addr) (v : V), vs = [.ref x, v] ∧ H x = some (exo x C none) ∧ ∀ dx, H dx = none → dx ≠ x → Q .non (upd (upd H dx (exd dx [("fault", v)])) x (exo x C (some dx)))
theorem ok_f_init {f : Addr} {fd : FuncData} (F : Fun K "__init__" "Fault.__init__" s_Fault_init f fd) (T : Txt K mg C_MadeError C_Fault C_Module C_Late) (ox : OexC K C_Fault) : FnOk P w K mg base CX0 1 f fd ["self", "fault"] (spFInit C_Fault) := by
  refine F.ok sc_Fault_init (fun vs H Q E h => ?_) (fun cdv A outer s H vs Q E hr h => ?_)
  · obtain ⟨x, v, rfl, _⟩ := h
    rfl
  · obtain ⟨x, v, rfl, hx, q⟩ := h
    refine ⟨_, (pss_cons (ps_expr (pe_meinit rfl (by rfl) T.mg_MadeError T.tp_MadeError (pa_cons (pv 0) (pa_cons pe_str pa_nil))))
      (pss_one (ps_ost (pv 0) (pv 1)))), ?_⟩
    refine st_start (σ' := [some (.ref x), some v]) rfl ?_
    walk_at "S"
    refine s_vei ?_
    walk_at "S"
    refine ⟨x, C_Fault, [.str "a fault"], rfl, by decide, ox, hx, ?_⟩
    walk_at "S"
    refine s_ost ?_
    walk_at "S"
    exact ⟨x, C_Fault, rfl, ox, T.no_Fault_fault, .inl ⟨hx, fun dx n ne => q dx n ne⟩⟩
end

/-! what names and roads are -/
structure OkN (z : Str) : Prop where
  len : z.length ≤ 8
  ok : OkL (tl z)
  dot : ∀ c ∈ tl z, c ≠ 46
structure OkR (z : Str) : Prop where
  len : z.length ≤ 35
  ok : OkL (tl z)
/-- words of zs, dots between -/
def RoadOk (zs : List Str) (r : Str) : Prop := ∃ cs : List Str, r = Txt.join "." cs ∧ cs ≠ [] ∧ cs.length ≤ 4 ∧ ∀ c ∈ cs, c ∈ zs
structure Taken (zs : List Str) : Prop where
  nd : zs.Nodup
  ok : ∀ z ∈ zs, OkN z
theorem lets_nd : ∀ c ∈ lets, c ≠ 46 := by decide +kernel
theorem lets_lt : ∀ c ∈ lets, c < 1114112 := by decide +kernel
theorem cut_mem {z : Str} {lo hi : Option Int} {c : Nat} (h : c ∈ tl (cutS z lo hi)) : c ∈ tl z :=
  List.mem_of_mem_drop (List.mem_of_mem_take (show c ∈ List.take (HT.sIx z.length z.length hi - HT.sIx z.length 0 lo) (List.drop (HT.sIx z.length 0 lo) z.cps.toList) from h))
theorem cut8 (z : Str) : (cutS z none (some 8)).length ≤ 8 := by
  rw [len_tl]
  show ((z.cps.toList.drop (HT.sIx z.length 0 none)).take (HT.sIx z.length z.length (some 8) - HT.sIx z.length 0 none)).length ≤ 8
  rw [List.length_take, show HT.sIx z.length z.length (some 8) = min 8 z.length from HT.sIx_nat z.length z.length 8]
  omega
theorem OkN.name {cs : List Nat} (h : cs.length ≤ 8) (g : ∀ c ∈ cs, c ∈ lets) : OkN (mkS cs) := ⟨by rw [mkS_len]; exact h, fun c hc => lets_lt c (g c hc), fun c hc => lets_nd c (g c hc)⟩
abbrev cands : List Str := lets.map sg
theorem lets_at {i c : Nat} (h : ("abcdefghijklmnopqrstuvwxyz" : Str).cps[i]? = some c) : lets[i]? = some c := by
  show ("abcdefghijklmnopqrstuvwxyz" : Str).cps.toList[i]? = some c
  rw [Array.getElem?_toList]
  exact h
theorem cands_nd : cands.Nodup := by decide +kernel
theorem cands_ok : ∀ z ∈ cands, z.length ≤ 8 ∧ (∀ c ∈ tl z, c < 1114112) ∧ ∀ c ∈ tl z, c ≠ 46 := by decide +kernel
theorem cands_len : cands.length = 26 := by decide +kernel
theorem free_cand {zs : List Str} (h : zs.length ≤ 25) : cands.filter (fun c => !decide (c ∈ zs)) ≠ [] := fun e => by
  have := List.Nodup.length_le_of_subset (l₂ := zs) cands_nd fun x hx => by
    by_cases m : x ∈ zs
    · exact m
    · have : x ∈ cands.filter (fun c => !decide (c ∈ zs)) := List.mem_filter.mpr ⟨hx, by simp [m]⟩
      rw [e] at this
      cases this
  rw [cands_len] at this
  omega
/-! tuples and instances stay -/
structure TIK (H H' : Hp) : Prop where
  tup : ∀ {a : Addr} {xs : List V}, H a = some (.tup xs) → H' a = some (.tup xs)
  ins : ∀ {a C dx : Addr} {fs : List (Str × V)}, H a = some (.ins C dx fs) → H' a = some (.ins C dx fs)
/-- what may change: a list, a dict -/
def Mut (H : Hp) (x : Addr) : Prop := (∃ xs, H x = some (.lst xs)) ∨ ∃ kvs, H x = some (.dK kvs)
theorem TIK.of {W : List Addr} {H H' : Hp} (k : Kp W H H') (m : ∀ x ∈ W, Mut H x) : TIK H H' := by
  refine ⟨fun {a xs} e => k.get (Nin.intro fun x hx z => ?_) e, fun {a C dx fs} e => k.get (Nin.intro fun x hx z => ?_) e⟩
  · subst z
    rcases m _ hx with ⟨ys, h⟩ | ⟨kvs, h⟩ <;> rw [e] at h <;> cases h
  · subst z
    rcases m _ hx with ⟨ys, h⟩ | ⟨kvs, h⟩ <;> rw [e] at h <;> cases h
theorem TIK.same {H H' : Hp} (k : Kp [] H H') : TIK H H' := .of k fun x hx => absurd hx List.not_mem_nil
theorem TIK.tr {A B C : Hp} (h : TIK A B) (g : TIK B C) : TIK A C := ⟨fun e => g.tup (h.tup e), fun e => g.ins (h.ins e)⟩
theorem Mut.pot {H : Hp} {p : Addr} (h : PotOk H p) : Mut H p := by obtain ⟨s, e⟩ := h; exact .inl ⟨_, e⟩
theorem TIK.pot {H H' : Hp} {p : Addr} (k : Kp [p] H H') (h : PotOk H p) : TIK H H' := .of k fun x hx => by rw [List.mem_singleton.mp hx]; exact .pot h
theorem pot_strs {H : Hp} {p t : Addr} {zs : List Str} (h : PotOk H p) (g : H t = some (.lst (zs.map V.str))) : p ≠ t := by
  rintro rfl
  obtain ⟨s, e⟩ := h
  rw [e] at g
  cases zs with
  | nil => simp at g
  | cons z r => simp at g
def spTold (CM CL : Addr) : Sp := fun vs H Q _ =>
  (∃ i : Int, vs = [.int i] ∧ Q (.int i) H) ∨
  (∃ (m dx d : Addr) (n : Int) (p : Str), vs = [.ref m] ∧ H m = some (.ins CM dx (modF n p d)) ∧ ∀ t, H t = none → Q (.ref t) (upd H t (.tup [.str "module", .int n]))) ∨
  (∃ (l dl m dx d : Addr) (n : Int) (p r : Str), vs = [.ref l] ∧ H l = some (.ins CL dl (lateF m r)) ∧ H m = some (.ins CM dx (modF n p d)) ∧ ∀ t, H t = none → Q (.ref t) (upd H t (.tup [.str "function", .int n, .str r])))
def spName : Sp := fun vs H Q _ => ∃ (p t : Addr) (zs : List Str), vs = [.ref p, .ref t] ∧ PotOk H p ∧ H t = some (.lst (zs.map V.str)) ∧ Taken zs ∧ zs.length ≤ 20 ∧
  ∀ H' z, Kp [p, t] H H' → PotOk H' p → H' t = some (.lst ((zs ++ [z]).map V.str)) → Taken (zs ++ [z]) → Q .non H'
def spNames : Sp := fun vs H Q _ => ∃ (p : Addr) (r : Nat), vs = [.ref p, .int r] ∧ PotOk H p ∧ r ≤ 19 ∧
  ∀ H' t zs, Kp [p] H H' → PotOk H' p → H t = none → H' t = some (.lst (zs.map V.str)) → Taken zs → zs.length = r → Q (.ref t) H'
def spNumber : Sp := fun vs H Q _ => ∃ p : Addr, vs = [.ref p] ∧ PotOk H p ∧ ∀ H' (n : Int), Kp [p] H H' → PotOk H' p → n.natAbs < 10 ^ 60 → Q (.int n) H'
def spRoad : Sp := fun vs H Q _ => ∃ (p t : Addr) (zs : List Str), vs = [.ref p, .ref t] ∧ PotOk H p ∧ H t = some (.lst (zs.map V.str)) ∧ (∀ z ∈ zs, OkN z) ∧ zs ≠ [] ∧ zs.length ≤ 20 ∧
  ∀ H' r, Kp [p] H H' → PotOk H' p → OkR r → RoadOk zs r → Q (.str r) H'
def ten : List V := [.str "begin", .str "end", .str "fail", .str "have", .str "again", .str "note", .str "caught", .str "take", .str "draw", .str "done"]
theorem ten_ok : ∀ y ∈ ten, ∃ z : Str, y = .str z ∧ OkN z := by
  have e : ∀ z ∈ (["begin", "end", "fail", "have", "again", "note", "caught", "take", "draw", "done"] : List Str), z.length ≤ 8 ∧ (∀ c ∈ tl z, c < 1114112) ∧ ∀ c ∈ tl z, c ≠ 46 := by decide +kernel
  intro y hy
  have : y ∈ (["begin", "end", "fail", "have", "again", "note", "caught", "take", "draw", "done"] : List Str).map V.str := hy
  obtain ⟨z, hz, rfl⟩ := List.mem_map.mp this
  exact ⟨z, rfl, (e z hz).1, (e z hz).2.1, (e z hz).2.2⟩
section
variable {P : Program} {w : World} {K : PySem.W.Frag} {mg : Str → Option Value} {base : Heap} {C_MadeError C_Fault C_Module C_Late : Addr}
theorem ok_told {f : Addr} {fd : FuncData} (F : Fun K "told" "told" s_told f fd) (T : Txt K mg C_MadeError C_Fault C_Module C_Late) : FnOk P w K mg base CX0 1 f fd ["thing"] (spTold C_Module C_Late) := by
  refine F.ok sc_told (fun vs H Q E h => ?_) (fun cdv A outer s H vs Q E hr h => ?_)
  · rcases h with ⟨i, rfl, _⟩ | ⟨m, dx, d, n, p, rfl, _⟩ | ⟨l, dl, m, dx, d, n, p, r, rfl, _⟩ <;> rfl
  · rcases h with ⟨i, rfl, q⟩ | ⟨m, dx, d, n, p, rfl, hm, q⟩ | ⟨l, dl, m, dx, d, n, p, r, rfl, hl, hm, q⟩
    · refine ⟨_, (pss_cons (ps_if (pt_val (pe_callB (isiK (K := K) rfl) (by rfl) T.n_isinstance (by decide +kernel) (pa_cons (pv 0) (pa_cons (pe_glob (v := .ref C_Module) rfl T.mg_Module rfl) pa_nil)))) (pss_one (ps_ret (pe_tup (pa_cons pe_str (pa_cons (kFld (K := K) rfl (pe_fld (pv 0) rfl)) pa_nil))))) pss_nil)
      (pss_cons (ps_if (pt_val (pe_callB (isiK (K := K) rfl) (by rfl) T.n_isinstance (by decide +kernel) (pa_cons (pv 0) (pa_cons (pe_glob (v := .ref C_Late) rfl T.mg_Late rfl) pa_nil)))) (pss_one (ps_ret (pe_tup (pa_cons pe_str (pa_cons (kFld (K := K) rfl (pe_fld (kFld (K := K) rfl (pe_fld (pv 0) rfl)) rfl)) (pa_cons (kFld (K := K) rfl (pe_fld (pv 0) rfl)) pa_nil)))))) pss_nil)
      (pss_one (ps_ret (pv 0))))), ?_⟩
      refine st_start (σ' := [some (.int i)]) rfl ?_
      walk_at "S"
      refine isi_own (.base (.int i)) T.kit_int_Module ?_
      walk_at "S"
      refine isi_own (.base (.int i)) T.kit_int_Late ?_
      walk_at "S"
      exact q
    · refine ⟨_, (pss_cons (ps_if (pt_val (pe_callB (isiK (K := K) rfl) (by rfl) T.n_isinstance (by decide +kernel) (pa_cons (pv 0) (pa_cons (pe_glob (v := .ref C_Module) rfl T.mg_Module rfl) pa_nil)))) (pss_one (ps_ret (pe_tup (pa_cons pe_str (pa_cons (kFld (K := K) rfl (pe_fld (pv 0) rfl)) pa_nil))))) pss_nil)
      (pss_cons (ps_if (pt_val (pe_callB (isiK (K := K) rfl) (by rfl) T.n_isinstance (by decide +kernel) (pa_cons (pv 0) (pa_cons (pe_glob (v := .ref C_Late) rfl T.mg_Late rfl) pa_nil)))) (pss_one (ps_ret (pe_tup (pa_cons pe_str (pa_cons (kFld (K := K) rfl (pe_fld (kFld (K := K) rfl (pe_fld (pv 0) rfl)) rfl)) (pa_cons (kFld (K := K) rfl (pe_fld (pv 0) rfl)) pa_nil)))))) pss_nil)
      (pss_one (ps_ret (pv 0))))), ?_⟩
      refine st_start (σ' := [some (.ref m)]) rfl ?_
      walk_at "S"
      refine isi_own (T.is_Module.ty T.cl_Module hm) T.kit_Module_Module ?_
      walk_at "S"
      refine s_ins hm T.cl_Module T.n_Module_number (lk_num _ _ _) ?_
      walk_at "S"
      exact ⟨small_le (by simp), fun t ht => q t ht⟩
    · refine ⟨_, (pss_cons (ps_if (pt_val (pe_callB (isiK (K := K) rfl) (by rfl) T.n_isinstance (by decide +kernel) (pa_cons (pv 0) (pa_cons (pe_glob (v := .ref C_Module) rfl T.mg_Module rfl) pa_nil)))) (pss_one (ps_ret (pe_tup (pa_cons pe_str (pa_cons (kFld (K := K) rfl (pe_fld (pv 0) rfl)) pa_nil))))) pss_nil)
      (pss_cons (ps_if (pt_val (pe_callB (isiK (K := K) rfl) (by rfl) T.n_isinstance (by decide +kernel) (pa_cons (pv 0) (pa_cons (pe_glob (v := .ref C_Late) rfl T.mg_Late rfl) pa_nil)))) (pss_one (ps_ret (pe_tup (pa_cons pe_str (pa_cons (kFld (K := K) rfl (pe_fld (kFld (K := K) rfl (pe_fld (pv 0) rfl)) rfl)) (pa_cons (kFld (K := K) rfl (pe_fld (pv 0) rfl)) pa_nil)))))) pss_nil)
      (pss_one (ps_ret (pv 0))))), ?_⟩
      refine st_start (σ' := [some (.ref l)]) rfl ?_
      walk_at "S"
      refine isi_own (T.is_Late.ty T.cl_Late hl) T.kit_Late_Module ?_
      walk_at "S"
      refine isi_own (T.is_Late.ty T.cl_Late hl) T.kit_Late_Late ?_
      walk_at "S"
      refine s_ins hl T.cl_Late T.n_Late_home (lk_home _ _) ?_
      walk_at "S"
      refine s_ins hm T.cl_Module T.n_Module_number (lk_num _ _ _) ?_
      walk_at "S"
      refine s_ins hl T.cl_Late T.n_Late_road (lk_road _ _) ?_
      walk_at "S"
      exact ⟨small_le (by simp), fun t ht => q t ht⟩
theorem ok_name {f : Addr} {fd : FuncData} (F : Fun K "_law_name" "_law_name" s_l_name f fd) (T : Txt K mg C_MadeError C_Fault C_Module C_Late)
    (D_l_draw : DnF P w K mg base 1 "_law_draw" ["_law_pot_here", "_law_room"] spDraw) : FnOk P w K mg base CX0 2 f fd ["_law_pot_here", "_law_taken_here"] spName := by
  refine F.ok sc_l_name (fun vs H Q E h => ?_) (fun cdv A outer s H vs Q E hr h => ?_)
  · obtain ⟨p, t, zs, rfl, _⟩ := h
    rfl
  · obtain ⟨f_l_draw, fd_l_draw, G_l_draw, m_l_draw, k_l_draw, b_l_draw⟩ := D_l_draw
    obtain ⟨p, t, zs, rfl, hp, ht, tk, nz, q⟩ := h
    have npt := pot_strs hp ht
    have eA : (tl ("abcdefghijklmnopqrstuvwxyz" : Str)) = lets := rfl
    refine ⟨_, (pss_cons (ps_set (i := 2) sc_l_name.nd rfl (Or.inr rfl) pe_str)
      (pss_cons (ps_set (i := 3) sc_l_name.nd rfl (Or.inl rfl) (pe_m1 PySem.F.slot_str_join PySem.F.type_str_join (joinK (K := K) rfl) pe_str (pe_lc (own := [("_law_k", 5)]) (g := gName 5) (tt := tYes) rfl sc_l_name.nd (pi_range1 rfl T.n_range (pa_cons (pe_op op_add pe_int (pe_op op_mul (pe_call G_l_draw (hr.mono (by first | decide | omega)) (by rfl) m_l_draw k_l_draw b_l_draw .nil pass0 (pa_cons (pv 0) (pa_cons pe_int pa_nil))) (pe_call G_l_draw (hr.mono (by first | decide | omega)) (by rfl) m_l_draw k_l_draw b_l_draw .nil pass0 (pa_cons (pv 0) (pa_cons pe_int pa_nil))))) pa_nil)) (blkOk_by (own := [("_law_k", 5)]) (N := N_l_name) (sc := (defScope s_l_name)) (by decide +kernel)) (fun _ _ _ _ _ => (pg_name (i := 5) sc_l_name.nd rfl (Or.inl rfl))) (fun _ _ _ _ _ => pts_nil) (fun _ _ _ _ _ => (pe_ix ix_str (pv 2) (pe_call G_l_draw (hr.mono (by first | decide | omega)) (by rfl) m_l_draw k_l_draw b_l_draw .nil pass0 (pa_cons (pv 0) (pa_cons pe_int pa_nil))) (fun _ _ => rfl))))))
      (pss_cons (ps_set (i := 4) sc_l_name.nd rfl (Or.inl rfl) (pe_call G_l_draw (hr.mono (by first | decide | omega)) (by rfl) m_l_draw k_l_draw b_l_draw .nil pass0 (pa_cons (pv 0) (pa_cons pe_int pa_nil))))
      (pss_cut2 (ps_if (pt_cmpR op_eq (pv 4) pe_int (nomark _)) (pss_one (ps_set (i := 3) sc_l_name.nd rfl (Or.inl rfl) (pe_ix (ixLK (K := K) rfl) (pe_lst (pa_cons pe_str (pa_cons pe_str (pa_cons pe_str (pa_cons pe_str (pa_cons pe_str (pa_cons pe_str (pa_cons pe_str (pa_cons pe_str (pa_cons pe_str (pa_cons pe_str pa_nil))))))))))) (pe_call G_l_draw (hr.mono (by first | decide | omega)) (by rfl) m_l_draw k_l_draw b_l_draw .nil pass0 (pa_cons (pv 0) (pa_cons pe_int pa_nil))) (fun _ _ => rfl)))) pss_nil)
      (pss_cut2 (ps_if (PW.pt (pw_and (pt_cmpR op_eq (pv 4) pe_int (nomark _)) (pw_and1 (pt_cmpR (neNilK (K := K) rfl hr.units) (pv 1) (pe_lst pa_nil) (nomark _))))) (pss_one (ps_set (i := 3) sc_l_name.nd rfl (Or.inl rfl) (pe_slice sl_str (pe_op addS (pe_ix (ixLK (K := K) rfl) (pv 1) (pe_un un_neg pe_int) (fun _ _ => rfl)) (pv 3)) po_none (po_some pe_int)))) pss_nil)
      (pss_cut2 (ps_if (pt_cmpR (inK (K := K) rfl) (pv 3) (pv 1) (by rfl)) (pss_one (ps_set (i := 3) sc_l_name.nd rfl (Or.inl rfl) (pe_ix (ixLK (K := K) rfl) (pe_lc (own := [("_law_letter", 6)]) (g := gName 6) rfl sc_l_name.nd (pi_str (pv 2)) (blkOk_by (own := [("_law_letter", 6)]) (N := N_l_name) (sc := (defScope s_l_name)) (by decide +kernel)) (fun _ _ _ _ _ => (pg_name (i := 6) sc_l_name.nd rfl (Or.inl rfl))) (fun _ _ _ _ _ => (pts_one (pt_cmpR (ninK (K := K) rfl) (pv 6) (pv 1) (by rfl)))) (fun _ _ _ _ _ => (pv 6))) pe_int (fun _ _ => rfl)))) pss_nil)
      (pss_one (ps_expr (kBM (K := K) rfl (pe_bm PySem.F.plainAttrs_list PySem.F.slot_list_append PySem.F.type_list_append mt_append (pv 1) (pa_cons (pv 3) pa_nil))))))))))), ?_⟩
    refine st_start (σ' := [some (.ref p), some (.ref t), none, none, none, none, none]) rfl ?_
    walk_at "S"
    refine ⟨p, _, rfl, hp, by omega, by omega, fun H1 v1 k1 hp1 a0 a1 => ?_⟩
    walk_at "S"
    refine ⟨p, _, rfl, hp1, by omega, by omega, fun H2 v2 k2 hp2 b0 b1 => ?_⟩
    have kk : Kp [p] H H2 := k1.step k2 fun x hx => .inl hx
    have b3 : 0 ≤ v1 * v2 ∧ v1 * v2 ≤ 7 := by
      rcases (show v1 = 0 ∨ v1 = 1 by omega) with rfl | rfl
      · simp
      · simp only [Int.one_mul]; omega
    walk_at "S"
    generalize v1 * v2 = m at b3 ⊢
    refine ⟨by omega, by omega, fun l hl => ?_⟩
    have np : p ≠ l := hp2.ne hl
    let PL : Nat → List V → Prop := fun i xs => ∃ cs : List Nat, xs = (cs.map sg).map V.str ∧ (∀ c ∈ cs, c ∈ lets) ∧ cs.length = i
    have L : LcOkP l (1 + m).toNat PL [p] H2 (fun _ H => PotOk H p) :=
      ⟨small_le (by omega), ⟨[], rfl, by simp, rfl⟩, hl, ⟨np.symm, trivial⟩, fun _ _ _ h => h.upd np⟩
    refine lc_goP walk_range L hp2 (fun _ _ => trivial) (fun i x Ha Hb hi I y => ?_) fun H5 I => ?_
    · obtain ⟨rfl, rfl⟩ := y
      obtain ⟨_, _, hpI⟩ := id I
      walk_at "S"
      refine ⟨rfl, ?_⟩
      walk_at "S"
      refine ⟨p, _, rfl, hpI, by omega, by omega, fun Hc v kc hpc e0 e1 => ?_⟩
      obtain ⟨c, hc, hm⟩ := pickS (z := "abcdefghijklmnopqrstuvwxyz") e0 (by rw [show (tl ("abcdefghijklmnopqrstuvwxyz" : Str)).length = 26 from by decide +kernel]; omega)
      refine s_ixS (by decide +kernel) hc ?_
      refine I.put L hi (fun xs hx => ?_) kc hpc
      obtain ⟨cs, rfl, h1, h2⟩ := hx
      refine ⟨cs ++ [c], by simp, fun d hd => ?_, by simp [h2]⟩
      rcases List.mem_append.mp hd with hd | hd
      · exact h1 d hd
      · rw [List.mem_singleton.mp hd]
        exact hm
    obtain ⟨⟨xs, x0, ⟨cs, rfl, hcs, hcl⟩, _⟩, k5, hp5⟩ := I
    walk_at "S"
    have eL : ("" : Str).length = 0 := by decide +kernel
    refine s_joinL (zs := cs.map sg) (sq_l x0) (by rw [sg_sum, List.length_map, eL]; omega) ?_
    rw [join_sg]
    have k05 : Kp [p] H H5 := kk.step k5 fun x hx => .inl hx
    walk_at "S"
    refine ⟨p, _, rfl, hp5, by omega, by omega, fun H6 wy k6 hp6 w0 w1 => ?_⟩
    have k06 : Kp [p] H H6 := k05.step k6 fun x hx => .inl hx
    walk_at "S"
    refine s_cut (fun σ H7 => ∃ z : Str, σ = [some (.ref p), some (.ref t), some (.str "abcdefghijklmnopqrstuvwxyz"), some (.str z), some (.int wy), none, none] ∧ OkN z ∧ Kp [p] H H7 ∧ PotOk H7 p) (fun J hJ => ?_) ?_
    · walk_at "S"
      refine s_dec (fun h => ?_) (fun h => ?_)
      · walk_at "S"
        refine ⟨small_le (by simp), fun l2 hl2 => ?_⟩
        walk_at "S"
        have np2 := hp6.ne hl2
        refine ⟨p, _, rfl, hp6.upd np2, by omega, by omega, fun H7 v7 k7 hp7 e0 e1 => ?_⟩
        obtain ⟨y, hy, hm⟩ := pick (xs := ten) e0 e1
        obtain ⟨z, rfl, hz⟩ := ten_ok y hm
        refine s_ixL (xs := ten) (sq_l (k7.get ⟨np2.symm, trivial⟩ upd_same)) hy ?_
        walk_at "S"
        exact hJ _ _ ⟨z, rfl, hz, (k06.upd_new hl2).step k7 fun x hx => .inl hx, hp7⟩
      · walk_at "S"
        exact hJ _ _ ⟨_, rfl, .name (by omega) hcs, k06, hp6⟩
    · rintro σ H7 ⟨z, rfl, hz, k07, hp7⟩
      have ht7 := k07.get ⟨npt.symm, trivial⟩ ht
      walk_at "S"
      refine s_cut (fun σ H8 => ∃ z : Str, σ = [some (.ref p), some (.ref t), some (.str "abcdefghijklmnopqrstuvwxyz"), some (.str z), some (.int wy), none, none] ∧ OkN z ∧ Kp [p] H H8 ∧ PotOk H8 p) (fun J hJ => ?_) ?_
      · walk_at "S"
        refine s_dec (fun h => ?_) (fun h => ?_)
        · walk_at "S"
          refine ⟨small_le (by simp), fun l2 hl2 => ?_⟩
          have np2 := hp7.ne hl2
          have ht8 : upd H7 l2 (.lst []) t = some (.lst (zs.map V.str)) := by walk_at "L"
          walk_at "S"
          refine s_nil0 (sq_l ht8) (sq_l upd_same) ?_
          walk_at "S"
          cases hzs : zs.reverse with
          | nil =>
            have e : zs = [] := by rw [← List.reverse_reverse zs, hzs]; rfl
            subst e
            walk_at "S"
            exact hJ _ _ ⟨z, rfl, hz, k07.upd_new hl2, hp7.upd np2⟩
          | cons zl zr =>
            have e : zs = zr.reverse ++ [zl] := by rw [← List.reverse_reverse zs, hzs, List.reverse_cons]
            have ml : zl ∈ zs := by rw [e]; simp
            rw [show ((zs.map V.str).isEmpty) = false from by rw [e]; simp]
            walk_at "S"
            refine s_ixL (xs := (zr.reverse).map V.str ++ [.str zl]) (sq_l (by rw [ht8, e, List.map_append]; rfl)) (atI_last _ _) ?_
            walk_at "S"
            have l1 := (tk.ok zl ml).len
            have l2' := hz.len
            refine s_addS (small_le (by omega)) ?_
            walk_at "S"
            refine s_slS (small_le (by rw [len_tl, tl_append, List.length_append, ← len_tl, ← len_tl]; omega)) ?_
            walk_at "S"
            refine hJ _ _ ⟨_, rfl, ⟨?_, ?_, ?_⟩, k07.upd_new hl2, hp7.upd np2⟩
            rotate_right
            · intro c hc
              have := cut_mem hc
              rw [tl_append] at this
              rcases List.mem_append.mp this with h | h
              · exact (tk.ok zl ml).dot c h
              · exact hz.dot c h
            · exact cut8 _
            · exact OkL.cut (by rw [tl_append]; exact OkL.app (tk.ok zl ml).ok hz.ok) _ _
        · walk_at "S"
          exact hJ _ _ ⟨z, rfl, hz, k07, hp7⟩
      · rintro σ H8 ⟨z, rfl, hz, k08, hp8⟩
        have ht8 := k08.get ⟨npt.symm, trivial⟩ ht
        walk_at "S"
        refine s_cut (fun σ H9 => ∃ z : Str, σ = [some (.ref p), some (.ref t), some (.str "abcdefghijklmnopqrstuvwxyz"), some (.str z), some (.int wy), none, none] ∧ OkN z ∧ z ∉ zs ∧ Kp [p] H H9 ∧ PotOk H9 p) (fun J hJ => ?_) ?_
        · walk_at "S"
          refine ⟨t, _, rfl, .inl (sq_l ht8), rfl, flatV_strs zs, ?_⟩
          rw [inV_strs]
          walk_at "S"
          refine s_dec (fun h => ?_) (fun h => ?_)
          · walk_at "S"
            intro D1 hD1
            have L1 : LcOk D1 ("abcdefghijklmnopqrstuvwxyz" : Str).cps.size (fun i => (((lets.take i).map sg).filter fun c => !decide (c ∈ zs)).map V.str) [] H8 (fun _ _ => True) :=
              ⟨by decide +kernel, rfl, fun i hi => by
                rw [List.length_map]
                have := List.length_filter_le (fun c => !decide (c ∈ zs)) ((lets.take i).map sg)
                rw [List.length_map, List.length_take] at this
                omega, hD1, trivial, fun _ _ _ h => h⟩
            refine lc_go walk_str L1 trivial (fun _ _ => trivial) (fun i x H2' H' hi I y => ?_) fun H9 I => ?_
            · obtain ⟨rfl, c, hc, rfl⟩ := y
              have ht9 := I.2.1.get trivial ht8
              have ep : (lets.take (i + 1)).map sg = (lets.take i).map sg ++ [sg c] := by rw [take_put (lets_at hc), List.map_append]; rfl
              walk_at "S"
              refine ⟨rfl, ?_⟩
              walk_at "S"
              refine ⟨t, _, rfl, .inl (sq_l ht9), rfl, flatV_strs zs, ?_⟩
              rw [inV_strs]
              walk_at "S"
              refine s_ndec (fun h => ?_) (fun h => ?_)
              · walk_at "S"
                refine I.put L1 hi ?_ Kp.refl trivial
                rw [ep, List.filter_append, List.map_append]
                congr 1
                rw [List.filter_cons_of_pos (by simpa using h)]
                rfl
              · refine I.skip L1 ?_ Kp.refl trivial
                rw [ep, List.filter_append, List.filter_cons_of_neg (by simpa using h)]
                simp
            obtain ⟨x1, k9, _⟩ := I
            dsimp only at x1
            rw [show List.take ("abcdefghijklmnopqrstuvwxyz" : Str).cps.size lets = lets from by decide +kernel] at x1
            obtain ⟨c, r, ecr⟩ : ∃ c r, (lets.map sg).filter (fun c => !decide (c ∈ zs)) = c :: r := by
              cases e : (lets.map sg).filter (fun c => !decide (c ∈ zs)) with
              | nil => exact absurd e (free_cand (by omega))
              | cons c r => exact ⟨c, r, rfl⟩
            rw [ecr] at x1
            have mc : c ∈ (lets.map sg).filter (fun c => !decide (c ∈ zs)) := by rw [ecr]; exact List.mem_cons_self
            rw [List.mem_filter] at mc
            walk_at "S"
            refine s_ixL (sq_l x1) (k := ((0 : Nat) : Int)) (atI_nat rfl) ?_
            walk_at "S"
            exact hJ _ _ ⟨c, rfl, ⟨(cands_ok c mc.1).1, (cands_ok c mc.1).2.1, (cands_ok c mc.1).2.2⟩, by simpa using mc.2, k08.tr (Kp.nil_W k9), hp8.kp k9 trivial⟩
          · walk_at "S"
            exact hJ _ _ ⟨z, rfl, hz, h, k08, hp8⟩
        · rintro σ H9 ⟨z, rfl, hz, nm, k09, hp9⟩
          have ht9 := k09.get ⟨npt.symm, trivial⟩ ht
          walk_at "S"
          refine s_append ht9 (small_lt (by rw [List.length_map]; omega)) ?_
          refine q _ z ?_ (hp9.upd npt) (by rw [upd_same, List.map_append]; rfl) ⟨List.nodup_append.mpr ⟨tk.nd, List.pairwise_singleton _ _, fun a ha b hb e => nm (by rw [← List.mem_singleton.mp hb, ← e]; exact ha)⟩, fun y hy => ?_⟩
          · exact (k09.weak fun x hx => by rw [List.mem_singleton.mp hx]; exact List.mem_cons_self).upd_mem (by simp)
          · rcases List.mem_append.mp hy with hy | hy
            · exact tk.ok y hy
            · rw [List.mem_singleton.mp hy]; exact hz
end

/-- facts: (tuple's address, number, path) -/
abbrev Fact := Addr × Int × Str
structure FactOk (H : Hp) (f : Fact) : Prop where
  at_ : H f.1 = some (.tup [.int f.2.1, .str f.2.2])
  pos : f.2.1.natAbs < 10 ^ 60
  road : OkR f.2.2
def spFacts : Sp := fun vs H Q _ => ∃ (p : Addr) (r : Nat), vs = [.ref p, .int r] ∧ PotOk H p ∧ r ≤ 20 ∧
  ∀ H' F (fs : List Fact), Kp [p] H H' → PotOk H' p → H F = none → H' F = some (.lst (fs.map fun f : Fact => V.ref f.1)) → (∀ f ∈ fs, FactOk H' f) → fs.length = r → Q (.ref F) H'
section
variable {P : Program} {w : World} {K : PySem.W.Frag} {mg : Str → Option Value} {base : Heap} {C_MadeError C_Fault C_Module C_Late : Addr}
theorem FactOk.tik {H H' : Hp} {f : Fact} (h : FactOk H f) (t : TIK H H') : FactOk H' f := ⟨t.tup h.at_, h.pos, h.road⟩
theorem ok_names {f : Addr} {fd : FuncData} (F : Fun K "_law_names" "_law_names" s_l_names f fd) (T : Txt K mg C_MadeError C_Fault C_Module C_Late)
    (D_l_name : DnF P w K mg base 2 "_law_name" ["_law_pot_here", "_law_taken_here"] spName) : FnOk P w K mg base CX0 3 f fd ["_law_pot_here", "_law_room"] spNames := by
  refine F.ok sc_l_names (fun vs H Q E h => ?_) (fun cdv A outer s H vs Q E hr h => ?_)
  · obtain ⟨p, r, rfl, _⟩ := h
    rfl
  · obtain ⟨f_l_name, fd_l_name, G_l_name, m_l_name, k_l_name, b_l_name⟩ := D_l_name
    obtain ⟨p, r, rfl, hp, hr40, q⟩ := h
    refine ⟨_, (pss_cons (ps_set (i := 2) sc_l_names.nd rfl (Or.inl rfl) (pe_lst pa_nil))
      (pss_cons (ps_for PassesOwn.never rfl (pi_range1 rfl T.n_range (pa_cons (pv 1) pa_nil)) (pg_name (i := 3) sc_l_names.nd rfl (Or.inl rfl)) (pss_one (ps_expr (pe_call G_l_name (hr.mono (by first | decide | omega)) (by rfl) m_l_name k_l_name b_l_name .nil pass0 (pa_cons (pv 0) (pa_cons (pv 2) pa_nil))))))
      (pss_one (ps_ret (pv 2))))), ?_⟩
    refine st_start (σ' := [some (.ref p), some (.int r), none, none]) rfl ?_
    walk_at "S"
    refine ⟨small_le (by simp), fun t ht => ?_⟩
    have npt := hp.ne ht
    walk_at "S"
    refine ⟨by omega, by omega, ?_⟩
    refine for_go walk_range (fun i σ H2 => ∃ (zs : List Str) (o : Option V), σ = [some (.ref p), some (.int r), some (.ref t), o] ∧ Kp [p] H H2 ∧ PotOk H2 p ∧ H2 t = some (.lst (zs.map V.str)) ∧ Taken zs ∧ zs.length = i)
      ⟨[], _, rfl, Kp.refl.upd_new ht, hp.upd npt, upd_same, ⟨.nil, by simp⟩, rfl⟩ (fun _ _ _ _ _ => trivial) (fun i x σ Ha Hb hi I y => ?_) fun σ H2 I => ?_
    · obtain ⟨rfl, rfl⟩ := y
      obtain ⟨zs, o, rfl, k2, hp2, ht2, tk, nz⟩ := I
      walk_at "S"
      refine ⟨p, t, zs, rfl, hp2, ht2, tk, by omega, fun H3 z k3 hp3 ht3 tk3 => ?_⟩
      walk_at "S"
      refine ⟨_, _, rfl, ?_, hp3, ht3, tk3, by rw [List.length_append, List.length_singleton]; omega⟩
      exact k2.step k3 fun x hx => by
        simp only [List.mem_cons, List.not_mem_nil, or_false] at hx
        rcases hx with rfl | rfl
        · exact .inl List.mem_cons_self
        · exact .inr ht
    · obtain ⟨zs, o, rfl, k2, hp2, ht2, tk, nz⟩ := I
      walk_at "S"
      exact q _ t zs k2 hp2 ht ht2 tk (by omega)
theorem ok_number {f : Addr} {fd : FuncData} (F : Fun K "_law_number" "_law_number" s_l_number f fd)
    (D_l_draw : DnF P w K mg base 1 "_law_draw" ["_law_pot_here", "_law_room"] spDraw) : FnOk P w K mg base CX0 2 f fd ["_law_pot_here"] spNumber := by
  refine F.ok sc_l_number (fun vs H Q E h => ?_) (fun cdv A outer s H vs Q E hr h => ?_)
  · obtain ⟨p, rfl, _⟩ := h
    rfl
  · obtain ⟨f_l_draw, fd_l_draw, G_l_draw, m_l_draw, k_l_draw, b_l_draw⟩ := D_l_draw
    obtain ⟨p, rfl, hp, q⟩ := h
    have e : (10 : Int) ^ (60 : Int).toNat = 1000000000000000000000000000000000000000000000000000000000000 := by decide +kernel
    refine ⟨_, (pss_cons (ps_if (pt_cmpR op_eq (pe_call G_l_draw (hr.mono (by first | decide | omega)) (by rfl) m_l_draw k_l_draw b_l_draw .nil pass0 (pa_cons (pv 0) (pa_cons pe_int pa_nil))) pe_int (nomark _)) (pss_one (ps_ret (pe_op op_add (pe_op op_sub (pe_call G_l_draw (hr.mono (by first | decide | omega)) (by rfl) m_l_draw k_l_draw b_l_draw .nil pass0 (pa_cons (pv 0) (pa_cons (pe_op op_sub (pe_op op_mul pe_int (pe_op op_pow pe_int pe_int)) pe_int) pa_nil))) (pe_op op_pow pe_int pe_int)) pe_int))) pss_nil)
      (pss_one (ps_ret (pe_op op_sub (pe_call G_l_draw (hr.mono (by first | decide | omega)) (by rfl) m_l_draw k_l_draw b_l_draw .nil pass0 (pa_cons (pv 0) (pa_cons pe_int pa_nil))) pe_int)))), ?_⟩
    refine st_start (σ' := [some (.ref p)]) rfl ?_
    walk_at "S"
    refine ⟨p, _, rfl, hp, by omega, by omega, fun H1 v1 k1 hp1 a0 a1 => ?_⟩
    walk_at "S"
    refine s_dec (fun h4 => ?_) (fun h4 => ?_)
    · walk_at "S"
      rw [e]
      refine ⟨p, _, rfl, hp1, by omega, by omega, fun H2 v2 k2 hp2 b0 b1 => ?_⟩
      walk_at "S"
      rw [e]
      exact q _ _ (k1.tr k2) hp2 (by omega)
    · walk_at "S"
      refine ⟨p, _, rfl, hp1, by omega, by omega, fun H2 v2 k2 hp2 b0 b1 => ?_⟩
      walk_at "S"
      exact q _ _ (k1.tr k2) hp2 (by omega)
theorem pickM {α : Type} {xs : List α} {g : α → V} {v : Int} (h0 : 0 ≤ v) (h1 : v < (xs.length : Int)) : ∃ (n : Nat) (x : α), v = (n : Int) ∧ n < xs.length ∧ xs[n]? = some x ∧ x ∈ xs ∧ atI (xs.map g) v = some (g x) := by
  obtain ⟨n, rfl⟩ := Int.eq_ofNat_of_zero_le h0
  have hn : n < xs.length := by omega
  refine ⟨n, xs[n], rfl, hn, List.getElem?_eq_getElem hn, List.getElem_mem hn, atI_nat ?_⟩
  rw [List.getElem?_map, List.getElem?_eq_getElem hn]
  rfl
theorem ok_road {f : Addr} {fd : FuncData} (F : Fun K "_law_road" "_law_road" s_l_road f fd) (T : Txt K mg C_MadeError C_Fault C_Module C_Late)
    (D_l_draw : DnF P w K mg base 1 "_law_draw" ["_law_pot_here", "_law_room"] spDraw) : FnOk P w K mg base CX0 2 f fd ["_law_pot_here", "_law_names_here"] spRoad := by
  refine F.ok sc_l_road (fun vs H Q E h => ?_) (fun cdv A outer s H vs Q E hr h => ?_)
  · obtain ⟨p, t, zs, rfl, _⟩ := h
    rfl
  · obtain ⟨f_l_draw, fd_l_draw, G_l_draw, m_l_draw, k_l_draw, b_l_draw⟩ := D_l_draw
    obtain ⟨p, t, zs, rfl, hp, ht, hz, ne, nz, q⟩ := h
    have npt := pot_strs hp ht
    have lz := List.length_pos_iff.mpr ne
    refine ⟨_, (pss_one (ps_ret (pe_m1 PySem.F.slot_str_join PySem.F.type_str_join (joinK (K := K) rfl) pe_str (pe_lc (own := [("_law_k", 2)]) (g := gName 2) (tt := tYes) rfl sc_l_road.nd (pi_range1 rfl T.n_range (pa_cons (pe_op op_add pe_int (pe_call G_l_draw (hr.mono (by first | decide | omega)) (by rfl) m_l_draw k_l_draw b_l_draw .nil pass0 (pa_cons (pv 0) (pa_cons pe_int pa_nil)))) pa_nil)) (blkOk_by (own := [("_law_k", 2)]) (N := N_l_road) (sc := (defScope s_l_road)) (by decide +kernel)) (fun _ _ _ _ _ => (pg_name (i := 2) sc_l_road.nd rfl (Or.inl rfl))) (fun _ _ _ _ _ => pts_nil) (fun _ _ _ _ _ => (pe_ix (ixLK (K := K) rfl) (pv 1) (pe_call G_l_draw (hr.mono (by first | decide | omega)) (by rfl) m_l_draw k_l_draw b_l_draw .nil pass0 (pa_cons (pv 0) (pa_cons (pe_callB (lenK (K := K) rfl) (by rfl) T.n_len (by decide +kernel) (pa_cons (pv 1) pa_nil)) pa_nil))) (fun _ _ => rfl))))))), ?_⟩
    refine st_start (σ' := [some (.ref p), some (.ref t), none]) rfl ?_
    walk_at "S"
    refine ⟨p, _, rfl, hp, by omega, by omega, fun H1 v1 k1 hp1 a0 a1 => ?_⟩
    have ht1 := k1.get ⟨npt.symm, trivial⟩ ht
    walk_at "S"
    refine ⟨by omega, by omega, fun l hl => ?_⟩
    have np : p ≠ l := hp1.ne hl
    let PL : Nat → List V → Prop := fun i xs => ∃ cs : List Str, xs = cs.map V.str ∧ (∀ c ∈ cs, c ∈ zs) ∧ cs.length = i
    have L : LcOkP l (1 + v1).toNat PL [p] H1 (fun _ H => PotOk H p) :=
      ⟨small_le (by omega), ⟨[], rfl, by simp, rfl⟩, hl, ⟨np.symm, trivial⟩, fun _ _ _ h => h.upd np⟩
    refine lc_goP walk_range L hp1 (fun _ _ => trivial) (fun i x Ha Hb hi I y => ?_) fun H5 I => ?_
    · obtain ⟨rfl, rfl⟩ := y
      obtain ⟨_, kI, hpI⟩ := id I
      have htI := kI.get ⟨npt.symm, trivial⟩ ht1
      walk_at "S"
      refine ⟨rfl, ?_⟩
      walk_at "S"
      rw [List.length_map]
      refine ⟨p, _, rfl, hpI, by omega, by omega, fun Hc v kc hpc e0 e1 => ?_⟩
      obtain ⟨n, z, rfl, hn, en, mz, az⟩ := pickM (g := V.str) e0 e1
      refine s_ixL (sq_l (kc.get ⟨npt.symm, trivial⟩ htI)) az ?_
      refine I.put L hi (fun xs hx => ?_) kc hpc
      obtain ⟨cs, rfl, h1, h2⟩ := hx
      refine ⟨cs ++ [z], by simp, fun d hd => ?_, by simp [h2]⟩
      rcases List.mem_append.mp hd with hd | hd
      · exact h1 d hd
      · rw [List.mem_singleton.mp hd]
        exact mz
    obtain ⟨⟨xs, x0, ⟨cs, rfl, hcz, hcl⟩, _⟩, k5, hp5⟩ := I
    have hcs : ∀ c ∈ cs, OkN c := fun c hc => hz c (hcz c hc)
    walk_at "S"
    have eD : ("." : Str).length = 1 := by decide +kernel
    have sm : (cs.map (·.length)).sum ≤ cs.length * 8 := sum_le_of fun y hy => (hcs y hy).len
    refine s_joinL (zs := cs) (sq_l x0) (by rw [eD]; omega) ?_
    refine q _ _ (k1.tr k5) hp5 ⟨?_, OkL.join (show ∀ c ∈ tl ("." : Str), c < 1114112 by decide +kernel) fun y hy => (hcs y hy).ok⟩ ⟨cs, rfl, fun e => by rw [e] at hcl; simp at hcl; omega, by omega, hcz⟩
    have jl : (Txt.join "." cs).length + 1 ≤ (cs.map (·.length)).sum + cs.length + (if cs = [] then 1 else 0) := by
      have j : ∀ ps : List (List Nat), (joinL [46] ps).length + 1 ≤ (ps.map List.length).sum + ps.length + (if ps = [] then 1 else 0) := by
        intro ps
        induction ps with
        | nil => simp [joinL]
        | cons a r ih =>
          cases r with
          | nil => simp [joinL]
          | cons b r =>
            rw [joinL_cons _ _ (by simp), List.length_append, List.length_append, List.map_cons, List.sum_cons, List.length_cons, if_neg (by simp)]
            rw [if_neg (by simp)] at ih
            simp at ih ⊢
            omega
      have g := j (cs.map tl)
      rw [len_tl, join_eq, tl_join, show tl ("." : Str) = [46] from by decide +kernel]
      rw [List.map_map, List.length_map] at g
      rw [show (cs.map (List.length ∘ tl)) = cs.map (·.length) from List.map_congr_left fun a _ => (len_tl a).symm] at g
      by_cases c : cs = []
      · rw [if_pos (by rw [c]; rfl)] at g
        rw [if_pos c]
        exact g
      · rw [if_neg (by simpa using c)] at g
        rw [if_neg c]
        exact g
    split at jl
    · rename_i e
      rw [e] at hcl
      simp at hcl
      omega
    · omega
theorem ok_facts {f : Addr} {fd : FuncData} (F : Fun K "_law_facts" "_law_facts" s_l_facts f fd) (T : Txt K mg C_MadeError C_Fault C_Module C_Late)
    (D_l_draw : DnF P w K mg base 1 "_law_draw" ["_law_pot_here", "_law_room"] spDraw) (D_l_names : DnF P w K mg base 3 "_law_names" ["_law_pot_here", "_law_room"] spNames)
    (D_l_road : DnF P w K mg base 2 "_law_road" ["_law_pot_here", "_law_names_here"] spRoad) : FnOk P w K mg base CX0 4 f fd ["_law_pot_here", "_law_room"] spFacts := by
  refine F.ok sc_l_facts (fun vs H Q E h => ?_) (fun cdv A outer s H vs Q E hr h => ?_)
  · obtain ⟨p, r, rfl, _⟩ := h
    rfl
  · obtain ⟨f_l_names, fd_l_names, G_l_names, m_l_names, k_l_names, b_l_names⟩ := D_l_names; obtain ⟨f_l_draw, fd_l_draw, G_l_draw, m_l_draw, k_l_draw, b_l_draw⟩ := D_l_draw; obtain ⟨f_l_road, fd_l_road, G_l_road, m_l_road, k_l_road, b_l_road⟩ := D_l_road
    obtain ⟨p, r, rfl, hp, hr20, q⟩ := h
    have e59 : (10 : Int) ^ (59 : Int).toNat = 100000000000000000000000000000000000000000000000000000000000 := by decide +kernel
    refine ⟨_, (pss_cons (ps_set (i := 2) sc_l_facts.nd rfl (Or.inl rfl) (pe_call G_l_names (hr.mono (by first | decide | omega)) (by rfl) m_l_names k_l_names b_l_names .nil pass0 (pa_cons (pv 0) (pa_cons pe_int pa_nil))))
      (pss_cons (ps_set (i := 3) sc_l_facts.nd rfl (Or.inl rfl) (pe_op op_add pe_int (pe_call G_l_draw (hr.mono (by first | decide | omega)) (by rfl) m_l_draw k_l_draw b_l_draw .nil pass0 (pa_cons (pv 0) (pa_cons (pe_ix (ixLK (K := K) rfl) (pe_lst (pa_cons pe_int (pa_cons (pe_op op_pow pe_int pe_int) pa_nil))) (pe_op op_fdiv (pe_call G_l_draw (hr.mono (by first | decide | omega)) (by rfl) m_l_draw k_l_draw b_l_draw .nil pass0 (pa_cons (pv 0) (pa_cons pe_int pa_nil))) pe_int) (fun _ _ => rfl)) pa_nil)))))
      (pss_cons (ps_set (i := 4) sc_l_facts.nd rfl (Or.inl rfl) (pe_lst pa_nil))
      (pss_cons (ps_for PassesOwn.never rfl (pi_range1 rfl T.n_range (pa_cons (pv 1) pa_nil)) (pg_name (i := 5) sc_l_facts.nd rfl (Or.inl rfl)) (pss_cons (ps_set (i := 6) sc_l_facts.nd rfl (Or.inl rfl) (pe_call G_l_road (hr.mono (by first | decide | omega)) (by rfl) m_l_road k_l_road b_l_road .nil pass0 (pa_cons (pv 0) (pa_cons (pv 2) pa_nil))))
      (pss_cut2 (ps_if (PW.pt (pw_and (pt_cmpR (neNilK (K := K) rfl hr.units) (pv 4) (pe_lst pa_nil) (nomark _)) (pw_and1 (pt_cmpR op_eq (pe_call G_l_draw (hr.mono (by first | decide | omega)) (by rfl) m_l_draw k_l_draw b_l_draw .nil pass0 (pa_cons (pv 0) (pa_cons pe_int pa_nil))) pe_int (nomark _))))) (pss_one (ps_set (i := 6) sc_l_facts.nd rfl (Or.inl rfl) (pe_ix (ixTK (K := K) rfl) (pe_ix (ixLK (K := K) rfl) (pv 4) (pe_call G_l_draw (hr.mono (by first | decide | omega)) (by rfl) m_l_draw k_l_draw b_l_draw .nil pass0 (pa_cons (pv 0) (pa_cons (pe_callB (lenK (K := K) rfl) (by rfl) T.n_len (by decide +kernel) (pa_cons (pv 4) pa_nil)) pa_nil))) (fun _ _ => rfl)) pe_int (fun _ _ => rfl)))) pss_nil)
      (pss_cons (ps_expr (kBM (K := K) rfl (pe_bm PySem.F.plainAttrs_list PySem.F.slot_list_insert PySem.F.type_list_insert mt_insert (pv 4) (pa_cons (pe_call G_l_draw (hr.mono (by first | decide | omega)) (by rfl) m_l_draw k_l_draw b_l_draw .nil pass0 (pa_cons (pv 0) (pa_cons (pe_op op_add (pe_callB (lenK (K := K) rfl) (by rfl) T.n_len (by decide +kernel) (pa_cons (pv 4) pa_nil)) pe_int) pa_nil))) (pa_cons (pe_tup (pa_cons (pv 3) (pa_cons (pv 6) pa_nil))) pa_nil)))))
      (pss_one (ps_set (i := 3) sc_l_facts.nd rfl (Or.inl rfl) (pe_op op_add (pe_op op_add (pv 3) pe_int) (pe_call G_l_draw (hr.mono (by first | decide | omega)) (by rfl) m_l_draw k_l_draw b_l_draw .nil pass0 (pa_cons (pv 0) (pa_cons pe_int pa_nil))))))))))
      (pss_one (ps_ret (pv 4))))))), ?_⟩
    refine st_start (σ' := [some (.ref p), some (.int r), none, none, none, none, none]) rfl ?_
    walk_at "S"
    refine ⟨p, 4, rfl, hp, by omega, fun H1 t zs k1 hp1 nt ht tk nz => ?_⟩
    walk_at "S"
    refine ⟨small_le (by simp), fun l hl => ?_⟩
    walk_at "S"
    have npl := hp1.ne hl
    refine ⟨p, _, rfl, hp1.upd npl, by omega, by omega, fun H2 v2 k2 hp2 a0 a1 => ?_⟩
    walk_at "S"
    have e2 : H2 l = some (.lst [.int 3, .int ((10 : Int) ^ (59 : Int).toNat)]) := k2.get ⟨npl.symm, trivial⟩ upd_same
    have k02 : Kp [p] H H2 := (k1.upd_new hl).tr k2
    have npt : p ≠ t := pot_strs hp1 ht
    have ht2 : H2 t = some (.lst (zs.map V.str)) := k2.get ⟨npt.symm, trivial⟩ (by walk_at "L")
    obtain ⟨m, hm, m0, m1⟩ : ∃ m : Int, atI [V.int 3, .int ((10 : Int) ^ (59 : Int).toNat)] (v2 / 3) = some (.int m) ∧ 0 < m ∧ m ≤ 100000000000000000000000000000000000000000000000000000000000 := by
      rcases (show v2 / 3 = ((0 : Nat) : Int) ∨ v2 / 3 = ((1 : Nat) : Int) by omega) with h | h
      · rw [h]; exact ⟨3, atI_nat rfl, by omega, by omega⟩
      · rw [h]; exact ⟨_, atI_nat rfl, by rw [e59]; omega, by rw [e59]; omega⟩
    refine s_ixL (sq_l e2) hm ?_
    walk_at "S"
    refine ⟨p, m, rfl, hp2, m0, by omega, fun H3 v3 k3 hp3 b0 b1 => ?_⟩
    walk_at "S"
    refine ⟨small_le (by simp), fun F hF => ?_⟩
    walk_at "S"
    refine ⟨by omega, by omega, ?_⟩
    have k03 : Kp [p] H H3 := k02.tr k3
    have ht3 := k3.get ⟨npt.symm, trivial⟩ ht2
    have npF := hp3.ne hF
    have ntF : t ≠ F := ne_of_none ht3 hF
    have nF : H F = none := k03.free ⟨npF.symm, trivial⟩ hF
    refine for_go walk_range (fun i σ H4 => ∃ (fs : List Fact) (o5 o6 : Option V) (n : Int), σ = [some (.ref p), some (.int r), some (.ref t), some (.int n), some (.ref F), o5, o6] ∧ Kp [p] H H4 ∧ PotOk H4 p ∧ H4 t = some (.lst (zs.map V.str)) ∧
        H4 F = some (.lst (fs.map fun f : Fact => V.ref f.1)) ∧ (∀ f ∈ fs, FactOk H4 f) ∧ fs.length = i ∧ 0 < n ∧ n ≤ 100000000000000000000000000000000000000000000000000000000001 + 10 * (i : Int))
      ⟨[], _, _, _, rfl, k03.upd_new hF, hp3.upd npF, (upd_ne ntF).trans ht3, upd_same, by simp, rfl, by omega, by omega⟩ (fun _ _ _ _ _ => trivial) (fun i x σ Ha Hb hi I y => ?_) fun σ H4 I => ?_
    · obtain ⟨rfl, rfl⟩ := y
      obtain ⟨fs, o5, o6, n, rfl, k4, hp4, ht4, hF4, ok4, nl, n0, n1⟩ := I
      walk_at "S"
      refine ⟨p, t, zs, rfl, hp4, ht4, tk.ok, fun e => by rw [e] at nz; simp at nz, by omega, fun H5 z k5 hp5 hz _ => ?_⟩
      have t45 := TIK.pot k5 hp4
      have hF5 := k5.get ⟨npF.symm, trivial⟩ hF4
      have ht5 := k5.get ⟨npt.symm, trivial⟩ ht4
      walk_at "S"
      refine s_cut (fun σ H6 => ∃ z : Str, σ = [some (.ref p), some (.int r), some (.ref t), some (.int n), some (.ref F), some (.int (0 + (i : Int))), some (.str z)] ∧ OkR z ∧ Kp [p] H5 H6 ∧ PotOk H6 p) (fun J hJ => ?_) ?_
      · walk_at "S"
        refine ⟨small_le (by simp), fun e0 he0 => ?_⟩
        have npe := hp5.ne he0
        have hF5' : upd H5 e0 (.lst []) F = some (.lst (fs.map fun f : Fact => V.ref f.1)) := by walk_at "L"
        walk_at "S"
        refine s_nil0 (sq_l hF5') (sq_l upd_same) ?_
        walk_at "S"
        cases hfs : fs with
        | nil =>
          walk_at "S"
          exact hJ _ _ ⟨z, rfl, hz, Kp.refl.upd_new he0, hp5.upd npe⟩
        | cons f0 fr =>
          rw [← hfs, show ((fs.map fun f : Fact => V.ref f.1).isEmpty) = false from by rw [hfs]; rfl]
          walk_at "S"
          refine ⟨p, _, rfl, hp5.upd npe, by omega, by omega, fun H6 v6 k6 hp6 c0 c1 => ?_⟩
          have hF6 := k6.get ⟨npF.symm, trivial⟩ hF5'
          walk_at "S"
          refine s_dec (fun h => ?_) (fun h => ?_)
          · walk_at "S"
            rw [List.length_map]
            refine ⟨p, _, rfl, hp6, by rw [nl]; rw [hfs] at nl; simp at nl; omega, by omega, fun H7 v7 k7 hp7 d0 d1 => ?_⟩
            obtain ⟨j, fj, rfl, hj, ej, mj, aj⟩ := pickM (g := fun f : Fact => V.ref f.1) d0 d1
            refine s_ixL (sq_l (k7.get ⟨npF.symm, trivial⟩ hF6)) aj ?_
            walk_at "S"
            have ok7 := ((ok4 fj mj).tik t45).tik ((TIK.same (Kp.refl.upd_new he0)).tr ((TIK.pot k6 (hp5.upd npe)).tr (TIK.pot k7 hp6)))
            refine s_ixT (sq_t ok7.at_) (k := ((1 : Nat) : Int)) (atI_nat rfl) ?_
            walk_at "S"
            exact hJ _ _ ⟨_, rfl, ok7.road, ((Kp.refl.upd_new he0).tr k6).tr k7, hp7⟩
          · walk_at "S"
            exact hJ _ _ ⟨z, rfl, hz, (Kp.refl.upd_new he0).tr k6, hp6⟩
      · rintro σ H6 ⟨z, rfl, hz, k6, hp6⟩
        have hF6 := k6.get ⟨npF.symm, trivial⟩ hF5
        have ht6 := k6.get ⟨npt.symm, trivial⟩ ht5
        have t46 := t45.tr (TIK.pot k6 hp5)
        walk_at "S"
        rw [List.length_map]
        refine ⟨p, _, rfl, hp6, by omega, by omega, fun H7 v7 k7 hp7 d0 d1 => ?_⟩
        have hF7 := k7.get ⟨npF.symm, trivial⟩ hF6
        have ht7 := k7.get ⟨npt.symm, trivial⟩ ht6
        have t47 := t46.tr (TIK.pot k7 hp6)
        walk_at "S"
        refine ⟨small_le (by simp), fun tp htp => ?_⟩
        obtain ⟨j, rfl⟩ := Int.eq_ofNat_of_zero_le d0
        have hF8 : upd H7 tp (.tup [.int n, .str z]) F = some (.lst (fs.map fun f : Fact => V.ref f.1)) := by walk_at "L"
        refine ⟨F, _, (j : Int), _, rfl, rfl, hF8, small_lt (by rw [List.length_map]; omega), by omega, by omega, ?_⟩
        have nFt : F ≠ tp := ne_of_none hF7 htp
        have t9 : TIK Hb (upd (upd H7 tp (.tup [.int n, .str z])) F (.lst ((fs.map fun f : Fact => V.ref f.1).take (j : Int).toNat ++ [.ref tp] ++ (fs.map fun f : Fact => V.ref f.1).drop (j : Int).toNat))) :=
          (t47.tr (.same (Kp.refl.upd_new htp))).tr (.of (W := [F]) (Kp.refl.upd_mem List.mem_cons_self) fun x hx => by rw [List.mem_singleton.mp hx]; exact .inl ⟨_, hF8⟩)
        walk_at "S"
        refine ⟨p, _, rfl, (hp7.upd (hp7.ne htp)).upd npF, by omega, by omega, fun H10 v10 k10 hp10 g0 g1 => ?_⟩
        walk_at "S"
        have t10 := t9.tr (TIK.pot k10 ((hp7.upd (hp7.ne htp)).upd npF))
        refine ⟨fs.take j ++ [(tp, n, z)] ++ fs.drop j, _, _, _, rfl, ?_, hp10, ?_, ?_, ?_, ?_, by omega, by omega⟩
        · exact ((((k4.tr k5).tr k6).tr k7).upd_new htp |>.upd_loc nF).tr k10
        · exact k10.get ⟨npt.symm, trivial⟩ ((upd_ne ntF).trans ((upd_ne (ne_of_none ht7 htp)).trans ht7))
        · rw [k10.get ⟨npF.symm, trivial⟩ upd_same]
          rw [List.map_append, List.map_append, List.map_take, List.map_drop]
          rfl
        · intro f hf
          have tpH : upd (upd H7 tp (.tup [.int n, .str z])) F (.lst ((fs.map fun f : Fact => V.ref f.1).take (j : Int).toNat ++ [.ref tp] ++ (fs.map fun f : Fact => V.ref f.1).drop (j : Int).toNat)) tp = some (.tup [.int n, .str z]) := (upd_ne nFt.symm).trans upd_same
          rcases List.mem_append.mp hf with hf | hf
          · rcases List.mem_append.mp hf with hf | hf
            · exact (ok4 f (List.mem_of_mem_take hf)).tik t10
            · rw [List.mem_singleton.mp hf]
              exact ⟨(TIK.pot k10 ((hp7.upd (hp7.ne htp)).upd npF)).tup tpH, by show n.natAbs < 10 ^ 60; omega, hz⟩
          · exact (ok4 f (List.mem_of_mem_drop hf)).tik t10
        · simp only [List.length_append, List.length_take, List.length_drop, List.length_singleton]
          omega
    · obtain ⟨fs, o5, o6, n, rfl, k4, hp4, ht4, hF4, ok4, nl, n0, n1⟩ := I
      walk_at "S"
      exact q _ F fs k4 hp4 nF hF4 ok4 (by omega)
end

/-- a module's address, and its fact -/
abbrev Bs := Addr × Fact
/-- what a name is bound to -/
inductive Kd
  | int (n : Int)
  | mod (j : Nat)
  | late (j : Nat) (r : Str)
def Kd.vs : Kd → List V
  | .int n => [.int 0, .int n]
  | .mod j => [.int 1, .int (j : Nat)]
  | .late j r => [.int 2, .int (j : Nat), .str r]
inductive KdOk (n : Nat) (zs : List Str) : Kd → Prop
  | int {i : Int} : i.natAbs < 10 ^ 60 → KdOk n zs (.int i)
  | mod {j : Nat} : j < n → KdOk n zs (.mod j)
  | late {j : Nat} {r : Str} : j < n → OkR r → RoadOk zs r → KdOk n zs (.late j r)
/-- a thing, and what it is bound as -/
inductive ThingIs (CL : Addr) (H : Hp) (bs : List Bs) : V → Kd → Prop
  | int {n : Int} : ThingIs CL H bs (.int n) (.int n)
  | mod {j : Nat} {b : Bs} : bs[j]? = some b → ThingIs CL H bs (.ref b.1) (.mod j)
  | late {j : Nat} {b : Bs} {l dl : Addr} {r : Str} : bs[j]? = some b → H l = some (.ins CL dl (lateF b.1 r)) → ThingIs CL H bs (.ref l) (.late j r)
theorem ThingIs.tik {CL : Addr} {H H' : Hp} {bs : List Bs} {v : V} {k : Kd} (h : ThingIs CL H bs v k) (t : TIK H H') : ThingIs CL H' bs v k := by
  cases h with
  | int => exact .int
  | mod h1 => exact .mod h1
  | late h1 h2 => exact .late h1 (t.ins h2)
theorem pot_refs {α : Type} {H : Hp} {p t : Addr} {zs : List α} {g : α → Addr} (h : PotOk H p) (e : H t = some (.lst (zs.map fun z => V.ref (g z)))) : p ≠ t := by
  rintro rfl
  obtain ⟨s, e1⟩ := h
  rw [e1] at e
  cases zs with
  | nil => simp at e
  | cons z r => simp at e
def spKind : Sp := fun vs H Q _ => ∃ (p F N : Addr) (fs : List Fact) (zs : List Str), vs = [.ref p, .ref F, .ref N] ∧ PotOk H p ∧
  H F = some (.lst (fs.map fun f : Fact => V.ref f.1)) ∧ fs ≠ [] ∧ fs.length ≤ 20 ∧ H N = some (.lst (zs.map V.str)) ∧ (∀ z ∈ zs, OkN z) ∧ zs ≠ [] ∧ zs.length ≤ 20 ∧
  ∀ H' t k, Kp [p] H H' → PotOk H' p → H' t = some (.tup (Kd.vs k)) → KdOk fs.length zs k → Q (.ref t) H'
def spToldL : Sp := fun vs H Q _ => ∃ (F t : Addr) (fs : List Fact) (zs : List Str) (k : Kd), vs = [.ref F, .ref t] ∧ H F = some (.lst (fs.map fun f : Fact => V.ref f.1)) ∧ (∀ f ∈ fs, FactOk H f) ∧ H t = some (.tup k.vs) ∧ KdOk fs.length zs k ∧
  match k with
  | .int n => Q (.int n) H
  | .mod j => ∀ f u, fs[j]? = some f → H u = none → Q (.ref u) (upd H u (.tup [.str "module", .int f.2.1]))
  | .late j r => ∀ f u, fs[j]? = some f → H u = none → Q (.ref u) (upd H u (.tup [.str "function", .int f.2.1, .str r]))
section
variable {P : Program} {w : World} {K : PySem.W.Frag} {mg : Str → Option Value} {base : Heap} {C_MadeError C_Fault C_Module C_Late : Addr}
theorem ok_kind {f : Addr} {fd : FuncData} (F : Fun K "_law_kind" "_law_kind" s_l_kind f fd) (T : Txt K mg C_MadeError C_Fault C_Module C_Late)
    (D_l_draw : DnF P w K mg base 1 "_law_draw" ["_law_pot_here", "_law_room"] spDraw) (D_l_road : DnF P w K mg base 2 "_law_road" ["_law_pot_here", "_law_names_here"] spRoad)
    (D_l_number : DnF P w K mg base 2 "_law_number" ["_law_pot_here"] spNumber) : FnOk P w K mg base CX0 3 f fd ["_law_pot_here", "_law_facts_here", "_law_names_here"] spKind := by
  refine F.ok sc_l_kind (fun vs H Q E h => ?_) (fun cdv A outer s H vs Q E hr h => ?_)
  · obtain ⟨p, F, N, fs, zs, rfl, _⟩ := h
    rfl
  · obtain ⟨f_l_draw, fd_l_draw, G_l_draw, m_l_draw, k_l_draw, b_l_draw⟩ := D_l_draw; obtain ⟨f_l_road, fd_l_road, G_l_road, m_l_road, k_l_road, b_l_road⟩ := D_l_road; obtain ⟨f_l_number, fd_l_number, G_l_number, m_l_number, k_l_number, b_l_number⟩ := D_l_number
    obtain ⟨p, F, N, fs, zs, rfl, hp, hF, ne, nf, hN, hz, nz, zl, q⟩ := h
    have npF := pot_refs hp hF
    have npN := pot_strs hp hN
    have lf := List.length_pos_iff.mpr ne
    refine ⟨_, (pss_cons (ps_set (i := 3) sc_l_kind.nd rfl (Or.inl rfl) (pe_call G_l_draw (hr.mono (by first | decide | omega)) (by rfl) m_l_draw k_l_draw b_l_draw .nil pass0 (pa_cons (pv 0) (pa_cons pe_int pa_nil))))
      (pss_cons (ps_set (i := 4) sc_l_kind.nd rfl (Or.inl rfl) (pe_call G_l_draw (hr.mono (by first | decide | omega)) (by rfl) m_l_draw k_l_draw b_l_draw .nil pass0 (pa_cons (pv 0) (pa_cons (pe_callB (lenK (K := K) rfl) (by rfl) T.n_len (by decide +kernel) (pa_cons (pv 1) pa_nil)) pa_nil))))
      (pss_cons (ps_if (pt_cmpR op_lt (pv 3) pe_int (nomark _)) (pss_one (ps_ret (pe_tup (pa_cons pe_int (pa_cons (pv 4) pa_nil))))) pss_nil)
      (pss_cons (ps_if (pt_cmpR op_eq (pv 3) pe_int (nomark _)) (pss_one (ps_ret (pe_tup (pa_cons pe_int (pa_cons (pv 4) (pa_cons (pe_call G_l_road (hr.mono (by first | decide | omega)) (by rfl) m_l_road k_l_road b_l_road .nil pass0 (pa_cons (pv 0) (pa_cons (pv 2) pa_nil))) pa_nil)))))) pss_nil)
      (pss_one (ps_ret (pe_tup (pa_cons pe_int (pa_cons (pe_call G_l_number (hr.mono (by first | decide | omega)) (by rfl) m_l_number k_l_number b_l_number .nil pass0 (pa_cons (pv 0) pa_nil)) pa_nil))))))))), ?_⟩
    refine st_start (σ' := [some (.ref p), some (.ref F), some (.ref N), none, none]) rfl ?_
    walk_at "S"
    refine ⟨p, _, rfl, hp, by omega, by omega, fun H1 v1 k1 hp1 a0 a1 => ?_⟩
    have hF1 := k1.get (nin1' npF) hF
    walk_at "S"
    rw [List.length_map]
    refine ⟨p, _, rfl, hp1, by omega, by omega, fun H2 v2 k2 hp2 b0 b1 => ?_⟩
    have k12 := k1.tr k2
    have hN2 := k12.get (nin1' npN) hN
    obtain ⟨j, rfl⟩ := Int.eq_ofNat_of_zero_le b0
    walk_at "S"
    refine s_dec (fun h4 => ?_) (fun h4 => ?_)
    · walk_at "S"
      exact ⟨small_le (by simp), fun t ht => q _ t (.mod j) (k12.upd_new ht) (hp2.upd (hp2.ne ht)) upd_same (.mod (by omega))⟩
    · walk_at "S"
      refine s_dec (fun h3 => ?_) (fun h3 => ?_)
      · walk_at "S"
        refine ⟨p, N, zs, rfl, hp2, hN2, hz, nz, zl, fun H3 r k3 hp3 okr ro => ?_⟩
        walk_at "S"
        exact ⟨small_le (by simp), fun t ht => q _ t (.late j r) ((k12.tr k3).upd_new ht) (hp3.upd (hp3.ne ht)) upd_same (.late (by omega) okr ro)⟩
      · walk_at "S"
        refine ⟨p, rfl, hp2, fun H3 n k3 hp3 hn => ?_⟩
        walk_at "S"
        exact ⟨small_le (by simp), fun t ht => q _ t (.int n) ((k12.tr k3).upd_new ht) (hp3.upd (hp3.ne ht)) upd_same (.int hn)⟩
theorem ok_toldL {f : Addr} {fd : FuncData} (F : Fun K "_law_told" "_law_told" s_l_told f fd) : FnOk P w K mg base CX0 1 f fd ["_law_facts_here", "_law_kind_here"] spToldL := by
  refine F.ok sc_l_told (fun vs H Q E h => ?_) (fun cdv A outer s H vs Q E hr h => ?_)
  · obtain ⟨F, t, fs, zs, k, rfl, _⟩ := h
    rfl
  · obtain ⟨F, t, fs, zs, k, rfl, hF, fo, ht, ok, q⟩ := h
    refine ⟨_, (pss_cons (ps_if (pt_cmpR op_eq (pe_ix (ixTK (K := K) rfl) (pv 1) pe_int (fun _ _ => rfl)) pe_int (nomark _)) (pss_one (ps_ret (pe_tup (pa_cons pe_str (pa_cons (pe_ix (ixTK (K := K) rfl) (pe_ix (ixLK (K := K) rfl) (pv 0) (pe_ix (ixTK (K := K) rfl) (pv 1) pe_int (fun _ _ => rfl)) (fun _ _ => rfl)) pe_int (fun _ _ => rfl)) pa_nil))))) pss_nil)
      (pss_cons (ps_if (pt_cmpR op_eq (pe_ix (ixTK (K := K) rfl) (pv 1) pe_int (fun _ _ => rfl)) pe_int (nomark _)) (pss_one (ps_ret (pe_tup (pa_cons pe_str (pa_cons (pe_ix (ixTK (K := K) rfl) (pe_ix (ixLK (K := K) rfl) (pv 0) (pe_ix (ixTK (K := K) rfl) (pv 1) pe_int (fun _ _ => rfl)) (fun _ _ => rfl)) pe_int (fun _ _ => rfl)) (pa_cons (pe_ix (ixTK (K := K) rfl) (pv 1) pe_int (fun _ _ => rfl)) pa_nil)))))) pss_nil)
      (pss_one (ps_ret (pe_ix (ixTK (K := K) rfl) (pv 1) pe_int (fun _ _ => rfl)))))), ?_⟩
    refine st_start (σ' := [some (.ref F), some (.ref t)]) rfl ?_
    cases ok with
    | int hn =>
      rename_i n
      walk_at "S"
      refine s_dec (fun h => absurd (V.int.inj h) (by decide)) (fun _ => ?_)
      walk_at "S"
      refine s_dec (fun h => absurd (V.int.inj h) (by decide)) (fun _ => ?_)
      walk_at "S"
      exact q
    | mod hj =>
      rename_i j
      have ej := List.getElem?_eq_getElem hj
      have aj : atI (fs.map fun f : Fact => V.ref f.1) ((j : Nat) : Int) = some (.ref fs[j].1) := atI_nat (by rw [List.getElem?_map, ej]; rfl)
      walk_at "S"
      refine s_dec (fun _ => ?_) (fun h => absurd rfl h)
      walk_at "S"
      refine s_ixL (sq_l hF) aj ?_
      walk_at "S"
      refine s_ixT (sq_t (fo _ (List.getElem_mem hj)).at_) (k := ((0 : Nat) : Int)) (atI_nat rfl) ?_
      walk_at "S"
      exact ⟨small_le (by simp), fun u hu => q _ u ej hu⟩
    | late hj okr ro =>
      rename_i j r
      have ej := List.getElem?_eq_getElem hj
      have aj : atI (fs.map fun f : Fact => V.ref f.1) ((j : Nat) : Int) = some (.ref fs[j].1) := atI_nat (by rw [List.getElem?_map, ej]; rfl)
      walk_at "S"
      refine s_dec (fun h => absurd (V.int.inj h) (by decide)) (fun _ => ?_)
      walk_at "S"
      refine s_dec (fun _ => ?_) (fun h => absurd rfl h)
      walk_at "S"
      refine s_ixL (sq_l hF) aj ?_
      walk_at "S"
      refine s_ixT (sq_t (fo _ (List.getElem_mem hj)).at_) (k := ((0 : Nat) : Int)) (atI_nat rfl) ?_
      walk_at "S"
      exact ⟨small_le (by simp), fun u hu => q _ u ej hu⟩
end

/-! the modules' names, and the models -/
abbrev Bnd := Str × V × V
def kv1 (B : List Bnd) : List (Key × V) := B.map fun b => (Sum.inr b.1, b.2.1)
def kv2 (B : List Bnd) : List (Key × V) := B.map fun b => (Sum.inr b.1, b.2.2)
def putB (B : List Bnd) (z : Str) (v e : V) : List Bnd := if (B.any fun b => decide (b.1 = z)) = true then B.map (fun b => if b.1 = z then (b.1, v, e) else b) else B ++ [(z, v, e)]
theorem kv1_keys (B : List Bnd) : (kv1 B).map (·.1) = (B.map (·.1)).map Sum.inr := by
  unfold kv1
  rw [List.map_map, List.map_map]
  rfl
theorem kv2_keys (B : List Bnd) : (kv2 B).map (·.1) = (B.map (·.1)).map Sum.inr := by
  unfold kv2
  rw [List.map_map, List.map_map]
  rfl
theorem key_eq (a z : Str) : decide ((Sum.inr a : Key) = Sum.inr z) = decide (a = z) := decide_eq_decide.mpr ⟨fun h => Sum.inr.inj h, fun h => by rw [h]⟩
theorem putK_kv1 (B : List Bnd) (z : Str) (v e : V) : putK (kv1 B) (.inr z) v = kv1 (putB B z v e) := by
  unfold putK putB kv1
  rw [List.any_map, show ((fun kv : Key × V => decide (kv.1 = Sum.inr z)) ∘ fun b : Bnd => ((Sum.inr b.1 : Key), b.2.1)) = fun b : Bnd => decide (b.1 = z) from funext fun b => key_eq b.1 z]
  split
  · rw [List.map_map, List.map_map]
    refine List.map_congr_left fun b _ => ?_
    show (if (Sum.inr b.1 : Key) = Sum.inr z then _ else _) = _
    by_cases c : b.1 = z
    · rw [if_pos (by rw [c])]
      simp [c]
    · rw [if_neg fun h => c (Sum.inr.inj h)]
      simp [c]
  · rw [List.map_append]
    rfl
theorem putK_kv2 (B : List Bnd) (z : Str) (v e : V) : putK (kv2 B) (.inr z) e = kv2 (putB B z v e) := by
  unfold putK putB kv2
  rw [List.any_map, show ((fun kv : Key × V => decide (kv.1 = Sum.inr z)) ∘ fun b : Bnd => ((Sum.inr b.1 : Key), b.2.2)) = fun b : Bnd => decide (b.1 = z) from funext fun b => key_eq b.1 z]
  split
  · rw [List.map_map, List.map_map]
    refine List.map_congr_left fun b _ => ?_
    show (if (Sum.inr b.1 : Key) = Sum.inr z then _ else _) = _
    by_cases c : b.1 = z
    · rw [if_pos (by rw [c])]
      simp [c]
    · rw [if_neg fun h => c (Sum.inr.inj h)]
      simp [c]
  · rw [List.map_append]
    rfl
theorem putB_mem {B : List Bnd} {z : Str} {v e : V} {b : Bnd} (h : b ∈ putB B z v e) : b = (z, v, e) ∨ b ∈ B := by
  unfold putB at h
  split at h
  · obtain ⟨c, hc, rfl⟩ := List.mem_map.mp h
    by_cases q : c.1 = z
    · left; simp [q]
    · right; simpa [q] using hc
  · rcases List.mem_append.mp h with h | h
    · exact .inr h
    · exact .inl (List.mem_singleton.mp h)
theorem putB_keys (B : List Bnd) (z : Str) (v e : V) : (putB B z v e).map (·.1) = if z ∈ B.map (·.1) then B.map (·.1) else B.map (·.1) ++ [z] := by
  have any : (B.any fun b => decide (b.1 = z)) = decide (z ∈ B.map (·.1)) := by
    rw [Bool.eq_iff_iff]
    simp only [List.any_eq_true, decide_eq_true_eq, List.mem_map]
  unfold putB
  rw [any]
  by_cases c : z ∈ B.map (·.1)
  · rw [if_pos (decide_eq_true c), if_pos c, List.map_map]
    refine List.map_congr_left fun b _ => ?_
    by_cases q : b.1 = z
    · simp [q]
    · simp [q]
  · rw [if_neg (by simpa using c), if_neg c, List.map_append]
    rfl
theorem putB_nodup {B : List Bnd} {z : Str} {v e : V} (h : (B.map (·.1)).Nodup) : ((putB B z v e).map (·.1)).Nodup := by
  rw [putB_keys]
  split
  · exact h
  · rename_i c
    exact List.nodup_append.mpr ⟨h, List.pairwise_singleton _ _, fun a ha b hb q => c (by rw [← List.mem_singleton.mp hb, ← q]; exact ha)⟩
theorem look_kv (z : Str) : ∀ B : List Bnd, (valV (kv1 B) (.inr z) = none ∧ valV (kv2 B) (.inr z) = none) ∨ ∃ b ∈ B, valV (kv1 B) (.inr z) = some b.2.1 ∧ valV (kv2 B) (.inr z) = some b.2.2
  | [] => .inl ⟨rfl, rfl⟩
  | b :: r => by
    by_cases c : b.1 = z
    · exact .inr ⟨b, List.mem_cons_self, valV_pos (p := ((Sum.inr b.1 : Key), b.2.1)) (by rw [← c]), valV_pos (p := ((Sum.inr b.1 : Key), b.2.2)) (by rw [← c])⟩
    · have e1 : valV (kv1 (b :: r)) (.inr z) = valV (kv1 r) (.inr z) := valV_neg (p := ((Sum.inr b.1 : Key), b.2.1)) fun h => c (Sum.inr.inj h)
      have e2 : valV (kv2 (b :: r)) (.inr z) = valV (kv2 r) (.inr z) := valV_neg (p := ((Sum.inr b.1 : Key), b.2.2)) fun h => c (Sum.inr.inj h)
      rw [e1, e2]
      rcases look_kv z r with h | ⟨x, hx, h⟩
      · exact .inl h
      · exact .inr ⟨x, List.mem_cons_of_mem _ hx, h⟩
/-- a module, its dict, its model, its fact's tuple -/
structure Mo where
  m : Addr
  d : Addr
  e : Addr
  t : Addr
  n : Int
  q : Str
  B : List Bnd
def Mo.bs (o : Mo) : Bs := (o.m, o.t, o.n, o.q)
abbrev bases (mos : List Mo) : List Bs := mos.map Mo.bs
structure MoOk (CM CL : Addr) (H : Hp) (bs : List Bs) (zs : List Str) (o : Mo) : Prop where
  md : ∃ dx, H o.m = some (.ins CM dx (modF o.n o.q o.d))
  d : H o.d = some (.dK (kv1 o.B))
  e : H o.e = some (.dK (kv2 o.B))
  nd : (o.B.map (·.1)).Nodup
  ks : ∀ b ∈ o.B, b.1 ∈ zs
  th : ∀ b ∈ o.B, ∃ tt k, b.2.2 = .ref tt ∧ H tt = some (.tup (Kd.vs k)) ∧ KdOk bs.length zs k ∧ ThingIs CL H bs b.2.1 k
  fo : FactOk H o.bs.2
/-- two modules' dicts lie apart -/
def ApartP (a b : Addr × Addr) : Prop := a.1 ≠ b.1 ∧ a.1 ≠ b.2 ∧ a.2 ≠ b.1 ∧ a.2 ≠ b.2
structure Wd (CM CL : Addr) (H : Hp) (M F L : Addr) (zs : List Str) (mos : List Mo) : Prop where
  M : H M = some (.lst (mos.map fun o => V.ref o.m))
  F : H F = some (.lst (mos.map fun o => V.ref o.t))
  L : H L = some (.lst (mos.map fun o => V.ref o.e))
  mo : ∀ o ∈ mos, MoOk CM CL H (bases mos) zs o
  few : mos.length ≤ 20
  nd : (mos.map fun o => (o.d, o.e)).Pairwise ApartP
  de : ∀ o ∈ mos, o.d ≠ o.e
  dm : (mos.map fun o => o.m).Nodup
  ne : mos ≠ []
  zl : zs.length ≤ 20
  zok : ∀ z ∈ zs, OkN z
theorem MoOk.kp {CM CL : Addr} {H H' : Hp} {bs : List Bs} {zs : List Str} {o : Mo} {W : List Addr} (h : MoOk CM CL H bs zs o) (k : Kp W H H') (t : TIK H H') (n1 : Nin o.d W) (n2 : Nin o.e W) : MoOk CM CL H' bs zs o := by
  obtain ⟨dx, e⟩ := h.md
  refine ⟨⟨dx, t.ins e⟩, k.get n1 h.d, k.get n2 h.e, h.nd, h.ks, fun b hb => ?_, h.fo.tik t⟩
  obtain ⟨tt, kd, e1, e2, e3, e4⟩ := h.th b hb
  exact ⟨tt, kd, e1, t.tup e2, e3, e4.tik t⟩
theorem Wd.kp {CM CL : Addr} {H H' : Hp} {M F L : Addr} {zs : List Str} {mos : List Mo} {W : List Addr} (h : Wd CM CL H M F L zs mos) (k : Kp W H H') (t : TIK H H') (nM : Nin M W) (nF : Nin F W) (nL : Nin L W)
    (n : ∀ o ∈ mos, Nin o.d W ∧ Nin o.e W) : Wd CM CL H' M F L zs mos :=
  ⟨k.get nM h.M, k.get nF h.F, k.get nL h.L, fun o ho => (h.mo o ho).kp k t (n o ho).1 (n o ho).2, h.few, h.nd, h.de, h.dm, h.ne, h.zl, h.zok⟩
theorem Wd.same {CM CL : Addr} {H H' : Hp} {M F L : Addr} {zs : List Str} {mos : List Mo} (h : Wd CM CL H M F L zs mos) (k : Kp [] H H') : Wd CM CL H' M F L zs mos := h.kp k (.same k) trivial trivial trivial fun _ _ => ⟨trivial, trivial⟩
theorem pot_dK {H : Hp} {p d : Addr} {kvs : List (Key × V)} (h : PotOk H p) (e : H d = some (.dK kvs)) : p ≠ d := by
  rintro rfl
  obtain ⟨s, e1⟩ := h
  rw [e1] at e
  cases e
theorem Wd.pot {CM CL : Addr} {H H' : Hp} {M F L p : Addr} {zs : List Str} {mos : List Mo} (h : Wd CM CL H M F L zs mos) (k : Kp [p] H H') (hp : PotOk H p) : Wd CM CL H' M F L zs mos :=
  h.kp k (.pot k hp) (nin1' (pot_refs hp h.M)) (nin1' (pot_refs hp h.F)) (nin1' (pot_refs hp h.L)) fun o ho => ⟨nin1' (pot_dK hp (h.mo o ho).d), nin1' (pot_dK hp (h.mo o ho).e)⟩
theorem MoOk.few {CM CL : Addr} {H : Hp} {bs : List Bs} {zs : List Str} {o : Mo} (h : MoOk CM CL H bs zs o) : o.B.length ≤ zs.length := by
  have := List.Nodup.length_le_of_subset (l₂ := zs) h.nd fun z hz => by
    obtain ⟨b, hb, rfl⟩ := List.mem_map.mp hz
    exact h.ks b hb
  rw [List.length_map] at this
  exact this
theorem MoOk.at_ {CM CL : Addr} {H : Hp} {bs : List Bs} {zs : List Str} {o : Mo} (h : MoOk CM CL H bs zs o) : ModAt CM H o.m o.n o.q o.d (kv1 o.B) := ⟨h.md, h.d⟩
theorem OkN.sok {z : Str} (h : OkN z) : PyData.strOk z = true := OkL.strT h.ok
theorem shaped_pair {n : Int} {z : Str} (h : OkL (tl z)) : SeqAt.shaped (.tuple [.int n, .str z]) = true := by
  unfold SeqAt.shaped
  simp [PyData.canLay0, PyData.canLayAll0, PyData.depth, PyData.depthAll, OkL.strT h]
theorem dp_pair {K : PySem.W.Frag} {H : Hp} {a : Addr} {n : Int} {z : Str} (h : H a = some (.tup [.int n, .str z])) : Dp K H (.ref a) (.tuple [.int n, .str z]) := .tup (sq_t h) (.cons (.int _) (.cons (.str _) .nil))
theorem dp_strs {K : PySem.W.Frag} {H : Hp} {a : Addr} {zs : List Str} (h : H a = some (.lst (zs.map V.str))) : Dp K H (.ref a) (.list (zs.map .str)) := .lst (sq_l h) (dpAll_strs zs)
theorem log60 {n : Int} (h : n.natAbs < 10 ^ 60) : n.natAbs.log2 < 1920 := by
  by_cases z : n.natAbs = 0
  · rw [z]; decide
  · exact (Nat.log2_lt z).mpr (Nat.lt_of_lt_of_le h (by decide +kernel))
theorem len_int60 {n : Int} (h : n.natAbs < 10 ^ 60) : (Str.ofString (toString n)).length ≤ 61 := by
  rw [PySem.ofString_length]
  exact int_text_length_le10 (by decide) h
section
variable {P : Program} {w : World} {K : PySem.W.Frag} {mg : Str → Option Value} {base : Heap} {C_MadeError C_Fault C_Module C_Late : Addr}
/-- repr of what is told -/
theorem rep_mod {H : Hp} {t : Addr} {n : Int} {Q : VK} (h : H t = some (.tup [.str "module", .int n])) (hn : n.natAbs < 10 ^ 60) (q : Q (.str (PyData.shown (.tuple [.str "module", .int n]))) H) : rReprA K [.ref t] H Q := by
  refine .inr ⟨_, .tuple [.str "module", .int n], rfl, .tup (sq_t h) (.cons (.str _) (.cons (.int _) .nil)), rfl, ?_, ?_, ?_, ?_, q⟩
  · simp [PyData.showable, PyData.showableAll, log60 hn]
  · simp [PyData.hasDict, PyData.hasDictAll]
  · simp [PyData.depth, PyData.depthAll]
  · have b := PyData.shown_le_bulk 100 (by decide) (.tuple [.str "module", .int n]) (by
      simp only [PyData.leavesShort, PyData.leavesShortAll, Bool.and_eq_true, decide_eq_true_eq, PyData.shown]
      refine ⟨by decide +kernel, decide_eq_true (Nat.le_trans (len_int60 hn) (by decide : 61 ≤ 100)), trivial⟩)
    have e : (PyData.tuple [.str "module", .int n]).bulk = 8 := by
      simp only [PyData.bulk, PyData.bulkAll]
      rw [show ("module" : Str).cps.size = 6 from by decide +kernel]
    rw [e] at b
    exact small_le (by omega)
theorem rep_fun {H : Hp} {t : Addr} {n : Int} {r : Str} {Q : VK} (h : H t = some (.tup [.str "function", .int n, .str r])) (hn : n.natAbs < 10 ^ 60) (hr : OkR r) (q : Q (.str (PyData.shown (.tuple [.str "function", .int n, .str r]))) H) : rReprA K [.ref t] H Q := by
  refine .inr ⟨_, .tuple [.str "function", .int n, .str r], rfl, .tup (sq_t h) (.cons (.str _) (.cons (.int _) (.cons (.str _) .nil))), rfl, ?_, ?_, ?_, ?_, q⟩
  · simp [PyData.showable, PyData.showableAll, log60 hn]
  · simp [PyData.hasDict, PyData.hasDictAll]
  · simp [PyData.depth, PyData.depthAll]
  · have b := PyData.shown_le_bulk 100 (by decide) (.tuple [.str "function", .int n, .str r]) (by
      simp only [PyData.leavesShort, PyData.leavesShortAll, Bool.and_eq_true, decide_eq_true_eq, PyData.shown]
      refine ⟨by decide +kernel, decide_eq_true (Nat.le_trans (len_int60 hn) (by decide : 61 ≤ 100)), ?_, trivial⟩
      rw [List.all_eq_true]
      intro c hc
      exact decide_eq_true (Nat.lt_of_lt_of_le (hr.ok c hc) (by decide)))
    have e : (PyData.tuple [.str "function", .int n, .str r]).bulk = 11 + r.length := by
      simp only [PyData.bulk, PyData.bulkAll]
      rw [show ("function" : Str).cps.size = 8 from by decide +kernel]
      show _ = 11 + r.cps.size
      omega
    have rl := hr.len
    rw [e] at b
    exact small_le (by omega)
theorem eq_pair {H : Hp} {Q : VK} {a b : Addr} {n : Int} {z : Str} (ha : H a = some (.tup [.int n, .str z])) (hb : H b = some (.tup [.int n, .str z])) (ok : OkL (tl z)) (q : Q (.bl true) H) : rEqD K (.ref a) (.ref b) H Q := by
  have sh := shaped_pair (n := n) ok
  refine s_eqD (dp_pair ha) (dp_pair hb) sh sh ?_
  rw [SeqAt.eqv_refl _ (SeqAt.canLay_of_shaped sh)]
  exact q
theorem ne_pair {H : Hp} {Q : VK} {a b : Addr} {n : Int} {z : Str} (ha : H a = some (.tup [.int n, .str z])) (hb : H b = some (.tup [.int n, .str z])) (ok : OkL (tl z)) (q : Q (.bl false) H) : rNeD K (.ref a) (.ref b) H Q := by
  have sh := shaped_pair (n := n) ok
  refine s_neD (dp_pair ha) (dp_pair hb) sh sh ?_
  rw [SeqAt.eqv_refl _ (SeqAt.canLay_of_shaped sh)]
  exact q
theorem eq_strs {H : Hp} {Q : VK} {a b : Addr} {zs : List Str} (ha : H a = some (.lst (zs.map V.str))) (hb : H b = some (.lst (zs.map V.str))) (ok : ∀ z ∈ zs, OkN z) (q : Q (.bl true) H) : rEqD K (.ref a) (.ref b) H Q := by
  have sh := shaped_strs (xs := zs) fun z hz => (ok z hz).sok
  refine s_eqD (dp_strs ha) (dp_strs hb) sh sh ?_
  rw [SeqAt.eqv_refl _ (SeqAt.canLay_of_shaped sh)]
  exact q
theorem ne_strs {H : Hp} {Q : VK} {a b : Addr} {zs : List Str} (ha : H a = some (.lst (zs.map V.str))) (hb : H b = some (.lst (zs.map V.str))) (ok : ∀ z ∈ zs, OkN z) (q : Q (.bl false) H) : rNeD K (.ref a) (.ref b) H Q := by
  have sh := shaped_strs (xs := zs) fun z hz => (ok z hz).sok
  refine s_neD (dp_strs ha) (dp_strs hb) sh sh ?_
  rw [SeqAt.eqv_refl _ (SeqAt.canLay_of_shaped sh)]
  exact q
theorem base_at {mos : List Mo} {j : Nat} {b : Bs} (h : (bases mos)[j]? = some b) : ∃ o, mos[j]? = some o ∧ o ∈ mos ∧ b = o.bs := by
  rw [List.getElem?_map] at h
  cases e : mos[j]? with
  | none => rw [e] at h; cases h
  | some o => rw [e] at h; exact ⟨o, rfl, List.mem_of_getElem? e, (Option.some.inj h).symm⟩
end
/-! a bind, by what it leaves -/
theorem map_set_same {α β : Type} (f : α → β) {xs : List α} {j : Nat} {x y : α} (h : xs[j]? = some x) (e : f y = f x) : (xs.set j y).map f = xs.map f := by
  rw [List.map_set, e]
  refine List.ext_getElem? fun k => ?_
  rw [List.getElem?_set]
  split
  · rename_i q
    subst q
    split
    · rw [List.getElem?_map, h]; rfl
    · rename_i q
      rw [List.getElem?_eq_none (by omega)]
  · rfl
theorem Wd.apart {CM CL : Addr} {H : Hp} {M F L : Addr} {zs : List Str} {mos : List Mo} (W : Wd CM CL H M F L zs mos) {i j : Nat} {a b : Mo} (ha : mos[i]? = some a) (hb : mos[j]? = some b) (n : i ≠ j) :
    a.d ≠ b.d ∧ a.d ≠ b.e ∧ a.e ≠ b.d ∧ a.e ≠ b.e := by
  have p := List.pairwise_iff_getElem.mp W.nd
  obtain ⟨hi, ea⟩ := List.getElem?_eq_some_iff.mp ha
  obtain ⟨hj, eb⟩ := List.getElem?_eq_some_iff.mp hb
  rcases Nat.lt_or_gt_of_ne n with h | h
  · have q := p i j (by simpa using hi) (by simpa using hj) h
    simp only [List.getElem_map, ea, eb] at q
    exact q
  · have q := p j i (by simpa using hj) (by simpa using hi) h
    simp only [List.getElem_map, ea, eb] at q
    exact ⟨q.1.symm, q.2.2.1.symm, q.2.1.symm, q.2.2.2.symm⟩
theorem Wd.M' {CM CL : Addr} {H : Hp} {M F L : Addr} {zs : List Str} {mos : List Mo} (W : Wd CM CL H M F L zs mos) : H M = some (.lst ((bases mos).map fun b : Bs => V.ref b.1)) := by rw [List.map_map]; exact W.M
theorem Wd.F' {CM CL : Addr} {H : Hp} {M F L : Addr} {zs : List Str} {mos : List Mo} (W : Wd CM CL H M F L zs mos) : H F = some (.lst ((bases mos).map fun b : Bs => V.ref b.2.1)) := by rw [List.map_map]; exact W.F
def Mo.put (o : Mo) (z : Str) (v e : V) : Mo := { o with B := putB o.B z v e }
theorem Wd.bind {CM CL : Addr} {H : Hp} {M F L u : Addr} {zs : List Str} {mos : List Mo} {j : Nat} {o : Mo} {z : Str} {v : V} {kd : Kd} (W : Wd CM CL H M F L zs mos) (ej : mos[j]? = some o) (hz : z ∈ zs) (ok' : KdOk mos.length zs kd) (th : ThingIs CL H (bases mos) v kd) (hu : H u = some (.tup kd.vs)) :
    Wd CM CL (upd (upd H o.d (.dK (putK (kv1 o.B) (.inr z) v))) o.e (.dK (putK (kv2 o.B) (.inr z) (.ref u)))) M F L zs (mos.set j (o.put z v (.ref u))) ∧
    TIK H (upd (upd H o.d (.dK (putK (kv1 o.B) (.inr z) v))) o.e (.dK (putK (kv2 o.B) (.inr z) (.ref u)))) ∧
    Kp [o.d, o.e] H (upd (upd H o.d (.dK (putK (kv1 o.B) (.inr z) v))) o.e (.dK (putK (kv2 o.B) (.inr z) (.ref u)))) := by
  rw [putK_kv1 o.B z v (.ref u), putK_kv2 o.B z v (.ref u)]
  have mo := List.mem_of_getElem? ej
  have ok := W.mo o mo
  have de := W.de o mo
  have k : Kp [o.d, o.e] H (upd (upd H o.d (.dK (kv1 (putB o.B z v (.ref u))))) o.e (.dK (kv2 (putB o.B z v (.ref u))))) :=
    (Kp.refl.upd_mem (by simp)).upd_mem (by simp)
  have t : TIK H (upd (upd H o.d (.dK (kv1 (putB o.B z v (.ref u))))) o.e (.dK (kv2 (putB o.B z v (.ref u))))) := .of k fun y hy => by
    simp only [List.mem_cons, List.not_mem_nil, or_false] at hy
    rcases hy with rfl | rfl
    · exact .inr ⟨_, ok.d⟩
    · exact .inr ⟨_, ok.e⟩
  have lst : ∀ {a : Addr} {xs : List V}, H a = some (.lst xs) → Nin a [o.d, o.e] := fun h => ⟨fun e => (by rw [e, ok.d] at h; cases h), fun e => (by rw [e, ok.e] at h; cases h), trivial⟩
  have eu := t.tup hu
  have ed : (upd (upd H o.d (.dK (kv1 (putB o.B z v (.ref u))))) o.e (.dK (kv2 (putB o.B z v (.ref u))))) o.d = some (.dK (kv1 (putB o.B z v (.ref u)))) :=
    (upd_ne de).trans upd_same
  have ee : (upd (upd H o.d (.dK (kv1 (putB o.B z v (.ref u))))) o.e (.dK (kv2 (putB o.B z v (.ref u))))) o.e = some (.dK (kv2 (putB o.B z v (.ref u)))) := upd_same
  generalize (upd (upd H o.d (.dK (kv1 (putB o.B z v (.ref u))))) o.e (.dK (kv2 (putB o.B z v (.ref u))))) = H' at *
  refine ⟨⟨?_, ?_, ?_, fun o1 h1 => ?_, by rw [List.length_set]; exact W.few, ?_, fun o1 h1 => ?_, ?_, fun e => W.ne (by have := congrArg List.length e; rw [List.length_set] at this; exact List.eq_nil_of_length_eq_zero this), W.zl, W.zok⟩, t, k⟩
  · rw [map_set_same (fun o : Mo => V.ref o.m) ej (by rfl)]; exact k.get (lst W.M) W.M
  · rw [map_set_same (fun o : Mo => V.ref o.t) ej (by rfl)]; exact k.get (lst W.F) W.F
  · rw [map_set_same (fun o : Mo => V.ref o.e) ej (by rfl)]; exact k.get (lst W.L) W.L
  · rw [show bases (mos.set j (o.put z v (.ref u))) = bases mos from map_set_same Mo.bs ej rfl]
    obtain ⟨n, hn⟩ := List.mem_iff_getElem?.mp h1
    rw [List.getElem?_set] at hn
    split at hn
    · split at hn
      · cases hn
        obtain ⟨dx, e⟩ := ok.md
        refine ⟨⟨dx, t.ins e⟩, ed, ee, putB_nodup ok.nd, fun b hb => ?_, fun b hb => ?_, ok.fo.tik t⟩
        · rcases putB_mem hb with rfl | hb
          · exact hz
          · exact ok.ks b hb
        · rcases putB_mem hb with rfl | hb
          · exact ⟨u, kd, rfl, eu, by rw [List.length_map]; exact ok', th.tik t⟩
          · obtain ⟨tt, y, e1, e2, e3, e4⟩ := ok.th b hb
            exact ⟨tt, y, e1, t.tup e2, e3, e4.tik t⟩
      · cases hn
    · rename_i q
      have ap := W.apart hn ej (fun e => q e.symm)
      exact (W.mo o1 (List.mem_of_getElem? hn)).kp k t ⟨ap.1, ap.2.1, trivial⟩ ⟨ap.2.2.1, ap.2.2.2, trivial⟩
  · rw [map_set_same (fun o : Mo => (o.d, o.e)) ej (by rfl)]; exact W.nd
  · rcases List.mem_or_eq_of_mem_set h1 with h | h
    · exact W.de o1 h
    · subst h; exact de
  · rw [map_set_same (fun o : Mo => o.m) ej (by rfl)]; exact W.dm
/-! the modules and models as they are made -/
abbrev Md := Addr × Addr × Fact
def mkMos : List Md → List Addr → List Mo
  | o :: os, e :: es => ⟨o.1, o.2.1, e, o.2.2.1, o.2.2.2.1, o.2.2.2.2, []⟩ :: mkMos os es
  | _, _ => []
theorem mkMos_map {β : Type} (f : Mo → β) (g : Md → β) : ∀ {os : List Md} {es : List Addr}, os.length = es.length → (∀ (o : Md) (e : Addr), f ⟨o.1, o.2.1, e, o.2.2.1, o.2.2.2.1, o.2.2.2.2, []⟩ = g o) → (mkMos os es).map f = os.map g
  | [], [], _, _ => rfl
  | o :: os, e :: es, h, k => by
    show f _ :: (mkMos os es).map f = g o :: os.map g
    rw [k o e, mkMos_map f g (Nat.succ.inj h) k]
theorem mkMos_e : ∀ {os : List Md} {es : List Addr}, os.length = es.length → (mkMos os es).map (fun o => V.ref o.e) = es.map V.ref
  | [], [], _ => rfl
  | o :: os, e :: es, h => congrArg (V.ref e :: ·) (mkMos_e (Nat.succ.inj h))
theorem mkMos_mem {x : Mo} : ∀ {os : List Md} {es : List Addr}, x ∈ mkMos os es → ∃ o ∈ os, ∃ e ∈ es, x = ⟨o.1, o.2.1, e, o.2.2.1, o.2.2.2.1, o.2.2.2.2, []⟩
  | [], _, h => nomatch h
  | _ :: _, [], h => nomatch h
  | o :: os, e :: es, h => by
    rcases List.mem_cons.mp h with rfl | h
    · exact ⟨o, List.mem_cons_self, e, List.mem_cons_self, rfl⟩
    · obtain ⟨o', h1, e', h2, h3⟩ := mkMos_mem h
      exact ⟨o', List.mem_cons_of_mem _ h1, e', List.mem_cons_of_mem _ h2, h3⟩
theorem mkMos_apart : ∀ {os : List Md} {es : List Addr}, (os.map (·.2.1)).Nodup → es.Nodup → (∀ o ∈ os, ∀ e ∈ es, o.2.1 ≠ e) → ((mkMos os es).map fun o => (o.d, o.e)).Pairwise ApartP
  | [], _, _, _, _ => .nil
  | _ :: _, [], _, _, _ => .nil
  | o :: os, e :: es, h1, h2, h3 => by
    obtain ⟨a1, a2⟩ := List.nodup_cons.mp h1
    obtain ⟨b1, b2⟩ := List.nodup_cons.mp h2
    refine List.pairwise_cons.mpr ⟨fun p hp => ?_, mkMos_apart a2 b2 fun o' ho e' he => h3 o' (List.mem_cons_of_mem _ ho) e' (List.mem_cons_of_mem _ he)⟩
    obtain ⟨x, hx, rfl⟩ := List.mem_map.mp hp
    obtain ⟨o', ho, e', he, rfl⟩ := mkMos_mem hx
    exact ⟨fun q => a1 (List.mem_map.mpr ⟨o', ho, q.symm⟩), h3 o List.mem_cons_self e' (List.mem_cons_of_mem _ he), fun q => h3 o' (List.mem_cons_of_mem _ ho) e List.mem_cons_self q.symm, fun q => b1 ((show e = e' from q) ▸ he)⟩
theorem mkMos_de : ∀ {os : List Md} {es : List Addr}, (∀ o ∈ os, ∀ e ∈ es, o.2.1 ≠ e) → ∀ x ∈ mkMos os es, x.d ≠ x.e := fun h x hx => by
  obtain ⟨o, ho, e, he, rfl⟩ := mkMos_mem hx
  exact h o ho e he
structure MdOk (CM : Addr) (H0 H : Hp) (o : Md) : Prop where
  md : ∃ dx, H o.1 = some (.ins CM dx (modF o.2.2.2.1 o.2.2.2.2 o.2.1))
  d : H o.2.1 = some (.dK [])
  n : H0 o.2.1 = none
theorem MdOk.same {CM : Addr} {H0 H H' : Hp} {o : Md} (h : MdOk CM H0 H o) (k : Kp [] H H') : MdOk CM H0 H' o := by
  obtain ⟨dx, e⟩ := h.md
  exact ⟨⟨dx, k.get trivial e⟩, k.get trivial h.d, h.n⟩

/-! a name bound -/
def Kd.tag : Kd → Int
  | .int _ => 0
  | .mod _ => 1
  | .late _ _ => 2
def Kd.v1 : Kd → V
  | .int n => .int n
  | .mod j => .int (j : Nat)
  | .late j _ => .int (j : Nat)
theorem Kd.at0 (k : Kd) : atI k.vs ((0 : Nat) : Int) = some (.int k.tag) := atI_nat (by cases k <;> rfl)
theorem Kd.at1 (k : Kd) : atI k.vs ((1 : Nat) : Int) = some k.v1 := atI_nat (by cases k <;> rfl)
/-- what does not change of the modules -/
def Mo.sig (o : Mo) : Addr × Addr × Addr × Addr × Int × Str := (o.m, o.d, o.e, o.t, o.n, o.q)
theorem sig_bases {a b : List Mo} (h : a.map Mo.sig = b.map Mo.sig) : bases a = bases b := by
  have : (a.map Mo.sig).map (fun s => ((s.1, s.2.2.2.1, s.2.2.2.2.1, s.2.2.2.2.2) : Bs)) = (b.map Mo.sig).map (fun s => (s.1, s.2.2.2.1, s.2.2.2.2.1, s.2.2.2.2.2)) := by rw [h]
  rw [List.map_map, List.map_map] at this
  exact this
theorem sig_len {a b : List Mo} (h : a.map Mo.sig = b.map Mo.sig) : a.length = b.length := by
  have := congrArg List.length h
  rwa [List.length_map, List.length_map] at this
theorem sig_mem {a b : List Mo} (h : a.map Mo.sig = b.map Mo.sig) {o : Mo} (m : o ∈ a) : ∃ o' ∈ b, o'.sig = o.sig := by
  have : o.sig ∈ b.map Mo.sig := by rw [← h]; exact List.mem_map.mpr ⟨o, m, rfl⟩
  obtain ⟨o', h1, h2⟩ := List.mem_map.mp this
  exact ⟨o', h1, h2⟩
/-- where things may change: the dicts of the modules and their models -/
def Dcts (mos : List Mo) : List Addr := mos.flatMap fun o => [o.d, o.e]
theorem dcts_mem {mos : List Mo} {x : Addr} (h : x ∈ Dcts mos) : ∃ o ∈ mos, x = o.d ∨ x = o.e := by
  obtain ⟨o, h1, h2⟩ := List.mem_flatMap.mp h
  exact ⟨o, h1, by simpa using h2⟩
theorem dcts_of {mos : List Mo} {o : Mo} (h : o ∈ mos) {x : Addr} (hx : x ∈ [o.d, o.e]) : x ∈ Dcts mos := List.mem_flatMap.mpr ⟨o, h, hx⟩
theorem dcts_sig {a b : List Mo} (h : a.map Mo.sig = b.map Mo.sig) : Dcts a = Dcts b := by
  have e : ∀ l : List Mo, Dcts l = (l.map Mo.sig).flatMap fun s => [s.2.1, s.2.2.1] := fun l => by
    induction l with
    | nil => rfl
    | cons x r ih =>
      show [x.d, x.e] ++ Dcts r = _
      rw [ih]
      rfl
  rw [e, e, h]
theorem Wd.nin {CM CL : Addr} {H : Hp} {M F L a : Addr} {zs : List Str} {mos : List Mo} {xs : List V} (W : Wd CM CL H M F L zs mos) (h : H a = some (.lst xs)) : Nin a (Dcts mos) := Nin.intro fun x hx e => by
  obtain ⟨o, ho, rfl | rfl⟩ := dcts_mem hx
  · rw [e, (W.mo o ho).d] at h; cases h
  · rw [e, (W.mo o ho).e] at h; cases h
theorem Wd.ninT {CM CL : Addr} {H : Hp} {M F L a : Addr} {zs : List Str} {mos : List Mo} {xs : List V} (W : Wd CM CL H M F L zs mos) (h : H a = some (.tup xs)) : Nin a (Dcts mos) := Nin.intro fun x hx e => by
  obtain ⟨o, ho, rfl | rfl⟩ := dcts_mem hx
  · rw [e, (W.mo o ho).d] at h; cases h
  · rw [e, (W.mo o ho).e] at h; cases h
/-- all that was bound is -/
def Grow (mos mos' : List Mo) : Prop := ∀ (j : Nat) (o : Mo), mos[j]? = some o → ∃ o', mos'[j]? = some o' ∧ o'.sig = o.sig ∧ ∀ z ∈ o.B.map (·.1), z ∈ o'.B.map (·.1)
theorem Grow.refl (mos : List Mo) : Grow mos mos := fun _ o h => ⟨o, h, rfl, fun _ z => z⟩
theorem Grow.tr {a b c : List Mo} (h : Grow a b) (g : Grow b c) : Grow a c := fun j o e => by
  obtain ⟨o1, e1, s1, k1⟩ := h j o e
  obtain ⟨o2, e2, s2, k2⟩ := g j o1 e1
  exact ⟨o2, e2, s2.trans s1, fun z hz => k2 z (k1 z hz)⟩
theorem putB_sub {B : List Bnd} {z : Str} {v e : V} : ∀ y ∈ B.map (·.1), y ∈ (putB B z v e).map (·.1) := fun y hy => by
  unfold putB
  split
  · have : (B.map fun b => if b.1 = z then (b.1, v, e) else b).map (·.1) = B.map (·.1) := by
      rw [List.map_map]
      refine List.map_congr_left fun b _ => ?_
      show (if b.1 = z then (b.1, v, e) else b).1 = b.1
      split <;> rfl
    rw [this]
    exact hy
  · rw [List.map_append]
    exact List.mem_append_left _ hy
theorem putB_self {B : List Bnd} {z : Str} {v e : V} : z ∈ (putB B z v e).map (·.1) := by
  unfold putB
  split
  · rename_i h
    obtain ⟨b, hb, q⟩ := List.any_eq_true.mp h
    have q := of_decide_eq_true q
    refine List.mem_map.mpr ⟨(b.1, v, e), List.mem_map.mpr ⟨b, hb, by rw [if_pos q]⟩, q⟩
  · rw [List.map_append]
    exact List.mem_append_right _ (by simp)
theorem grow_set {mos : List Mo} {j : Nat} {o : Mo} {z : Str} {v e : V} (ej : mos[j]? = some o) : Grow mos (mos.set j (o.put z v e)) := fun i o1 h1 => by
  by_cases c : j = i
  · subst c
    rw [ej] at h1
    cases h1
    exact ⟨o.put z v e, by rw [List.getElem?_set, if_pos rfl, if_pos (List.getElem?_eq_some_iff.mp ej).1], rfl, fun y hy => putB_sub y hy⟩
  · exact ⟨o1, by rw [List.getElem?_set, if_neg c]; exact h1, rfl, fun _ h => h⟩
theorem val_none_key {B : List Bnd} {z : Str} (h : valV (kv2 B) (.inr z) = none) : z ∉ B.map (·.1) := by
  induction B with
  | nil => simp
  | cons b r ih =>
    by_cases c : b.1 = z
    · rw [show valV (kv2 (b :: r)) (.inr z) = some b.2.2 from valV_pos (p := ((Sum.inr b.1 : Key), b.2.2)) (by rw [c])] at h
      cases h
    · rw [show valV (kv2 (b :: r)) (.inr z) = valV (kv2 r) (.inr z) from valV_neg (p := ((Sum.inr b.1 : Key), b.2.2)) fun h => c (Sum.inr.inj h)] at h
      rw [List.map_cons, List.mem_cons]
      exact fun q => q.elim (fun q => c q.symm) (ih h)
def spBoundL (CM CL : Addr) : Sp := fun vs H Q _ => ∃ (M F L t : Addr) (zs : List Str) (mos : List Mo) (o : Mo) (j : Nat) (z : Str) (kd : Kd), vs = [.ref M, .ref L, .int j, .str z, .ref t] ∧ Wd CM CL H M F L zs mos ∧ mos[j]? = some o ∧ z ∈ zs ∧
  H t = some (.tup kd.vs) ∧ KdOk mos.length zs kd ∧ ∀ H' mos', Wd CM CL H' M F L zs mos' → mos'.map Mo.sig = mos.map Mo.sig → TIK H H' → Kp (Dcts mos) H H' → Grow mos mos' → Q .non H'
section
variable {P : Program} {w : World} {K : PySem.W.Frag} {mg : Str → Option Value} {base : Heap} {C_MadeError C_Fault C_Module C_Late : Addr}
theorem ok_boundL {f : Addr} {fd : FuncData} (F : Fun K "_law_bound" "_law_bound" s_l_bound f fd) (T : Txt K mg C_MadeError C_Fault C_Module C_Late)
    (D_Late_init : DkF P w K mg base 1 C_Late ["self", "home", "road"] (spLInit C_Late)) (D_Module_bind : DmF P w K mg base 1 C_Module "bind" ["self", "name", "thing"] (spBind C_Module)) :
    FnOk P w K mg base CX0 3 f fd ["_law_modules", "_law_models", "_law_which", "_law_name_here", "_law_kind_here"] (spBoundL C_Module C_Late) := by
  refine F.ok sc_l_bound (fun vs H Q E h => ?_) (fun cdv A outer s H vs Q E hr h => ?_)
  · obtain ⟨M, F, L, t, zs, mos, o, j, z, kd, rfl, _⟩ := h
    rfl
  · obtain ⟨f_Late_init, fd_Late_init, G_Late_init, M_Late, b_Late_init⟩ := D_Late_init; obtain ⟨f_Module_bind, fd_Module_bind, G_Module_bind, mt_Module_bind, b_Module_bind⟩ := D_Module_bind
    obtain ⟨M, F, L, t, zs, mos, o, j, z, kd, rfl, W, ej, hz, ht, ok, q⟩ := h
    have hu := hu_of hr
    have mo := List.mem_of_getElem? ej
    have aM : atI (mos.map fun o => V.ref o.m) ((j : Nat) : Int) = some (.ref o.m) := atI_nat (by rw [List.getElem?_map, ej]; rfl)
    have aL : atI (mos.map fun o => V.ref o.e) ((j : Nat) : Int) = some (.ref o.e) := atI_nat (by rw [List.getElem?_map, ej]; rfl)
    refine ⟨_, (pss_cons (ps_set (i := 5) sc_l_bound.nd rfl (Or.inl rfl) (pe_ix (ixTK (K := K) rfl) (pv 4) pe_int (fun _ _ => rfl)))
      (pss_cut2 (ps_if (pt_cmpR op_eq (pe_ix (ixTK (K := K) rfl) (pv 4) pe_int (fun _ _ => rfl)) pe_int (nomark _)) (pss_one (ps_set (i := 5) sc_l_bound.nd rfl (Or.inl rfl) (pe_ix (ixLK (K := K) rfl) (pv 0) (pe_ix (ixTK (K := K) rfl) (pv 4) pe_int (fun _ _ => rfl)) (fun _ _ => rfl)))) pss_nil)
      (pss_cut2 (ps_if (pt_cmpR op_eq (pe_ix (ixTK (K := K) rfl) (pv 4) pe_int (fun _ _ => rfl)) pe_int (nomark _)) (pss_one (ps_set (i := 5) sc_l_bound.nd rfl (Or.inl rfl) (pe_make M_Late G_Late_init (hr.mono (by first | decide | omega)) (by rfl) T.mg_Late b_Late_init .nil pass0 (pa_cons (pe_ix (ixLK (K := K) rfl) (pv 0) (pe_ix (ixTK (K := K) rfl) (pv 4) pe_int (fun _ _ => rfl)) (fun _ _ => rfl)) (pa_cons (pe_ix (ixTK (K := K) rfl) (pv 4) pe_int (fun _ _ => rfl)) pa_nil))))) pss_nil)
      (pss_cons (ps_expr (pe_meth (pe_ix (ixLK (K := K) rfl) (pv 0) (pv 2) (fun _ _ => rfl)) T.cl_Module mt_Module_bind G_Module_bind (hr.mono (by first | decide | omega)) b_Module_bind .nil pass0 (pa_cons (pv 3) (pa_cons (pv 5) pa_nil))))
      (pss_one (ps_dput hu (pe_ix (ixLK (K := K) rfl) (pv 1) (pv 2) (fun _ _ => rfl)) (pv 3) (pv 4) rfl)))))), ?_⟩
    refine st_start (σ' := [some (.ref M), some (.ref L), some (.int j), some (.str z), some (.ref t), none]) rfl ?_
    walk_at "S"
    refine s_ixT (sq_t ht) kd.at1 ?_
    walk_at "S"
    refine s_cut (fun σ H1 => ∃ v, σ = [some (.ref M), some (.ref L), some (.int j), some (.str z), some (.ref t), some v] ∧ H1 = H ∧ (kd.tag ≠ 2 → ThingIs C_Late H (bases mos) v kd)) (fun J hJ => ?_) ?_
    · walk_at "S"
      refine s_ixT (sq_t ht) kd.at0 ?_
      walk_at "S"
      refine s_dec (fun h => ?_) (fun h => ?_)
      · cases ok with
        | int => cases V.int.inj h
        | late => exact absurd (V.int.inj h) (by show ¬ (2 : Int) = 1; decide)
        | mod hj =>
          rename_i i
          have ei := List.getElem?_eq_getElem hj
          walk_at "S"
          refine s_ixL (sq_l W.M) (atI_nat (by rw [List.getElem?_map, ei]; rfl) : atI _ ((i : Nat) : Int) = some (.ref mos[i].m)) ?_
          walk_at "S"
          exact hJ _ _ ⟨_, rfl, rfl, fun _ => .mod (b := mos[i].bs) (by rw [List.getElem?_map, ei]; rfl)⟩
      · walk_at "S"
        refine hJ _ _ ⟨_, rfl, rfl, fun h2 => ?_⟩
        cases ok with
        | int => exact .int
        | late => exact absurd rfl h2
        | mod => exact absurd rfl h
    · rintro σ H1 ⟨v1, rfl, rfl, th1⟩
      walk_at "S"
      refine s_cut (fun σ H2 => ∃ v, σ = [some (.ref M), some (.ref L), some (.int j), some (.str z), some (.ref t), some v] ∧ Kp [] H1 H2 ∧ ThingIs C_Late H2 (bases mos) v kd) (fun J hJ => ?_) ?_
      · walk_at "S"
        refine s_ixT (sq_t ht) kd.at0 ?_
        walk_at "S"
        refine s_dec (fun h => ?_) (fun h => ?_)
        · cases ok with
          | int => exact absurd (V.int.inj h) (by show ¬ (0 : Int) = 2; decide)
          | mod => exact absurd (V.int.inj h) (by show ¬ (1 : Int) = 2; decide)
          | late hj okr ro =>
            rename_i i r
            have ei := List.getElem?_eq_getElem hj
            walk_at "S"
            refine s_ixL (sq_l W.M) (atI_nat (by rw [List.getElem?_map, ei]; rfl) : atI _ ((i : Nat) : Int) = some (.ref mos[i].m)) ?_
            walk_at "S"
            intro l dl hl hdl nld
            have hl0 : H1 l = none := hl
            have kL : Kp [] H1 (upd (upd H1 dl (.own l)) l (.ins C_Late dl [])) := by
              have : (upd H1 dl (.own l)) l = none := (upd_ne nld.symm).trans hl
              walk_at "K"
            refine ⟨l, dl, mos[i].m, r, rfl, upd_same, fun H5 k5 e5 => ⟨rfl, ?_⟩⟩
            have k45 : Kp [] H1 H5 := kL.step k5 fun x hx => .inr (by rw [List.mem_singleton.mp hx]; exact hl0)
            walk_at "S"
            exact hJ _ _ ⟨_, rfl, k45, .late (b := mos[i].bs) (by rw [List.getElem?_map, ei]; rfl) e5⟩
        · walk_at "S"
          exact hJ _ _ ⟨_, rfl, Kp.refl, th1 fun e => h (by rw [e])⟩
      · rintro σ H2 ⟨v, rfl, k2, th⟩
        have W2 := W.same k2
        have ok2 := W2.mo o mo
        obtain ⟨dx, em⟩ := ok2.md
        have bn := ok2.few
        have zl := W.zl
        have t2 := TIK.same k2
        walk_at "S"
        refine s_ixL (sq_l W2.M) aM ?_
        walk_at "S"
        refine s_insM em (lk_meth (m := "bind") _ _ _ (by decide +kernel)) ?_
        walk_at "S"
        refine ⟨o.m, o.d, o.n, o.q, z, v, kv1 o.B, rfl, ok2.at_, by unfold kv1; rw [List.length_map]; omega, ?_⟩
        have eL : upd H2 o.d (.dK (putK (kv1 o.B) (.inr z) v)) L = some (.lst (mos.map fun o => V.ref o.e)) := (upd_ne (fun e => by have := W2.L; rw [e, ok2.d] at this; cases this)).trans W2.L
        have ee : upd H2 o.d (.dK (putK (kv1 o.B) (.inr z) v)) o.e = some (.dK (kv2 o.B)) := (upd_ne (W2.de o mo).symm).trans ok2.e
        walk_at "S"
        refine s_ixL (sq_l eL) aL ?_
        walk_at "S"
        refine s_putS ee (small_lt (by unfold kv2; rw [List.length_map]; omega)) ?_
        obtain ⟨W3, t3, k3⟩ := W2.bind ej hz ok th (t2.tup ht)
        exact q _ _ W3 (map_set_same Mo.sig ej rfl) (t2.tr t3) ((Kp.nil_W k2).tr (k3.weak fun x hx => dcts_of mo hx)) (grow_set ej)
end

/-! chains -/
/-- a tuple's address, which module, which row -/
abbrev Lk := Addr × Nat × Nat
structure ChAt (n : Nat) (H : Hp) (C : Addr) (cs : List Lk) : Prop where
  at_ : H C = some (.lst (cs.map fun c : Lk => V.ref c.1))
  it : ∀ c ∈ cs, H c.1 = some (.tup [.int (c.2.1 : Nat), .int (c.2.2 : Nat)]) ∧ c.2.1 < n ∧ c.2.2 < 40
  few : cs.length ≤ 20
structure HdAt (ms : List Addr) (H : Hp) (h : Addr) (hs : List Lk) : Prop where
  at_ : H h = some (.lst (hs.map fun c : Lk => V.ref c.1))
  it : ∀ c ∈ hs, H c.1 = some (.tup [.ref (ms.getD c.2.1 0), .int (c.2.2 : Nat)]) ∧ c.2.1 < ms.length ∧ c.2.2 < 40
  few : hs.length ≤ 20
theorem ChAt.kp {n : Nat} {H H' : Hp} {C : Addr} {cs : List Lk} {W : List Addr} (h : ChAt n H C cs) (k : Kp W H H') (t : TIK H H') (n1 : Nin C W) : ChAt n H' C cs :=
  ⟨k.get n1 h.at_, fun c hc => ⟨t.tup (h.it c hc).1, (h.it c hc).2⟩, h.few⟩
theorem HdAt.kp {ms : List Addr} {H H' : Hp} {C : Addr} {cs : List Lk} {W : List Addr} (h : HdAt ms H C cs) (k : Kp W H H') (t : TIK H H') (n1 : Nin C W) : HdAt ms H' C cs :=
  ⟨k.get n1 h.at_, fun c hc => ⟨t.tup (h.it c hc).1, (h.it c hc).2⟩, h.few⟩
theorem ChAt.same {n : Nat} {H H' : Hp} {C : Addr} {cs : List Lk} (h : ChAt n H C cs) (k : Kp [] H H') : ChAt n H' C cs := h.kp k (.same k) trivial
theorem HdAt.same {ms : List Addr} {H H' : Hp} {C : Addr} {cs : List Lk} (h : HdAt ms H C cs) (k : Kp [] H H') : HdAt ms H' C cs := h.kp k (.same k) trivial
def spChain : Sp := fun vs H Q _ => ∃ (p F : Addr) (fs : List Fact), vs = [.ref p, .ref F] ∧ PotOk H p ∧ H F = some (.lst (fs.map fun f : Fact => V.ref f.1)) ∧ fs.length ≤ 20 ∧
  ∀ H' C cs, Kp [p] H H' → PotOk H' p → H C = none → ChAt fs.length H' C cs → Q (.ref C) H'
def spHanded : Sp := fun vs H Q _ => ∃ (M C : Addr) (ms : List Addr) (cs : List Lk), vs = [.ref M, .ref C] ∧ H M = some (.lst (ms.map V.ref)) ∧ ChAt ms.length H C cs ∧
  ∀ H' h hs, Kp [] H H' → H h = none → HdAt ms H' h hs → hs.map (·.2) = cs.map (·.2) → Q (.ref h) H'
theorem s_popAt {H : Hp} {Q : VK} {l : Addr} {xs : List V} {k : Nat} {y : V} (h : H l = some (.lst xs)) (few : xs.length ≤ 1000) (hk : xs[k]? = some y) (q : Q y (upd H l (.lst (xs.eraseIdx k)))) : rPopAt (.ref l) [.int (k : Nat)] H Q := by
  have lt := (List.getElem?_eq_some_iff.mp hk).1
  refine ⟨l, xs, (k : Nat), k, y, rfl, rfl, h, by omega, by omega, ?_, hk, q⟩
  unfold seqIndex?
  rw [if_neg (by omega : ¬ ((k : Nat) : Int) < 0), if_pos (by simp; omega)]
  simp
theorem erase_map {α β : Type} (f : α → β) : ∀ (l : List α) (k : Nat), (l.map f).eraseIdx k = (l.eraseIdx k).map f
  | [], _ => rfl
  | _ :: _, 0 => rfl
  | a :: r, k + 1 => by
    show f a :: (r.map f).eraseIdx k = f a :: (r.eraseIdx k).map f
    rw [erase_map f r k]
theorem rgV0 (n : Nat) : rgV 0 (n : Nat) = (List.range n).map fun i => V.int (i : Nat) := by
  unfold rgV
  rw [show (((n : Nat) : Int) - 0).toNat = n from by omega]
  refine List.map_congr_left fun i _ => ?_
  rw [Int.zero_add]
section
variable {P : Program} {w : World} {K : PySem.W.Frag} {mg : Str → Option Value} {base : Heap} {C_MadeError C_Fault C_Module C_Late : Addr}
theorem ok_chain {f : Addr} {fd : FuncData} (F : Fun K "_law_chain" "_law_chain" s_l_chain f fd) (T : Txt K mg C_MadeError C_Fault C_Module C_Late)
    (D_l_draw : DnF P w K mg base 1 "_law_draw" ["_law_pot_here", "_law_room"] spDraw) : FnOk P w K mg base CX0 2 f fd ["_law_pot_here", "_law_facts_here"] spChain := by
  refine F.ok sc_l_chain (fun vs H Q E h => ?_) (fun cdv A outer s H vs Q E hr h => ?_)
  · obtain ⟨p, F, fs, rfl, _⟩ := h
    rfl
  · obtain ⟨f_l_draw, fd_l_draw, G_l_draw, m_l_draw, k_l_draw, b_l_draw⟩ := D_l_draw
    obtain ⟨p, F, fs, rfl, hp, hF, nf, q⟩ := h
    have npF := pot_refs hp hF
    refine ⟨_, (pss_cons (ps_set (i := 2) sc_l_chain.nd rfl (Or.inl rfl) (pe_listRg rfl (by rfl) T.n_list (prg_1 (by rfl) T.n_range (pe_callB (lenK (K := K) rfl) (by rfl) T.n_len (by decide +kernel) (pa_cons (pv 1) pa_nil)))))
      (pss_cons (ps_set (i := 3) sc_l_chain.nd rfl (Or.inl rfl) (pe_lst pa_nil))
      (pss_cons (ps_for PassesOwn.never rfl (pi_range1 rfl T.n_range (pa_cons (pe_call G_l_draw (hr.mono (by first | decide | omega)) (by rfl) m_l_draw k_l_draw b_l_draw .nil pass0 (pa_cons (pv 0) (pa_cons (pe_op op_add (pe_callB (lenK (K := K) rfl) (by rfl) T.n_len (by decide +kernel) (pa_cons (pv 1) pa_nil)) pe_int) pa_nil))) pa_nil)) (pg_name (i := 4) sc_l_chain.nd rfl (Or.inl rfl)) (pss_one (ps_expr (kBM (K := K) rfl (pe_bm PySem.F.plainAttrs_list PySem.F.slot_list_append PySem.F.type_list_append mt_append (pv 3) (pa_cons (pe_tup (pa_cons (kBM (K := K) rfl (pe_bm PySem.F.plainAttrs_list PySem.F.slot_list_pop PySem.F.type_list_pop mt_popAt (pv 2) (pa_cons (pe_call G_l_draw (hr.mono (by first | decide | omega)) (by rfl) m_l_draw k_l_draw b_l_draw .nil pass0 (pa_cons (pv 0) (pa_cons (pe_callB (lenK (K := K) rfl) (by rfl) T.n_len (by decide +kernel) (pa_cons (pv 2) pa_nil)) pa_nil))) pa_nil))) (pa_cons (pe_call G_l_draw (hr.mono (by first | decide | omega)) (by rfl) m_l_draw k_l_draw b_l_draw .nil pass0 (pa_cons (pv 0) (pa_cons pe_int pa_nil))) pa_nil))) pa_nil))))))
      (pss_one (ps_ret (pv 3)))))), ?_⟩
    refine st_start (σ' := [some (.ref p), some (.ref F), none, none, none]) rfl ?_
    walk_at "S"
    refine s_lstRg1 ?_
    walk_at "S"
    rw [List.length_map]
    refine ⟨⟨by omega, by omega, by omega, by omega, by omega⟩, fun l hl => ?_⟩
    rw [rgV0]
    have npl := hp.ne hl
    have eF1 : upd H l (.lst ((List.range fs.length).map fun i => V.int (i : Nat))) F = some (.lst (fs.map fun f : Fact => V.ref f.1)) := by walk_at "L"
    walk_at "S"
    refine ⟨small_le (by simp), fun C hC => ?_⟩
    have npC := (hp.upd npl).ne hC
    have nlC : l ≠ C := ne_of_none upd_same hC
    have eF2 : upd (upd H l (.lst ((List.range fs.length).map fun i => V.int (i : Nat)))) C (.lst []) F = some (.lst (fs.map fun f : Fact => V.ref f.1)) := by walk_at "L"
    have hC0 : H C = none := (upd_ne nlC.symm).symm.trans hC
    walk_at "S"
    rw [List.length_map]
    refine ⟨p, _, rfl, (hp.upd npl).upd npC, by omega, by omega, fun H2 v2 k2 hp2 a0 a1 => ?_⟩
    walk_at "S"
    refine ⟨by omega, by omega, ?_⟩
    have k02 : Kp [p] H H2 := ((Kp.refl.upd_new hl).upd_new hC).tr k2
    have el2 : H2 l = some (.lst ((List.range fs.length).map fun i => V.int (i : Nat))) := k2.get (nin1' npl) ((upd_ne nlC).trans upd_same)
    have eC2 : H2 C = some (.lst []) := k2.get (nin1' npC) upd_same
    refine for_go walk_range (fun i σ H3 => ∃ (ls : List Nat) (cs : List Lk) (o : Option V), σ = [some (.ref p), some (.ref F), some (.ref l), some (.ref C), o] ∧ Kp [p] H H3 ∧ PotOk H3 p ∧ H3 F = some (.lst (fs.map fun f : Fact => V.ref f.1)) ∧
        H3 l = some (.lst (ls.map fun i => V.int (i : Nat))) ∧ ls.length + i = fs.length ∧ (∀ x ∈ ls, x < fs.length) ∧ ChAt fs.length H3 C cs ∧ cs.length = i)
      ⟨List.range fs.length, [], _, rfl, k02, hp2, k2.get (nin1' npF) eF2, el2, by simp, by simp, ⟨eC2, by simp, by simp⟩, rfl⟩ (fun _ _ _ _ _ => trivial) (fun i x σ Ha Hb hi I y => ?_) fun σ H3 I => ?_
    · obtain ⟨rfl, rfl⟩ := y
      obtain ⟨ls, cs, o, rfl, k3, hp3, hF3, hl3, nl, ok3, ch, nc⟩ := I
      have eC3 := ch.at_
      walk_at "S"
      rw [List.length_map]
      refine ⟨p, _, rfl, hp3, by omega, by omega, fun H4 v4 k4 hp4 b0 b1 => ?_⟩
      obtain ⟨j, rfl⟩ := Int.eq_ofNat_of_zero_le b0
      have hj : j < ls.length := by omega
      have hl4 := k4.get (nin1' npl) hl3
      walk_at "S"
      refine s_popAt hl4 (by rw [List.length_map]; omega) (k := j) (y := .int (ls[j] : Nat)) (by rw [List.getElem?_map, List.getElem?_eq_getElem hj]; rfl) ?_
      have hp5 := hp4.upd (o := .lst ((ls.map fun i => V.int (i : Nat)).eraseIdx j)) npl
      walk_at "S"
      refine ⟨p, _, rfl, hp5, by omega, by omega, fun H6 v6 k6 hp6 c0 c1 => ?_⟩
      obtain ⟨r, rfl⟩ := Int.eq_ofNat_of_zero_le c0
      walk_at "S"
      refine ⟨small_le (by simp), fun t ht => ?_⟩
      have nlC' : C ≠ l := nlC.symm
      have k56 : Kp [l, p] Hb H6 := ((Kp.weak k4 (by simp)).upd_mem (by simp)).step k6 (fun x hx => .inl (by simp only [List.mem_singleton] at hx; simp [hx]))
      have tk6 : TIK Hb H6 := .of k56 fun x hx => by
        simp only [List.mem_cons, List.not_mem_nil, or_false] at hx
        rcases hx with rfl | rfl
        · exact .inl ⟨_, hl3⟩
        · exact .pot hp3
      have ch6 := ch.kp k56 tk6 ⟨nlC', npC.symm, trivial⟩
      have eC7 : upd H6 t (.tup [.int (ls[j] : Nat), .int (r : Nat)]) C = some (.lst (cs.map fun c : Lk => V.ref c.1)) := (upd_ne (ne_of_none ch6.at_ ht)).trans ch6.at_
      walk_at "S"
      refine s_append eC7 (small_lt (by rw [List.length_map]; have := ch.few; omega)) ?_
      walk_at "S"
      have kk : Kp [l, C, p] Hb (upd (upd H6 t (.tup [.int (ls[j] : Nat), .int (r : Nat)])) C (.lst (cs.map (fun c : Lk => V.ref c.1) ++ [.ref t]))) := ((Kp.weak k56 (by simp)).upd_new ht).upd_mem (by simp)
      have tl6 : H6 l = some (.lst ((ls.map fun i => V.int (i : Nat)).eraseIdx j)) := k6.get (nin1' npl) upd_same
      have t7 : TIK Hb (upd (upd H6 t (.tup [.int (ls[j] : Nat), .int (r : Nat)])) C (.lst (cs.map (fun c : Lk => V.ref c.1) ++ [.ref t]))) :=
        (tk6.tr (.same (Kp.refl.upd_new ht))).tr (.of (W := [C]) (Kp.refl.upd_mem (by simp)) fun x hx => by rw [List.mem_singleton.mp hx]; exact .inl ⟨_, eC7⟩)
      have nCt : C ≠ t := ne_of_none ch6.at_ ht
      refine ⟨ls.eraseIdx j, cs ++ [(t, ls[j], r)], _, rfl, ?_, ?_, ?_, ?_, ?_, ?_, ⟨?_, ?_, ?_⟩, by rw [List.length_append, List.length_singleton]; omega⟩
      · exact k3.step kk fun x hx => by
          simp only [List.mem_cons, List.not_mem_nil, or_false] at hx
          rcases hx with rfl | rfl | rfl
          · exact .inr hl
          · exact .inr hC0
          · exact .inl List.mem_cons_self
      · exact (hp6.upd (hp6.ne ht)).upd npC
      · exact kk.get ⟨fun e => (by rw [e] at hF; rw [hl] at hF; cases hF), fun e => (by rw [e] at hF; rw [hC0] at hF; cases hF), npF.symm, trivial⟩ hF3
      · rw [erase_map] at tl6
        exact (upd_ne nlC).trans ((upd_ne (ne_of_none tl6 ht)).trans tl6)
      · rw [List.length_eraseIdx_of_lt hj]; omega
      · exact fun x hx => ok3 x (List.mem_of_mem_eraseIdx hx)
      · rw [upd_same, List.map_append]; rfl
      · intro c hc
        rcases List.mem_append.mp hc with hc | hc
        · exact ⟨t7.tup (ch.it c hc).1, (ch.it c hc).2⟩
        · rw [List.mem_singleton.mp hc]
          exact ⟨(upd_ne nCt.symm).trans upd_same, ok3 _ (List.getElem_mem hj), by show r < 40; omega⟩
      · rw [List.length_append, List.length_singleton]; have := ch.few; omega
    · obtain ⟨ls, cs, o, rfl, k3, hp3, hF3, hl3, nl, ok3, ch, nc⟩ := I
      walk_at "S"
      exact q _ C cs k3 hp3 hC0 ch
theorem ok_handed {f : Addr} {fd : FuncData} (F : Fun K "_law_handed" "_law_handed" s_l_handed f fd) : FnOk P w K mg base CX0 1 f fd ["_law_modules", "_law_chain_here"] spHanded := by
  refine F.ok sc_l_handed (fun vs H Q E h => ?_) (fun cdv A outer s H vs Q E hr h => ?_)
  · obtain ⟨M, C, ms, cs, rfl, _⟩ := h
    rfl
  · obtain ⟨M, C, ms, cs, rfl, hM, ch, q⟩ := h
    refine ⟨_, (pss_one (ps_ret (pe_lc (own := [("_law_one", 2), ("_law_row", 3)]) (g := gTup K 2 (gCons (gName 2) (gCons (gName 3) gNil))) (tt := tYes) rfl sc_l_handed.nd (kiL (K := K) rfl (pi_list (pv 1))) (blkOk_by (own := [("_law_one", 2), ("_law_row", 3)]) (N := N_l_handed) (sc := (defScope s_l_handed)) (by decide +kernel)) (fun _ _ _ _ _ => (kgT (K := K) rfl (pg_tup rfl (pgs_cons (pg_name (i := 2) sc_l_handed.nd rfl (Or.inl rfl)) (pgs_cons (pg_name (i := 3) sc_l_handed.nd rfl (Or.inl rfl)) pgs_nil))))) (fun _ _ _ _ _ => pts_nil) (fun _ _ _ _ _ => (pe_tup (pa_cons (pe_ix (ixLK (K := K) rfl) (pv 0) (pv 2) (fun _ _ => rfl)) (pa_cons (pv 3) pa_nil))))))), ?_⟩
    refine st_start (σ' := [some (.ref M), some (.ref C), none, none]) rfl ?_
    walk_at "S"
    refine ⟨⟨_, sq_l ch.at_⟩, fun D hD => ?_⟩
    refine lc_goH (walk_list (K := K) (a := C) (xs := cs.map fun c : Lk => V.ref c.1)) (PL := fun i xs H' => ∃ hs : List Lk, xs = hs.map (fun c : Lk => V.ref c.1) ∧ hs.map (·.2) = (cs.take i).map (·.2) ∧ ∀ c ∈ hs, H' c.1 = some (.tup [.ref (ms.getD c.2.1 0), .int (c.2.2 : Nat)])) (W := []) hD
      ⟨[], rfl, by simp, by simp⟩ (fun H7 k7 => k7.seqL trivial (sq_l ch.at_)) (fun i x H7 H' hi I y => ?_) fun H7 I => ?_
    · obtain ⟨rfl, hx⟩ := y
      obtain ⟨xs, ex, ⟨hs, rfl, e1, e2⟩, lx, k7⟩ := I
      rw [List.length_map] at hi
      rw [List.getElem?_map] at hx
      obtain ⟨c, hc, rfl⟩ : ∃ c, cs[i]? = some c ∧ x = V.ref c.1 := by
        cases e : cs[i]? with
        | none => rw [e] at hx; cases hx
        | some c => rw [e] at hx; exact ⟨c, rfl, (Option.some.inj hx).symm⟩
      have ct := (ch.same k7).it c (List.mem_of_getElem? hc)
      have hM7 := k7.get trivial hM
      refine s_gtup (sq_t ct.1) rfl ?_
      walk_at "S"
      refine ⟨rfl, ?_⟩
      walk_at "S"
      have am : atI (ms.map V.ref) ((c.2.1 : Nat) : Int) = some (.ref (ms.getD c.2.1 0)) := atI_nat (by rw [List.getElem?_map, List.getD_eq_getElem?_getD, List.getElem?_eq_getElem ct.2.1]; rfl)
      refine s_ixL (sq_l hM7) am ?_
      walk_at "S"
      refine ⟨small_le (by simp), fun t ht => ?_⟩
      have few := ch.few
      refine LcInvH.put ex lx k7 hD trivial (Kp.refl.upd_new ht) (small_lt (by omega)) ⟨hs ++ [(t, c.2.1, c.2.2)], by simp, by rw [List.map_append, e1, take_put hc, List.map_append]; rfl, fun x hx => ?_⟩
      have nDt : D ≠ t := ne_of_none ex ht
      rcases List.mem_append.mp hx with hx | hx
      · have w := e2 x hx
        refine (upd_ne (fun q => by rw [q, ex] at w; cases w)).trans ((upd_ne (ne_of_none w ht)).trans w)
      · rw [List.mem_singleton.mp hx]
        exact (upd_ne nDt.symm).trans upd_same
    obtain ⟨_, eD, ⟨hs, rfl, e1, e2⟩, _, k7⟩ := I
    rw [List.take_of_length_le (by simp)] at e1
    refine q _ D hs k7 hD ⟨eD, fun c hc => ⟨e2 c hc, ?_⟩, ?_⟩ e1
    · have : c.2 ∈ cs.map (·.2) := by rw [← e1]; exact List.mem_map.mpr ⟨c, hc, rfl⟩
      obtain ⟨c', h1, h2⟩ := List.mem_map.mp this
      rw [← h2]
      exact (ch.it c' h1).2
    · have := congrArg List.length e1
      rw [List.length_map, List.length_map] at this
      rw [this]
      exact ch.few
end

/-! rings and faults -/
def ringL (qs : List Str) (j : Nat) (l : List (Nat × Nat)) : List (Str × Nat) := (l.dropWhile fun c => !decide (c.1 = j)).map fun c => (qs.getD c.1 Str.empty, c.2)
theorem ringL_snoc (qs : List Str) (j : Nat) (c : Nat × Nat) (l : List (Nat × Nat)) :
    ringL qs j (l ++ [c]) = if (ringL qs j l).isEmpty = true ∧ c.1 ≠ j then ringL qs j l else ringL qs j l ++ [(qs.getD c.1 Str.empty, c.2)] := by
  unfold ringL
  rw [List.dropWhile_append, List.isEmpty_map]
  by_cases e : (List.dropWhile (fun c => !decide (c.1 = j)) l).isEmpty = true
  · rw [if_pos e, List.isEmpty_iff.mp e]
    by_cases h : c.1 = j
    · rw [if_neg fun z => z.2 h, List.dropWhile_cons_of_neg (by simp [h])]
      rfl
    · rw [if_pos ⟨rfl, h⟩, List.dropWhile_cons_of_pos (by simp [h])]
      rfl
  · rw [if_neg e, if_neg fun z => e z.1, List.map_append]
    rfl
theorem ringL_nil (qs : List Str) (j : Nat) : ringL qs j [] = [] := rfl
def ringD (r : List (Str × Nat)) : PyData := .tuple (r.map fun p => .tuple [.str p.1, .int (p.2 : Nat)])
def faultP (q z : Str) (r : List (Str × Nat)) : List PyData := if r.isEmpty = true then [.str "NONAME", .str q, .str z] else [.str "HALF", .str q, .str z, ringD r]
def faultD (q z : Str) (r : List (Str × Nat)) : PyData := .tuple (faultP q z r)
/-- the parts of a ring as they are made -/
abbrev Rp := Addr × Str × Nat
theorem dp_ring {K : PySem.W.Frag} {H : Hp} : ∀ {as : List Rp}, (∀ a ∈ as, H a.1 = some (.tup [.str a.2.1, .int (a.2.2 : Nat)])) → DpAll K H (as.map fun a : Rp => V.ref a.1) ((as.map (·.2)).map fun p => .tuple [.str p.1, .int (p.2 : Nat)])
  | [], _ => .nil
  | a :: r, h => .cons (.tup (sq_t (h a List.mem_cons_self)) (.cons (.str _) (.cons (.int _) .nil))) (dp_ring fun x hx => h x (List.mem_cons_of_mem _ hx))
theorem shaped_ring {r : List (Str × Nat)} (h : ∀ p ∈ r, OkL (tl p.1)) : SeqAt.shaped (ringD r) = true := by
  have e : ∀ ys : List (Str × Nat), (∀ p ∈ ys, OkL (tl p.1)) → PyData.canLayAll0 (ys.map fun p => .tuple [.str p.1, .int (p.2 : Nat)]) = true ∧ PyData.depthAll (ys.map fun p => .tuple [.str p.1, .int (p.2 : Nat)]) ≤ 1 := by
    intro ys
    induction ys with
    | nil => intro _; simp [PyData.canLayAll0, PyData.depthAll]
    | cons y r ih =>
      intro h
      obtain ⟨h1, h2⟩ := ih fun x hx => h x (List.mem_cons_of_mem _ hx)
      have hy := OkL.strT (h y List.mem_cons_self)
      constructor
      · simp [PyData.canLayAll0, PyData.canLay0, h1, hy]
      · simp [PyData.depthAll, PyData.depth] at h2 ⊢
        omega
  obtain ⟨e1, e2⟩ := e r h
  unfold SeqAt.shaped ringD
  simp only [PyData.canLay0, PyData.depth, Bool.and_eq_true, decide_eq_true_eq]
  exact ⟨e1, decide_eq_true (by omega)⟩
theorem shaped_nil : SeqAt.shaped (.tuple []) = true := by simp [SeqAt.shaped, PyData.canLay0, PyData.canLayAll0, PyData.depth, PyData.depthAll]
theorem eqv_ring_nil (r : List (Str × Nat)) : PyData.eqv (ringD r) (.tuple []) = r.isEmpty := by
  cases r with
  | nil => simp [ringD, PyData.eqv, PyData.eqvAll]
  | cons p r => simp [ringD, PyData.eqv, PyData.eqvAll]
theorem ringL_ok {qs : List Str} {j : Nat} {l : List (Nat × Nat)} (h : ∀ q ∈ qs, OkL (tl q)) (b : ∀ c ∈ l, c.1 < qs.length) : ∀ p ∈ ringL qs j l, OkL (tl p.1) := by
  intro p hp
  obtain ⟨c, hc, rfl⟩ := List.mem_map.mp hp
  have := b c ((List.dropWhile_sublist _).subset hc)
  show OkL (tl (qs.getD c.1 Str.empty))
  rw [List.getD_eq_getElem?_getD, List.getElem?_eq_getElem this]
  exact h _ (List.getElem_mem this)
def spRing (K : PySem.W.Frag) (CM CL : Addr) : Sp := fun vs H Q _ => ∃ (h M F L : Addr) (zs : List Str) (mos : List Mo) (o : Mo) (j : Nat) (hs : List Lk), vs = [.ref o.m, .ref h] ∧ Wd CM CL H M F L zs mos ∧ mos[j]? = some o ∧ HdAt (mos.map (·.m)) H h hs ∧
  ∀ H' r, Kp [] H H' → Dp K H' (.ref r) (ringD (ringL (mos.map (·.q)) j (hs.map (·.2)))) → Q (.ref r) H'
theorem dm_inj {CM CL : Addr} {H : Hp} {M F L : Addr} {zs : List Str} {mos : List Mo} (W : Wd CM CL H M F L zs mos) {i j : Nat} {a b : Mo} (ha : mos[i]? = some a) (hb : mos[j]? = some b) (e : a.m = b.m) : i = j := by
  obtain ⟨hi, ea⟩ := List.getElem?_eq_some_iff.mp ha
  obtain ⟨hj, eb⟩ := List.getElem?_eq_some_iff.mp hb
  have p := List.pairwise_iff_getElem.mp W.dm
  rcases Nat.lt_trichotomy i j with h | h | h
  · have q := p i j (by simpa using hi) (by simpa using hj) h
    simp only [List.getElem_map, ea, eb] at q
    exact absurd e q
  · exact h
  · have q := p j i (by simpa using hj) (by simpa using hi) h
    simp only [List.getElem_map, ea, eb] at q
    exact absurd e.symm q
theorem mAt {mos : List Mo} {i : Nat} (h : i < (mos.map (·.m)).length) : ∃ o, mos[i]? = some o ∧ o ∈ mos ∧ (mos.map (·.m)).getD i 0 = o.m ∧ (mos.map (·.q)).getD i Str.empty = o.q := by
  rw [List.length_map] at h
  refine ⟨mos[i], List.getElem?_eq_getElem h, List.getElem_mem h, ?_, ?_⟩
  · rw [List.getD_eq_getElem?_getD, List.getElem?_map, List.getElem?_eq_getElem h]; rfl
  · rw [List.getD_eq_getElem?_getD, List.getElem?_map, List.getElem?_eq_getElem h]; rfl
section
variable {P : Program} {w : World} {K : PySem.W.Frag} {mg : Str → Option Value} {base : Heap} {C_MadeError C_Fault C_Module C_Late : Addr}
theorem ok_ring {f : Addr} {fd : FuncData} (F : Fun K "ring_from" "ring_from" s_ring_from f fd) (T : Txt K mg C_MadeError C_Fault C_Module C_Late) : FnOk P w K mg base CX0 1 f fd ["module", "chain"] (spRing K C_Module C_Late) := by
  refine F.ok sc_ring_from (fun vs H Q E h => ?_) (fun cdv A outer s H vs Q E hr h => ?_)
  · obtain ⟨h, M, F, L, zs, mos, o, j, hs, rfl, _⟩ := h
    rfl
  · obtain ⟨h, M, F, L, zs, mos, o, j, hs, rfl, W, ej, hd, q⟩ := h
    have mo := List.mem_of_getElem? ej
    refine ⟨_, (pss_cons (ps_set (i := 2) sc_ring_from.nd rfl (Or.inl rfl) (pe_lst pa_nil))
      (pss_cons (ps_for PassesOwn.never rfl (kiL (K := K) rfl (pi_list (pv 1))) (kgT (K := K) rfl (pg_tup rfl (pgs_cons (pg_name (i := 3) sc_ring_from.nd rfl (Or.inl rfl)) (pgs_cons (pg_name (i := 4) sc_ring_from.nd rfl (Or.inl rfl)) pgs_nil)))) (pss_one (ps_if (PW.pt (pw_or (pt_cmpR (neNilK (K := K) rfl hr.units) (pv 2) (pe_lst pa_nil) (nomark _)) (pw_or1 (pt_cmpR (eqIK (K := K) rfl hr.units) (pv 3) (pv 0) (nomark _))))) (pss_one (ps_expr (kBM (K := K) rfl (pe_bm PySem.F.plainAttrs_list PySem.F.slot_list_append PySem.F.type_list_append mt_append (pv 2) (pa_cons (pe_tup (pa_cons (kFld (K := K) rfl (pe_fld (pv 3) rfl)) (pa_cons (pv 4) pa_nil))) pa_nil))))) pss_nil)))
      (pss_one (ps_ret (pe_callTy (tupleK (K := K) rfl) (by rfl) T.n_tuple (by decide +kernel) (pa_cons (pv 2) pa_nil)))))), ?_⟩
    refine st_start (σ' := [some (.ref o.m), some (.ref h), none, none, none]) rfl ?_
    walk_at "S"
    refine ⟨small_le (by simp), fun f0 hf0 => ?_⟩
    have k0 : Kp [] H (upd H f0 (.lst [])) := Kp.refl.upd_new hf0
    have hd0 := (hd.same k0).at_
    walk_at "S"
    refine ⟨⟨_, sq_l hd0⟩, ?_⟩
    refine for_go (walk_list (K := K) (a := h) (xs := hs.map fun c : Lk => V.ref c.1)) (fun i σ H1 => ∃ (as : List Rp) (o3 o4 : Option V), σ = [some (.ref o.m), some (.ref h), some (.ref f0), o3, o4] ∧ Kp [] H H1 ∧ H1 f0 = some (.lst (as.map fun a : Rp => V.ref a.1)) ∧
        (∀ a ∈ as, H1 a.1 = some (.tup [.str a.2.1, .int (a.2.2 : Nat)])) ∧ as.map (·.2) = ringL (mos.map (·.q)) j ((hs.take i).map (·.2)) ∧ as.length ≤ i)
      ⟨[], _, _, rfl, k0, upd_same, by simp, rfl, Nat.le_refl _⟩ (fun i σ H1 hi I => by obtain ⟨_, _, _, _, k1, _⟩ := I; exact k1.seqL trivial (sq_l hd.at_)) (fun i x σ Ha Hb hi I y => ?_) fun σ H1 I => ?_
    · obtain ⟨rfl, hx⟩ := y
      obtain ⟨as, o3, o4, rfl, k1, e1, t1, r1, l1⟩ := I
      rw [List.length_map] at hi
      rw [List.getElem?_map] at hx
      obtain ⟨c, hc, rfl⟩ : ∃ c, hs[i]? = some c ∧ x = V.ref c.1 := by
        cases e : hs[i]? with
        | none => rw [e] at hx; cases hx
        | some c => rw [e] at hx; exact ⟨c, rfl, (Option.some.inj hx).symm⟩
      have ct := (hd.same k1).it c (List.mem_of_getElem? hc)
      obtain ⟨o', eo', mo', em', eq'⟩ := mAt ct.2.1
      rw [em'] at ct
      have few := hd.few
      have snoc := ringL_snoc (mos.map (·.q)) j c.2 ((hs.take i).map (·.2))
      rw [show (hs.take i).map (·.2) ++ [c.2] = (hs.take (i + 1)).map (·.2) from by rw [take_put hc, List.map_append]; rfl, eq', ← r1] at snoc
      have W1 := W.same k1
      obtain ⟨dx', eI'⟩ := (W1.mo o' mo').md
      obtain ⟨dx, eI⟩ := (W1.mo o mo).md
      refine s_gtup (sq_t ct.1) rfl ?_
      walk_at "S"
      refine ⟨small_le (by simp), fun e0 he0 => ?_⟩
      have ke : Kp [] Hb (upd Hb e0 (.lst [])) := Kp.refl.upd_new he0
      have e1' : upd Hb e0 (.lst []) f0 = some (.lst (as.map fun a : Rp => V.ref a.1)) := ke.get trivial e1
      have eI1 := ke.get trivial eI
      have eI2 := ke.get trivial eI'
      walk_at "S"
      refine s_nil0 (sq_l e1') (sq_l upd_same) ?_
      have add : ∀ H2, Kp [] Hb H2 → H2 f0 = some (.lst (as.map fun a : Rp => V.ref a.1)) → ¬ ((as.map (·.2)).isEmpty = true ∧ c.2.1 ≠ j) → ∀ t, H2 t = none →
          ∃ (as' : List Rp) (o3 o4 : Option V), [some (V.ref o.m), some (.ref h), some (.ref f0), some (.ref o'.m), some (.int (c.2.2 : Nat))] = [some (.ref o.m), some (.ref h), some (.ref f0), o3, o4] ∧
            Kp [] H (upd (upd H2 t (.tup [.str o'.q, .int (c.2.2 : Nat)])) f0 (.lst (as.map (fun a : Rp => V.ref a.1) ++ [.ref t]))) ∧
            (upd (upd H2 t (.tup [.str o'.q, .int (c.2.2 : Nat)])) f0 (.lst (as.map (fun a : Rp => V.ref a.1) ++ [.ref t]))) f0 = some (.lst (as'.map fun a : Rp => V.ref a.1)) ∧
            (∀ a ∈ as', (upd (upd H2 t (.tup [.str o'.q, .int (c.2.2 : Nat)])) f0 (.lst (as.map (fun a : Rp => V.ref a.1) ++ [.ref t]))) a.1 = some (.tup [.str a.2.1, .int (a.2.2 : Nat)])) ∧
            as'.map (·.2) = ringL (mos.map (·.q)) j ((hs.take (i + 1)).map (·.2)) ∧ as'.length ≤ i + 1 := by
        intro H2 k2 ef2 cond t ht
        have nft : f0 ≠ t := ne_of_none ef2 ht
        refine ⟨as ++ [(t, o'.q, c.2.2)], _, _, rfl, ?_, by rw [upd_same, List.map_append]; rfl, fun a ha => ?_, ?_, by rw [List.length_append, List.length_singleton]; omega⟩
        · exact (k1.tr (k2.upd_new ht)).upd_loc hf0
        · rcases List.mem_append.mp ha with ha | ha
          · have w := k2.get trivial (t1 a ha)
            exact (upd_ne (fun q => by rw [q, ef2] at w; cases w)).trans ((upd_ne (ne_of_none w ht)).trans w)
          · rw [List.mem_singleton.mp ha]
            exact (upd_ne nft.symm).trans upd_same
        · rw [snoc, if_neg cond, List.map_append]
          rfl
      cases has : as with
      | cons a0 ar =>
        rw [← has, show ((as.map fun a : Rp => V.ref a.1).isEmpty) = false from by rw [has]; rfl]
        walk_at "S"
        refine s_ins eI2 T.cl_Module T.n_Module_path (lk_path _ _ _) ?_
        walk_at "S"
        refine ⟨small_le (by simp), fun t ht => ?_⟩
        have ef3 : upd (upd Hb e0 (.lst [])) t (.tup [.str o'.q, .int (c.2.2 : Nat)]) f0 = some (.lst (as.map fun a : Rp => V.ref a.1)) := (upd_ne (ne_of_none e1' ht)).trans e1'
        walk_at "S"
        refine s_append ef3 (small_lt (by rw [List.length_map]; omega)) ?_
        walk_at "S"
        exact add _ ke e1' (by rw [has]; simp) t ht
      | nil =>
        rw [← has, show ((as.map fun a : Rp => V.ref a.1).isEmpty) = true from by rw [has]; rfl]
        walk_at "S"
        refine s_eqI eI2 eI1 T.eq_Module ?_
        walk_at "S"
        refine s_dec (fun e => ?_) (fun e => ?_)
        · walk_at "S"
          refine s_ins eI2 T.cl_Module T.n_Module_path (lk_path _ _ _) ?_
          walk_at "S"
          refine ⟨small_le (by simp), fun t ht => ?_⟩
          have ef3 : upd (upd Hb e0 (.lst [])) t (.tup [.str o'.q, .int (c.2.2 : Nat)]) f0 = some (.lst (as.map fun a : Rp => V.ref a.1)) := (upd_ne (ne_of_none e1' ht)).trans e1'
          walk_at "S"
          refine s_append ef3 (small_lt (by rw [List.length_map]; omega)) ?_
          walk_at "S"
          exact add _ ke e1' (fun z => z.2 (dm_inj W eo' ej e)) t ht
        · walk_at "S"
          refine ⟨as, _, _, rfl, k1.tr ke, e1', fun a ha => ke.get trivial (t1 a ha), ?_, by omega⟩
          have nj : c.2.1 ≠ j := fun z => e (by
            rw [z, ej] at eo'
            rw [← Option.some.inj eo'])
          rw [snoc, if_pos ⟨by rw [has]; rfl, nj⟩]
    · obtain ⟨as, o3, o4, rfl, k1, e1, t1, r1, l1⟩ := I
      rw [List.take_of_length_le (by simp)] at r1
      walk_at "S"
      refine s_tupL (sq_l e1) fun r hr => ?_
      refine q _ r (k1.upd_new hr) ?_
      rw [← r1]
      exact .tup (sq_t upd_same) (dp_ring fun a ha => (upd_ne (ne_of_none (t1 a ha) hr)).trans (t1 a ha))
end

theorem kp_raise {H : Hp} {a dx : Addr} {o1 o2 u x : HO} (ha : H a = none) (hd : H dx = none) : Kp [] H (upd (del (upd (upd (upd H a o1) dx u) a o2) a) dx x) := fun q o _ h => by
  have n1 : q ≠ a := fun e => by rw [e, ha] at h; cases h
  have n2 : q ≠ dx := fun e => by rw [e, hd] at h; cases h
  rw [upd_ne n2, del_ne n1, upd_ne n1, upd_ne n2, upd_ne n1]
  exact h
/-- a fault raised -/
theorem fault_made {C : Addr} {H : Hp} {v : V} {R : XK} (q : ∀ H' d, Kp [] H H' → H' d = some (.xd [("fault", v)]) → R (.ref C) (some d) H') : ∀ a, H a = none → spFInit C (.ref a :: ([v] ++ [])) (upd H a (exo a C none))
    (fun y H2 => y = .non ∧ ∃ (d : Addr) (fs : List (Str × V)), H2 a = some (exo a C (some d)) ∧ H2 d = some (exd d fs) ∧ H d = none ∧ R (.ref C) (some d) (upd (del H2 a) d (.xd fs))) (fun _ _ _ => False) := fun a ha =>
  ⟨a, v, rfl, upd_same, fun dx nd ne => by
    have hd : H dx = none := (upd_ne ne).symm.trans nd
    exact ⟨rfl, dx, _, upd_same, (upd_ne ne).trans upd_same, hd, q _ dx (kp_raise ha hd) upd_same⟩⟩
def spLook (K : PySem.W.Frag) (CM CL CF : Addr) : Sp := fun vs H Q E => ∃ (h M F L : Addr) (z : Str) (zs : List Str) (mos : List Mo) (o : Mo) (j : Nat) (hs : List Lk), vs = [.ref o.m, .str z, .ref h] ∧ Wd CM CL H M F L zs mos ∧ mos[j]? = some o ∧ HdAt (mos.map (·.m)) H h hs ∧
  match valV (kv1 o.B) (.inr z) with
  | some v => Q v H
  | none => ∀ H' d t, Kp [] H H' → H' d = some (.xd [("fault", .ref t)]) → Dp K H' (.ref t) (faultD o.q z (ringL (mos.map (·.q)) j (hs.map (·.2)))) → E (.ref CF) (some d) H'
section
variable {P : Program} {w : World} {K : PySem.W.Frag} {mg : Str → Option Value} {base : Heap} {C_MadeError C_Fault C_Module C_Late : Addr}
theorem ok_look {f : Addr} {fd : FuncData} (F : Fun K "look" "look" s_look f fd) (T : Txt K mg C_MadeError C_Fault C_Module C_Late)
    (D_Module_has : DmF P w K mg base 1 C_Module "has" ["self", "name"] (spHas C_Module)) (D_Module_thing_of : DmF P w K mg base 1 C_Module "thing_of" ["self", "name"] (spThing C_Module))
    (D_ring_from : DnF P w K mg base 1 "ring_from" ["module", "chain"] (spRing K C_Module C_Late)) (D_Fault_init : DxF P w K mg base 1 C_Fault ["self", "fault"] (spFInit C_Fault)) :
    FnOk P w K mg base (L2.CX P w) 3 f fd ["module", "name", "chain"] (spLook K C_Module C_Late C_Fault) := by
  refine F.okX sc_look (fun vs H Q E h => ?_) (fun cdv A outer s H vs Q E hr h => ?_)
  · obtain ⟨h, M, F, L, z, zs, mos, o, j, hs, rfl, _⟩ := h
    rfl
  · obtain ⟨f_ring_from, fd_ring_from, G_ring_from, m_ring_from, k_ring_from, b_ring_from⟩ := D_ring_from; obtain ⟨f_Fault_init, fd_Fault_init, G_Fault_init, X_Fault, b_Fault_init⟩ := D_Fault_init; obtain ⟨f_Module_has, fd_Module_has, G_Module_has, mt_Module_has, b_Module_has⟩ := D_Module_has; obtain ⟨f_Module_thing_of, fd_Module_thing_of, G_Module_thing_of, mt_Module_thing_of, b_Module_thing_of⟩ := D_Module_thing_of
    obtain ⟨h, M, F, L, z, zs, mos, o, j, hs, rfl, W, ej, hd, q⟩ := h
    have mo := List.mem_of_getElem? ej
    have ok := W.mo o mo
    obtain ⟨dx, em⟩ := ok.md
    refine ⟨_, (pss_cons (ps_if (pt_val (pe_meth (pv 0) T.cl_Module mt_Module_has G_Module_has (hr.mono (by first | decide | omega)) b_Module_has .nil pass0 (pa_cons (pv 1) pa_nil))) (pss_one (ps_ret (pe_meth (pv 0) T.cl_Module mt_Module_thing_of G_Module_thing_of (hr.mono (by first | decide | omega)) b_Module_thing_of .nil pass0 (pa_cons (pv 1) pa_nil)))) pss_nil)
      (pss_cons (ps_set (i := 3) sc_look.nd rfl (Or.inl rfl) (pe_call G_ring_from (hr.mono (by first | decide | omega)) (by rfl) m_ring_from k_ring_from b_ring_from .nil pass0 (pa_cons (pv 0) (pa_cons (pv 2) pa_nil))))
      (pss_cons (ps_if (pt_cmpR (eqDK (K := K) rfl hr.units) (pv 3) (pe_tup pa_nil) (nomark _)) (pss_one (ps_raise rfl (takes_of rfl rfl rfl rfl) (pmk_oex X_Fault.ox X_Fault.ic X_Fault.ti G_Fault_init (hr.mono (by first | decide | omega)) b_Fault_init .nil pass0 (by rfl) T.mg_Fault (pa_cons (pe_tup (pa_cons pe_str (pa_cons (kFld (K := K) rfl (pe_fld (pv 0) rfl)) (pa_cons (pv 1) pa_nil)))) pa_nil)))) pss_nil)
      (pss_one (ps_raise rfl (takes_of rfl rfl rfl rfl) (pmk_oex X_Fault.ox X_Fault.ic X_Fault.ti G_Fault_init (hr.mono (by first | decide | omega)) b_Fault_init .nil pass0 (by rfl) T.mg_Fault (pa_cons (pe_tup (pa_cons pe_str (pa_cons (kFld (K := K) rfl (pe_fld (pv 0) rfl)) (pa_cons (pv 1) (pa_cons (pv 3) pa_nil))))) pa_nil))))))), ?_⟩
    refine st_start (σ' := [some (.ref o.m), some (.str z), some (.ref h), none]) rfl ?_
    walk_at "S"
    refine s_insM em (lk_meth (m := "has") _ _ _ (by decide +kernel)) ?_
    walk_at "S"
    refine ⟨o.m, o.d, o.n, o.q, z, kv1 o.B, rfl, ok.at_, ?_⟩
    walk_at "S"
    cases hv : valV (kv1 o.B) (.inr z) with
    | some v =>
      rw [hv] at q
      refine s_bool (fun _ => ?_) (fun h => nomatch h)
      walk_at "S"
      refine s_insM em (lk_meth (m := "thing_of") _ _ _ (by decide +kernel)) ?_
      walk_at "S"
      refine ⟨o.m, o.d, o.n, o.q, z, kv1 o.B, rfl, ok.at_, ?_⟩
      rw [hv]
      exact q
    | none =>
      rw [hv] at q
      refine s_bool (fun h => nomatch h) (fun _ => ?_)
      walk_at "S"
      refine ⟨h, M, F, L, zs, mos, o, j, hs, rfl, W, ej, hd, fun H1 r k1 dr => ?_⟩
      have qok : ∀ y ∈ mos.map (·.q), OkL (tl y) := fun y hy => by
        obtain ⟨o', h1, rfl⟩ := List.mem_map.mp hy
        exact (W.mo o' h1).fo.road.ok
      have rok := ringL_ok (j := j) (l := hs.map (·.2)) qok fun c hc => by
        obtain ⟨x, hx, rfl⟩ := List.mem_map.mp hc
        have := (hd.it x hx).2.1
        rwa [List.length_map] at this ⊢
      generalize ringL (mos.map (·.q)) j (hs.map (·.2)) = rg at *
      walk_at "S"
      refine ⟨small_le (by simp), fun e0 he0 => ?_⟩
      walk_at "S"
      refine s_eqD (Dp.same (Kp.refl.upd_new he0) _ _ dr) (.tup (sq_t upd_same) .nil) (shaped_ring rok) shaped_nil ?_
      rw [eqv_ring_nil]
      walk_at "S"
      have k2 : Kp [] H (upd H1 e0 (.tup [])) := k1.upd_new he0
      have dr2 := Dp.same (Kp.refl.upd_new (o := .tup []) he0) _ _ dr
      have em2 := k2.get trivial em
      generalize upd H1 e0 (.tup []) = H2 at *
      refine s_bool (fun hb => ?_) (fun hb => ?_)
      · refine s_mkO ?_
        walk_at "S"
        refine s_ins em2 T.cl_Module T.n_Module_path (lk_path _ _ _) ?_
        walk_at "S"
        refine ⟨small_le (by simp), fun t ht => ?_⟩
        walk_at "S"
        refine ⟨by show 1 ≤ 1000; decide, fault_made fun H3 d k3 hd3 => q _ d t (k2.tr ((Kp.refl.upd_new ht).tr k3)) hd3 ?_⟩
        unfold faultD faultP
        rw [if_pos hb]
        exact Dp.same k3 _ _ (.tup (sq_t upd_same) (.cons (.str _) (.cons (.str _) (.cons (.str _) .nil))))
      · walk_at "S"
        refine s_mkO ?_
        walk_at "S"
        refine s_ins em2 T.cl_Module T.n_Module_path (lk_path _ _ _) ?_
        walk_at "S"
        refine ⟨small_le (by simp), fun t ht => ?_⟩
        walk_at "S"
        refine ⟨by show 1 ≤ 1000; decide, fault_made fun H3 d k3 hd3 => q _ d t (k2.tr ((Kp.refl.upd_new ht).tr k3)) hd3 ?_⟩
        unfold faultD faultP
        rw [if_neg (by rw [hb]; exact Bool.false_ne_true)]
        exact Dp.same k3 _ _ (.tup (sq_t upd_same) (.cons (.str _) (.cons (.str _) (.cons (.str _) (.cons (Dp.same (Kp.refl.upd_new ht) _ _ dr2) .nil)))))
end

def spFaultL (K : PySem.W.Frag) : Sp := fun vs H Q _ => ∃ (F C : Addr) (j : Nat) (z : Str) (fs : List Fact) (cs : List Lk), vs = [.ref F, .ref C, .int (j : Nat), .str z] ∧ H F = some (.lst (fs.map fun f : Fact => V.ref f.1)) ∧ (∀ f ∈ fs, FactOk H f) ∧
  ChAt fs.length H C cs ∧ j < fs.length ∧ ∀ H' u t, Kp [] H H' → H' u = some (.tup [.str "fault", .ref t]) → Dp K H' (.ref t) (faultD ((fs.map (·.2.2)).getD j Str.empty) z (ringL (fs.map (·.2.2)) j (cs.map (·.2)))) → Q (.ref u) H'
theorem fAt {H : Hp} {fs : List Fact} (fo : ∀ f ∈ fs, FactOk H f) {i : Nat} (h : i < fs.length) : ∃ f, fs[i]? = some f ∧ FactOk H f ∧ (fs.map (·.2.2)).getD i Str.empty = f.2.2 ∧ atI (fs.map fun f : Fact => V.ref f.1) ((i : Nat) : Int) = some (.ref f.1) := by
  refine ⟨fs[i], List.getElem?_eq_getElem h, fo _ (List.getElem_mem h), ?_, atI_nat ?_⟩
  · rw [List.getD_eq_getElem?_getD, List.getElem?_map, List.getElem?_eq_getElem h]; rfl
  · rw [List.getElem?_map, List.getElem?_eq_getElem h]; rfl
section
variable {P : Program} {w : World} {K : PySem.W.Frag} {mg : Str → Option Value} {base : Heap} {C_MadeError C_Fault C_Module C_Late : Addr}
theorem ok_faultL {f : Addr} {fd : FuncData} (F : Fun K "_law_fault" "_law_fault" s_l_fault f fd) (T : Txt K mg C_MadeError C_Fault C_Module C_Late) : FnOk P w K mg base CX0 1 f fd ["_law_facts_here", "_law_chain_here", "_law_at_here", "_law_name_here"] (spFaultL K) := by
  refine F.ok sc_l_fault (fun vs H Q E h => ?_) (fun cdv A outer s H vs Q E hr h => ?_)
  · obtain ⟨F, C, j, z, fs, cs, rfl, _⟩ := h
    rfl
  · obtain ⟨F, C, j, z, fs, cs, rfl, hF, fo, ch, hj, q⟩ := h
    obtain ⟨fj, ejf, foj, eqj, aj⟩ := fAt fo hj
    rw [eqj] at q
    refine ⟨_, (pss_cons (ps_set (i := 4) sc_l_fault.nd rfl (Or.inl rfl) (pe_lst pa_nil))
      (pss_cons (ps_for PassesOwn.never rfl (kiL (K := K) rfl (pi_list (pv 1))) (kgT (K := K) rfl (pg_tup rfl (pgs_cons (pg_name (i := 5) sc_l_fault.nd rfl (Or.inl rfl)) (pgs_cons (pg_name (i := 6) sc_l_fault.nd rfl (Or.inl rfl)) pgs_nil)))) (pss_one (ps_if (PW.pt (pw_or (pt_cmpR (neNilK (K := K) rfl hr.units) (pv 4) (pe_lst pa_nil) (nomark _)) (pw_or1 (pt_cmpR op_eq (pv 5) (pv 2) (nomark _))))) (pss_one (ps_expr (kBM (K := K) rfl (pe_bm PySem.F.plainAttrs_list PySem.F.slot_list_append PySem.F.type_list_append mt_append (pv 4) (pa_cons (pe_tup (pa_cons (pe_ix (ixTK (K := K) rfl) (pe_ix (ixLK (K := K) rfl) (pv 0) (pv 5) (fun _ _ => rfl)) pe_int (fun _ _ => rfl)) (pa_cons (pv 6) pa_nil))) pa_nil))))) pss_nil)))
      (pss_cons (ps_if (pt_cmpR (eqNilK (K := K) rfl hr.units) (pv 4) (pe_lst pa_nil) (nomark _)) (pss_one (ps_ret (pe_tup (pa_cons pe_str (pa_cons (pe_tup (pa_cons pe_str (pa_cons (pe_ix (ixTK (K := K) rfl) (pe_ix (ixLK (K := K) rfl) (pv 0) (pv 2) (fun _ _ => rfl)) pe_int (fun _ _ => rfl)) (pa_cons (pv 3) pa_nil)))) pa_nil))))) pss_nil)
      (pss_one (ps_ret (pe_tup (pa_cons pe_str (pa_cons (pe_tup (pa_cons pe_str (pa_cons (pe_ix (ixTK (K := K) rfl) (pe_ix (ixLK (K := K) rfl) (pv 0) (pv 2) (fun _ _ => rfl)) pe_int (fun _ _ => rfl)) (pa_cons (pv 3) (pa_cons (pe_callTy (tupleK (K := K) rfl) (by rfl) T.n_tuple (by decide +kernel) (pa_cons (pv 4) pa_nil)) pa_nil))))) pa_nil)))))))), ?_⟩
    refine st_start (σ' := [some (.ref F), some (.ref C), some (.int (j : Nat)), some (.str z), none, none, none]) rfl ?_
    walk_at "S"
    refine ⟨small_le (by simp), fun f0 hf0 => ?_⟩
    have k0 : Kp [] H (upd H f0 (.lst [])) := Kp.refl.upd_new hf0
    have hd0 := (ch.same k0).at_
    walk_at "S"
    refine ⟨⟨_, sq_l hd0⟩, ?_⟩
    refine for_go (walk_list (K := K) (a := C) (xs := cs.map fun c : Lk => V.ref c.1)) (fun i σ H1 => ∃ (as : List Rp) (o3 o4 : Option V), σ = [some (.ref F), some (.ref C), some (.int (j : Nat)), some (.str z), some (.ref f0), o3, o4] ∧ Kp [] H H1 ∧ H1 f0 = some (.lst (as.map fun a : Rp => V.ref a.1)) ∧
        (∀ a ∈ as, H1 a.1 = some (.tup [.str a.2.1, .int (a.2.2 : Nat)])) ∧ as.map (·.2) = ringL (fs.map (·.2.2)) j ((cs.take i).map (·.2)) ∧ as.length ≤ i)
      ⟨[], _, _, rfl, k0, upd_same, by simp, rfl, Nat.le_refl _⟩ (fun i σ H1 hi I => by obtain ⟨_, _, _, _, k1, _⟩ := I; exact k1.seqL trivial (sq_l ch.at_)) (fun i x σ Ha Hb hi I y => ?_) fun σ H1 I => ?_
    · obtain ⟨rfl, hx⟩ := y
      obtain ⟨as, o3, o4, rfl, k1, e1, t1, r1, l1⟩ := I
      rw [List.length_map] at hi
      rw [List.getElem?_map] at hx
      obtain ⟨c, hc, rfl⟩ : ∃ c, cs[i]? = some c ∧ x = V.ref c.1 := by
        cases e : cs[i]? with
        | none => rw [e] at hx; cases hx
        | some c => rw [e] at hx; exact ⟨c, rfl, (Option.some.inj hx).symm⟩
      have ct := (ch.same k1).it c (List.mem_of_getElem? hc)
      obtain ⟨fc, ec, foc, eqc, ac⟩ := fAt (H := Hb) (fun f hf => (fo f hf).tik (TIK.same k1)) ct.2.1
      have few := ch.few
      have snoc := ringL_snoc (fs.map (·.2.2)) j c.2 ((cs.take i).map (·.2))
      rw [show (cs.take i).map (·.2) ++ [c.2] = (cs.take (i + 1)).map (·.2) from by rw [take_put hc, List.map_append]; rfl, eqc, ← r1] at snoc
      refine s_gtup (sq_t ct.1) rfl ?_
      walk_at "S"
      refine ⟨small_le (by simp), fun e0 he0 => ?_⟩
      have ke : Kp [] Hb (upd Hb e0 (.lst [])) := Kp.refl.upd_new he0
      have e1' : upd Hb e0 (.lst []) f0 = some (.lst (as.map fun a : Rp => V.ref a.1)) := ke.get trivial e1
      have hF1 := ke.get trivial (k1.get trivial hF)
      have fc1 := ke.get trivial foc.at_
      walk_at "S"
      refine s_nil0 (sq_l e1') (sq_l upd_same) ?_
      have add : ∀ H2, Kp [] Hb H2 → H2 f0 = some (.lst (as.map fun a : Rp => V.ref a.1)) → ¬ ((as.map (·.2)).isEmpty = true ∧ c.2.1 ≠ j) → ∀ t, H2 t = none →
          ∃ (as' : List Rp) (o3 o4 : Option V), [some (.ref F), some (.ref C), some (.int (j : Nat)), some (.str z), some (V.ref f0), some (.int (c.2.1 : Nat)), some (.int (c.2.2 : Nat))] = [some (.ref F), some (.ref C), some (.int (j : Nat)), some (.str z), some (.ref f0), o3, o4] ∧
            Kp [] H (upd (upd H2 t (.tup [.str fc.2.2, .int (c.2.2 : Nat)])) f0 (.lst (as.map (fun a : Rp => V.ref a.1) ++ [.ref t]))) ∧
            (upd (upd H2 t (.tup [.str fc.2.2, .int (c.2.2 : Nat)])) f0 (.lst (as.map (fun a : Rp => V.ref a.1) ++ [.ref t]))) f0 = some (.lst (as'.map fun a : Rp => V.ref a.1)) ∧
            (∀ a ∈ as', (upd (upd H2 t (.tup [.str fc.2.2, .int (c.2.2 : Nat)])) f0 (.lst (as.map (fun a : Rp => V.ref a.1) ++ [.ref t]))) a.1 = some (.tup [.str a.2.1, .int (a.2.2 : Nat)])) ∧
            as'.map (·.2) = ringL (fs.map (·.2.2)) j ((cs.take (i + 1)).map (·.2)) ∧ as'.length ≤ i + 1 := by
        intro H2 k2 ef2 cond t ht
        have nft : f0 ≠ t := ne_of_none ef2 ht
        refine ⟨as ++ [(t, fc.2.2, c.2.2)], _, _, rfl, ?_, by rw [upd_same, List.map_append]; rfl, fun a ha => ?_, ?_, by rw [List.length_append, List.length_singleton]; omega⟩
        · exact (k1.tr (k2.upd_new ht)).upd_loc hf0
        · rcases List.mem_append.mp ha with ha | ha
          · have w := k2.get trivial (t1 a ha)
            exact (upd_ne (fun q => by rw [q, ef2] at w; cases w)).trans ((upd_ne (ne_of_none w ht)).trans w)
          · rw [List.mem_singleton.mp ha]
            exact (upd_ne nft.symm).trans upd_same
        · rw [snoc, if_neg cond, List.map_append]
          rfl
      cases has : as with
      | cons a0 ar =>
        rw [← has, show ((as.map fun a : Rp => V.ref a.1).isEmpty) = false from by rw [has]; rfl]
        walk_at "S"
        refine s_ixL (sq_l hF1) ac ?_
        walk_at "S"
        refine ⟨small_le (by simp), fun t ht => ?_⟩
        have ef3 : upd (upd Hb e0 (.lst [])) t (.tup [.str fc.2.2, .int (c.2.2 : Nat)]) f0 = some (.lst (as.map fun a : Rp => V.ref a.1)) := (upd_ne (ne_of_none e1' ht)).trans e1'
        walk_at "S"
        refine s_append ef3 (small_lt (by rw [List.length_map]; omega)) ?_
        walk_at "S"
        exact add _ ke e1' (by rw [has]; simp) t ht
      | nil =>
        rw [← has, show ((as.map fun a : Rp => V.ref a.1).isEmpty) = true from by rw [has]; rfl]
        walk_at "S"
        refine s_dec (fun e => ?_) (fun e => ?_)
        · walk_at "S"
          refine s_ixL (sq_l hF1) ac ?_
          walk_at "S"
          refine ⟨small_le (by simp), fun t ht => ?_⟩
          have ef3 : upd (upd Hb e0 (.lst [])) t (.tup [.str fc.2.2, .int (c.2.2 : Nat)]) f0 = some (.lst (as.map fun a : Rp => V.ref a.1)) := (upd_ne (ne_of_none e1' ht)).trans e1'
          walk_at "S"
          refine s_append ef3 (small_lt (by rw [List.length_map]; omega)) ?_
          walk_at "S"
          exact add _ ke e1' (fun z => z.2 (by have := V.int.inj e; omega)) t ht
        · walk_at "S"
          refine ⟨as, _, _, rfl, k1.tr ke, e1', fun a ha => ke.get trivial (t1 a ha), ?_, by omega⟩
          have nj : c.2.1 ≠ j := fun z => e (by rw [z])
          rw [snoc, if_pos ⟨by rw [has]; rfl, nj⟩]
    · obtain ⟨as, o3, o4, rfl, k1, e1, t1, r1, l1⟩ := I
      rw [List.take_of_length_le (by simp)] at r1
      rw [← r1] at q
      have hF1 := k1.get trivial hF
      have fj1 := k1.get trivial foj.at_
      walk_at "S"
      refine ⟨small_le (by simp), fun e0 he0 => ?_⟩
      have ke : Kp [] H1 (upd H1 e0 (.lst [])) := Kp.refl.upd_new he0
      have e1' : upd H1 e0 (.lst []) f0 = some (.lst (as.map fun a : Rp => V.ref a.1)) := ke.get trivial e1
      have hF2 := ke.get trivial hF1
      have fj2 := ke.get trivial fj1
      walk_at "S"
      refine s_nil0 (f := fun b => b) (sq_l e1') (sq_l upd_same) ?_
      have t2 := fun a ha => ke.get trivial (t1 a ha)
      have k2 := k1.tr ke
      generalize upd H1 e0 (.lst []) = H2 at *
      cases has : as with
      | nil =>
        rw [has] at q
        walk_at "S"
        refine s_bool (fun _ => ?_) (fun h => absurd (show true = false from h) (by decide))
        walk_at "S"
        refine s_ixL (sq_l hF2) aj ?_
        walk_at "S"
        refine ⟨small_le (by simp), fun t ht => ?_⟩
        walk_at "S"
        refine ⟨small_le (by simp), fun u hu => q _ u t ((k2.upd_new ht).upd_new hu) upd_same ?_⟩
        exact Dp.same (Kp.refl.upd_new hu) _ _ (.tup (sq_t upd_same) (.cons (.str _) (.cons (.str _) (.cons (.str _) .nil))))
      | cons a0 ar =>
        rw [← has, show ((as.map fun a : Rp => V.ref a.1).isEmpty) = false from by rw [has]; rfl]
        walk_at "S"
        refine s_ixL (sq_l hF2) aj ?_
        walk_at "S"
        refine s_tupL (sq_l e1') fun r hr => ?_
        walk_at "S"
        refine ⟨small_le (by simp), fun t ht => ?_⟩
        walk_at "S"
        refine ⟨small_le (by simp), fun u hu => q _ u t (((k2.upd_new hr).upd_new ht).upd_new hu) upd_same ?_⟩
        have dr : Dp K (upd H2 r (.tup (as.map fun a : Rp => V.ref a.1))) (.ref r) (ringD (as.map (·.2))) := .tup (sq_t upd_same) (dp_ring fun a ha => (upd_ne (ne_of_none (t2 a ha) hr)).trans (t2 a ha))
        unfold faultD faultP
        rw [if_neg (by rw [has]; exact Bool.false_ne_true)]
        exact Dp.same (Kp.refl.upd_new hu) _ _ (.tup (sq_t upd_same) (.cons (.str _) (.cons (.str _) (.cons (.str _) (.cons (Dp.same (Kp.refl.upd_new ht) _ _ dr) .nil)))))
end

/-! roads: plain -/
theorem split_road {cs : List Str} (ne : cs ≠ []) (h : ∀ c ∈ cs, OkN c) : Txt.split (Txt.join "." cs) "." = cs := by
  have e : cs = (cs.map tl).map mkS := (map_mkS_tl cs).symm
  have h2 : ∀ p ∈ cs.map tl, 46 ∉ p := fun p hp => by
    obtain ⟨c, hc, rfl⟩ := List.mem_map.mp hp
    exact fun z => (h c hc).dot 46 z rfl
  rw [split_dot]
  conv => lhs; rw [e, joinS, tl_mkS, joinL_dot (by simpa using ne) h2]
  exact e.symm
theorem road_len {cs : List Str} (h : ∀ c ∈ cs, OkN c) (l : cs.length ≤ 4) : (cs.map (·.length)).sum ≤ 32 := by
  have : ∀ ds : List Str, (∀ c ∈ ds, OkN c) → (ds.map (·.length)).sum ≤ 8 * ds.length := by
    intro ds
    induction ds with
    | nil => simp
    | cons d r ih =>
      intro h
      have h1 := (h d List.mem_cons_self).len
      have h2 := ih fun c hc => h c (List.mem_cons_of_mem _ hc)
      rw [List.map_cons, List.sum_cons, List.length_cons]
      omega
  have := this cs h
  omega
theorem join_len {cs : List Str} (ne : cs ≠ []) (h : ∀ c ∈ cs, OkN c) (l : cs.length ≤ 4) : (Txt.join "." cs).length ≤ 100 := by
  have e : cs = (cs.map tl).map mkS := (map_mkS_tl cs).symm
  rw [e, joinS, mkS_len]
  have : ∀ ps : List (List Nat), (∀ p ∈ ps, p.length ≤ 8) → (joinL [46] ps).length ≤ 9 * ps.length := by
    intro ps
    induction ps with
    | nil => simp [joinL]
    | cons p r ih =>
      intro h
      have h1 := h p List.mem_cons_self
      have h2 := ih fun c hc => h c (List.mem_cons_of_mem _ hc)
      cases r with
      | nil => simp [joinL]; omega
      | cons q r =>
        rw [joinL_cons _ _ (by simp), List.length_append, List.length_append]
        simp only [List.length_cons, List.length_nil] at h2 ⊢
        omega
  have := this (cs.map tl) fun p hp => by
    obtain ⟨c, hc, rfl⟩ := List.mem_map.mp hp
    have := (h c hc).len
    rwa [len_tl] at this
  rw [List.length_map] at this
  omega
theorem drop_mid {α : Type} {cs : List α} {i : Nat} (h : i + 1 < cs.length) : ∃ z y r, cs[i]? = some z ∧ cs.drop i = z :: y :: r ∧ cs.drop (i + 1) = y :: r := by
  have e1 := List.drop_eq_getElem_cons (l := cs) (i := i) (by omega)
  have e2 := List.drop_eq_getElem_cons (l := cs) (i := i + 1) (by omega)
  exact ⟨_, _, _, List.getElem?_eq_getElem (by omega), by rw [e1, e2], e2⟩
theorem drop_end {α : Type} {cs : List α} (h : cs ≠ []) : ∃ z, cs.getLast? = some z ∧ cs.drop (cs.length - 1) = [z] ∧ cs[cs.length - 1]? = some z ∧ z ∈ cs := by
  have l := List.length_pos_iff.mpr h
  refine ⟨cs[cs.length - 1], ?_, ?_, List.getElem?_eq_getElem (by omega), List.getElem_mem _⟩
  · rw [List.getLast?_eq_getElem?, List.getElem?_eq_getElem (by omega)]
  · have e1 := List.drop_eq_getElem_cons (l := cs) (i := cs.length - 1) (by omega)
    rw [e1, List.drop_eq_nil_of_le (by omega)]
/-! where a road leads -/
def nextM (mos : List Mo) (v : V) : Option Nat := mos.findIdx? fun o => decide (v = .ref o.m)
theorem nextM_mod {CM CL : Addr} {H : Hp} {M F L : Addr} {zs : List Str} {mos : List Mo} (W : Wd CM CL H M F L zs mos) {j : Nat} {o : Mo} (h : mos[j]? = some o) : nextM mos (.ref o.m) = some j := by
  obtain ⟨hj, e⟩ := List.getElem?_eq_some_iff.mp h
  unfold nextM
  rw [List.findIdx?_eq_some_iff_getElem]
  refine ⟨hj, by rw [e]; simp, fun i hi => ?_⟩
  simp only [decide_eq_true_eq, Bool.not_eq_true, decide_eq_false_iff_not]
  intro q
  have := dm_inj W h (List.getElem?_eq_getElem (by omega)) (V.ref.inj q)
  omega
theorem nextM_not {mos : List Mo} {v : V} (h : ∀ o ∈ mos, v ≠ .ref o.m) : nextM mos v = none := by
  unfold nextM
  rw [List.findIdx?_eq_none_iff]
  exact fun o ho => decide_eq_false (h o ho)
theorem late_not {CM CL : Addr} {H : Hp} {M F L l dl m : Addr} {r : Str} {zs : List Str} {mos : List Mo} (W : Wd CM CL H M F L zs mos) (e : H l = some (.ins CL dl (lateF m r))) : ∀ o ∈ mos, V.ref l ≠ .ref o.m := fun o ho q => by
  obtain ⟨dx, em⟩ := (W.mo o ho).md
  rw [← V.ref.inj q, e] at em
  have := congrArg (fun o : Option HO => match o with | some (.ins _ _ fs) => fs.length | _ => 0) em
  simp at this
/-- which name is looked for last, and where; or where it is flat -/
def goF (mos : List Mo) : Nat → List Str → Bool × Nat × Str
  | j, [] => (false, j, Str.empty)
  | j, [z] => (false, j, z)
  | j, z :: y :: r => match (mos[j]?).bind fun o => valV (kv1 o.B) (.inr z) with
    | none => (false, j, z)
    | some v => match nextM mos v with
      | none => (true, j, z)
      | some j' => goF mos j' (y :: r)
abbrev Res := Bool × Nat × Str
def Has (mos : List Mo) (res : Res) (v : V) : Prop := res.1 = false ∧ ∃ o, mos[res.2.1]? = some o ∧ valV (kv1 o.B) (.inr res.2.2) = some v
def Fails (mos : List Mo) (res : Res) : Prop := (∃ o, mos[res.2.1]? = some o ∧ res.1 = true) ∨ res.1 = false ∧ ∃ o, mos[res.2.1]? = some o ∧ valV (kv1 o.B) (.inr res.2.2) = none
def flatP (q z : Str) : List PyData := [.str "FLAT", .str q, .str z]
def resP (mos : List Mo) (hs : List (Nat × Nat)) (res : Res) : List PyData :=
  if res.1 = true then flatP ((mos.map (·.q)).getD res.2.1 Str.empty) res.2.2 else faultP ((mos.map (·.q)).getD res.2.1 Str.empty) res.2.2 (ringL (mos.map (·.q)) res.2.1 hs)
abbrev resD (mos : List Mo) (hs : List (Nat × Nat)) (res : Res) : PyData := .tuple (resP mos hs res)
theorem qAt {mos : List Mo} {j : Nat} {o : Mo} (h : mos[j]? = some o) : (mos.map (·.q)).getD j Str.empty = o.q := by
  rw [List.getD_eq_getElem?_getD, List.getElem?_map, h]; rfl
theorem resD_miss {mos : List Mo} {hs : List (Nat × Nat)} {j : Nat} {o : Mo} {z : Str} (h : mos[j]? = some o) : resD mos hs (false, j, z) = faultD o.q z (ringL (mos.map (·.q)) j hs) := by
  unfold resD resP faultD
  rw [if_neg (by simp), qAt h]
theorem resD_flat {mos : List Mo} {hs : List (Nat × Nat)} {j : Nat} {o : Mo} {z : Str} (h : mos[j]? = some o) : resD mos hs (true, j, z) = .tuple (flatP o.q z) := by
  unfold resD resP
  rw [if_pos rfl, qAt h]
def spPlace (K : PySem.W.Frag) (CM CL CF : Addr) : Sp := fun vs H Q E => ∃ (h M F L : Addr) (zs : List Str) (mos : List Mo) (o : Mo) (j : Nat) (hs : List Lk) (cs : List Str), vs = [.ref o.m, .str (Txt.join "." cs), .ref h] ∧ Wd CM CL H M F L zs mos ∧ mos[j]? = some o ∧ HdAt (mos.map (·.m)) H h hs ∧
  cs ≠ [] ∧ (∀ c ∈ cs, OkN c) ∧ cs.length ≤ 4 ∧
  (∀ H' t j' o' z, Kp [] H H' → mos[j']? = some o' → goF mos j cs = (false, j', z) → H' t = some (.tup [.ref o'.m, .str z]) → Q (.ref t) H') ∧
  (∀ H' d t, Kp [] H H' → Fails mos (goF mos j cs) → H' d = some (.xd [("fault", .ref t)]) → Dp K H' (.ref t) (resD mos (hs.map (·.2)) (goF mos j cs)) → E (.ref CF) (some d) H')
def spFollow (K : PySem.W.Frag) (CM CL CF : Addr) : Sp := fun vs H Q E => ∃ (h M F L : Addr) (zs : List Str) (mos : List Mo) (o : Mo) (j : Nat) (hs : List Lk) (cs : List Str), vs = [.ref o.m, .str (Txt.join "." cs), .ref h] ∧ Wd CM CL H M F L zs mos ∧ mos[j]? = some o ∧ HdAt (mos.map (·.m)) H h hs ∧
  cs ≠ [] ∧ (∀ c ∈ cs, OkN c) ∧ cs.length ≤ 4 ∧
  (∀ H' v, Kp [] H H' → Has mos (goF mos j cs) v → Q v H') ∧
  (∀ H' d t, Kp [] H H' → Fails mos (goF mos j cs) → H' d = some (.xd [("fault", .ref t)]) → Dp K H' (.ref t) (resD mos (hs.map (·.2)) (goF mos j cs)) → E (.ref CF) (some d) H')
def spAsked (K : PySem.W.Frag) (CM CL CF : Addr) : Sp := fun vs H Q E => ∃ (l dl h M F L : Addr) (zs : List Str) (mos : List Mo) (o : Mo) (j : Nat) (hs : List Lk) (cs : List Str), vs = [.ref l, .ref h] ∧ H l = some (.ins CL dl (lateF o.m (Txt.join "." cs))) ∧ Wd CM CL H M F L zs mos ∧ mos[j]? = some o ∧ HdAt (mos.map (·.m)) H h hs ∧
  cs ≠ [] ∧ (∀ c ∈ cs, OkN c) ∧ cs.length ≤ 4 ∧
  (∀ H' v, Kp [] H H' → Has mos (goF mos j cs) v → Q v H') ∧
  (∀ H' d t, Kp [] H H' → Fails mos (goF mos j cs) → H' d = some (.xd [("fault", .ref t)]) → Dp K H' (.ref t) (resD mos (hs.map (·.2)) (goF mos j cs)) → E (.ref CF) (some d) H')
section
variable {P : Program} {w : World} {K : PySem.W.Frag} {mg : Str → Option Value} {base : Heap} {C_MadeError C_Fault C_Module C_Late : Addr}
theorem ok_place_of {f : Addr} {fd : FuncData} (F : Fun K "place_of" "place_of" s_place_of f fd) (T : Txt K mg C_MadeError C_Fault C_Module C_Late)
    (D_look : DnX P w K mg base 3 "look" ["module", "name", "chain"] (spLook K C_Module C_Late C_Fault)) (D_Fault_init : DxF P w K mg base 1 C_Fault ["self", "fault"] (spFInit C_Fault)) :
    FnOk P w K mg base (L2.CX P w) 4 f fd ["module", "road", "chain"] (spPlace K C_Module C_Late C_Fault) := by
  refine F.okX sc_place_of (fun vs H Q E h => ?_) (fun cdv A outer s H vs Q E hr h => ?_)
  · obtain ⟨h, M, F, L, zs, mos, o, j, hs, cs, rfl, _⟩ := h
    rfl
  · obtain ⟨f_look, fd_look, G_look, m_look, k_look, b_look⟩ := D_look; obtain ⟨f_Fault_init, fd_Fault_init, G_Fault_init, X_Fault, b_Fault_init⟩ := D_Fault_init
    obtain ⟨h, M, F, L, zs, mos, o, j, hs, cs, rfl, W, ej, hd, nc, oc, lc, q, qx⟩ := h
    have lp := List.length_pos_iff.mpr nc
    have jl := join_len nc oc lc
    refine ⟨_, (pss_cons (ps_set (i := 3) sc_place_of.nd rfl (Or.inl rfl) (pe_m1 PySem.F.slot_str_split PySem.F.type_str_split splitR (pv 1) pe_str))
      (pss_cons (ps_set (i := 4) sc_place_of.nd rfl (Or.inl rfl) (pv 0))
      (pss_cons (ps_for (passes_of rfl) rfl (kiL (K := K) rfl (pi_list (pe_slice (slLK (K := K) rfl) (pv 3) po_none (po_some (pe_un un_neg pe_int))))) (pg_name (i := 5) sc_place_of.nd rfl (Or.inl rfl)) (pss_cons (ps_set (i := 6) sc_place_of.nd rfl (Or.inl rfl) (pe_callS G_look (hr.mono (by first | decide | omega)) (by rfl) m_look k_look b_look (fun σ => passAt (takes_of rfl rfl rfl rfl) σ) (pa_cons (pv 4) (pa_cons (pv 5) (pa_cons (pv 2) pa_nil)))))
      (pss_cons (ps_if (pt_not (pt_val (pe_callB (isiK (K := K) rfl) (by rfl) T.n_isinstance (by decide +kernel) (pa_cons (pv 6) (pa_cons (pe_glob (v := .ref C_Module) rfl T.mg_Module rfl) pa_nil))))) (pss_one (ps_raise rfl (takes_of rfl rfl rfl rfl) (pmk_oex X_Fault.ox X_Fault.ic X_Fault.ti G_Fault_init (hr.mono (by first | decide | omega)) b_Fault_init .nil pass0 (by rfl) T.mg_Fault (pa_cons (pe_tup (pa_cons pe_str (pa_cons (kFld (K := K) rfl (pe_fld (pv 4) rfl)) (pa_cons (pv 5) pa_nil)))) pa_nil)))) pss_nil)
      (pss_one (ps_set (i := 4) sc_place_of.nd rfl (Or.inl rfl) (pv 6))))))
      (pss_one (ps_ret (pe_tup (pa_cons (pv 4) (pa_cons (pe_ix (ixLK (K := K) rfl) (pv 3) (pe_un un_neg pe_int) (fun _ _ => rfl)) pa_nil)))))))), ?_⟩
    refine st_start (σ' := [some (.ref o.m), some (.str (Txt.join "." cs)), some (.ref h), none, none, none, none]) rfl ?_
    walk_at "S"
    refine s_splitS (by decide +kernel) (small_le (by omega)) fun p hp => ?_
    rw [split_road nc oc]
    walk_at "S"
    intro l hl
    rw [cut_last1]
    have npl : p ≠ l := ne_of_none upd_same hl
    have k0 : Kp [] H (upd (upd H p (.lst (cs.map V.str))) l (.lst (cs.map V.str).dropLast)) := (Kp.refl.upd_new hp).upd_new hl
    have ep : upd (upd H p (.lst (cs.map V.str))) l (.lst (cs.map V.str).dropLast) p = some (.lst (cs.map V.str)) := (upd_ne npl).trans upd_same
    have el : upd (upd H p (.lst (cs.map V.str))) l (.lst (cs.map V.str).dropLast) l = some (.lst (cs.map V.str).dropLast) := upd_same
    generalize upd (upd H p (.lst (cs.map V.str))) l (.lst (cs.map V.str).dropLast) = H0 at *
    walk_at "S"
    refine ⟨⟨_, sq_l el⟩, ?_⟩
    refine for_go (walk_list (K := K) (a := l) (xs := (cs.map V.str).dropLast)) (fun i σ H1 => ∃ (j' : Nat) (o' : Mo) (o5 o6 : Option V), σ = [some (.ref o.m), some (.str (Txt.join "." cs)), some (.ref h), some (.ref p), some (.ref o'.m), o5, o6] ∧ Kp [] H0 H1 ∧ mos[j']? = some o' ∧ goF mos j cs = goF mos j' (cs.drop i))
      ⟨j, o, _, _, rfl, Kp.refl, ej, rfl⟩ (fun i σ H1 _ I => by obtain ⟨_, _, _, _, _, k, _⟩ := I; exact k.seqL trivial (sq_l el)) (fun i x σ Ha H1 hi I y => ?_) fun σ H1 I => ?_
    · obtain ⟨rfl, hx⟩ := y
      obtain ⟨j', o', o5, o6, rfl, k1, ej', eg⟩ := I
      rw [List.length_dropLast, List.length_map] at hi
      obtain ⟨z, y, r, ez, ed, ed1⟩ := drop_mid (cs := cs) (i := i) (by omega)
      rw [ed] at eg
      have ex : x = V.str z := by
        rw [List.getElem?_dropLast, if_pos (by rw [List.length_map]; omega), List.getElem?_map, ez] at hx
        exact (Option.some.inj hx).symm
      subst ex
      have kk := k0.tr k1
      have W1 := W.same kk
      have mo' := List.mem_of_getElem? ej'
      have ok' := W1.mo o' mo'
      obtain ⟨dx, em⟩ := ok'.md
      walk_at "S"
      refine s_callS ?_
      walk_at "S"
      refine ⟨h, M, F, L, z, zs, mos, o', j', hs, rfl, W1, ej', hd.same kk, ?_⟩
      cases hv : valV (kv1 o'.B) (.inr z) with
      | none =>
        have eg' : goF mos j cs = (false, j', z) := by
          rw [eg]
          simp only [goF, ej', Option.bind_some, hv]
        intro H2 d t k2 hd2 dt
        refine qx H2 d t (kk.tr k2) (by rw [eg']; exact .inr ⟨rfl, o', ej', hv⟩) hd2 ?_
        rw [eg', resD_miss ej']
        exact dt
      | some v =>
        have isM : ∀ {j2 : Nat} {o2 : Mo}, mos[j2]? = some o2 → v = .ref o2.m → goF mos j cs = goF mos j2 (cs.drop (i + 1)) := fun {j2 o2} e2 e => by
          rw [eg, ed1]
          simp only [goF, ej', Option.bind_some, hv, e, nextM_mod W e2]
        have isF : (∀ o ∈ mos, v ≠ .ref o.m) → goF mos j cs = (true, j', z) := fun e => by
          rw [eg]
          simp only [goF, ej', Option.bind_some, hv, nextM_not e]
        have kind : (∀ o ∈ mos, v ≠ .ref o.m) ∧ (∃ t, TyX K H1 v t ∧ PySem.W.kitOne K t (.ref C_Module) = some false) ∨ ∃ (j2 : Nat) (o2 : Mo), mos[j2]? = some o2 ∧ v = .ref o2.m ∧ TyX K H1 v (.ref C_Module) := by
          rcases look_kv z o'.B with ⟨n1, _⟩ | ⟨b, hb, s1, _⟩
          · rw [n1] at hv; cases hv
          rw [s1] at hv
          cases hv
          obtain ⟨tt, kd, _, _, _, th⟩ := ok'.th b hb
          generalize b.2.1 = v at *
          cases th with
          | int => exact .inl ⟨(fun o _ e => by cases e), _, .base (.int _), T.kit_int_Module⟩
          | mod ej2 =>
            obtain ⟨o2, e2, m2, rfl⟩ := base_at ej2
            obtain ⟨dx2, em2⟩ := (W1.mo o2 m2).md
            exact .inr ⟨_, o2, e2, rfl, T.is_Module.ty T.cl_Module em2⟩
          | late ej2 el2 => exact .inl ⟨late_not W1 el2, _, T.is_Late.ty T.cl_Late el2, T.kit_Late_Module⟩
        walk_at "S"
        rcases kind with ⟨nm, t, ty, kt⟩ | ⟨j2, o2, e2, rfl, ty⟩
        · refine isi_own ty kt ?_
          walk_at "S"
          refine s_mkO ?_
          walk_at "S"
          refine s_ins em T.cl_Module T.n_Module_path (lk_path _ _ _) ?_
          walk_at "S"
          refine ⟨small_le (by simp), fun t ht => ?_⟩
          walk_at "S"
          have eg' := isF nm
          refine ⟨by show 1 ≤ 1000; decide, fault_made fun H3 d k3 hd3 => qx _ d t (kk.tr ((Kp.refl.upd_new ht).tr k3)) (by rw [eg']; exact .inl ⟨o', ej', rfl⟩) hd3 ?_⟩
          rw [eg', resD_flat ej']
          exact Dp.same k3 _ _ (.tup (sq_t upd_same) (.cons (.str _) (.cons (.str _) (.cons (.str _) .nil))))
        · refine isi_own ty T.kit_Module_Module ?_
          walk_at "S"
          exact ⟨j2, o2, _, _, rfl, k1, e2, isM e2 rfl⟩
    · obtain ⟨j', o', o5, o6, rfl, k1, ej', eg⟩ := I
      obtain ⟨z, el', ed, ez, mz⟩ := drop_end nc
      obtain ⟨pre, ecs⟩ := List.getLast?_eq_some_iff.mp el'
      rw [List.length_dropLast, List.length_map, ed] at eg
      have ep1 := k1.get trivial ep
      walk_at "S"
      refine s_ixL (sq_l ep1) (by rw [ecs, List.map_append]; exact atI_last _ _ : atI (cs.map V.str) _ = some (.str z)) ?_
      walk_at "S"
      exact ⟨small_le (by simp), fun t ht => q _ t j' o' z ((k0.tr k1).upd_new ht) ej' eg upd_same⟩
theorem ok_follow {f : Addr} {fd : FuncData} (F : Fun K "follow" "follow" s_follow f fd) (T : Txt K mg C_MadeError C_Fault C_Module C_Late)
    (D_place_of : DnX P w K mg base 4 "place_of" ["module", "road", "chain"] (spPlace K C_Module C_Late C_Fault)) (D_look : DnX P w K mg base 3 "look" ["module", "name", "chain"] (spLook K C_Module C_Late C_Fault)) :
    FnOk P w K mg base (L2.CX P w) 5 f fd ["module", "road", "chain"] (spFollow K C_Module C_Late C_Fault) := by
  refine F.okX sc_follow (fun vs H Q E h => ?_) (fun cdv A outer s H vs Q E hr h => ?_)
  · obtain ⟨h, M, F, L, zs, mos, o, j, hs, cs, rfl, _⟩ := h
    rfl
  · obtain ⟨f_place_of, fd_place_of, G_place_of, m_place_of, k_place_of, b_place_of⟩ := D_place_of; obtain ⟨f_look, fd_look, G_look, m_look, k_look, b_look⟩ := D_look
    obtain ⟨h, M, F, L, zs, mos, o, j, hs, cs, rfl, W, ej, hd, nc, oc, lc, q, qx⟩ := h
    refine ⟨_, (pss_cons (ps_asg (pe_callS G_place_of (hr.mono (by first | decide | omega)) (by rfl) m_place_of k_place_of b_place_of (fun σ => passAt (takes_of rfl rfl rfl rfl) σ) (pa_cons (pv 0) (pa_cons (pv 1) (pa_cons (pv 2) pa_nil)))) (kgT (K := K) rfl (pg_tup rfl (pgs_cons (pg_name (i := 3) sc_follow.nd rfl (Or.inl rfl)) (pgs_cons (pg_name (i := 4) sc_follow.nd rfl (Or.inl rfl)) pgs_nil)))))
      (pss_one (ps_ret (pe_callS G_look (hr.mono (by first | decide | omega)) (by rfl) m_look k_look b_look (fun σ => passAt (takes_of rfl rfl rfl rfl) σ) (pa_cons (pv 3) (pa_cons (pv 4) (pa_cons (pv 2) pa_nil))))))), ?_⟩
    refine st_start (σ' := [some (.ref o.m), some (.str (Txt.join "." cs)), some (.ref h), none, none]) rfl ?_
    walk_at "S"
    refine s_callS ?_
    walk_at "S"
    refine ⟨h, M, F, L, zs, mos, o, j, hs, cs, rfl, W, ej, hd, nc, oc, lc, fun H1 t j' o' z k1 ej' eg et => ?_, qx⟩
    walk_at "S"
    refine s_callS ?_
    walk_at "S"
    refine ⟨h, M, F, L, z, zs, mos, o', j', hs, rfl, W.same k1, ej', hd.same k1, ?_⟩
    cases hv : valV (kv1 o'.B) (.inr z) with
    | none =>
      intro H2 d t k2 hd2 dt
      refine qx H2 d t (k1.tr k2) (by rw [eg]; exact .inr ⟨rfl, o', ej', hv⟩) hd2 ?_
      rw [eg, resD_miss ej']
      exact dt
    | some v => exact q H1 v k1 (by rw [eg]; exact ⟨rfl, o', ej', hv⟩)
theorem ok_asked {f : Addr} {fd : FuncData} (F : Fun K "asked" "asked" s_asked f fd) (T : Txt K mg C_MadeError C_Fault C_Module C_Late)
    (D_follow : DnX P w K mg base 5 "follow" ["module", "road", "chain"] (spFollow K C_Module C_Late C_Fault)) :
    FnOk P w K mg base (L2.CX P w) 6 f fd ["late", "chain"] (spAsked K C_Module C_Late C_Fault) := by
  refine F.okX sc_asked (fun vs H Q E h => ?_) (fun cdv A outer s H vs Q E hr h => ?_)
  · obtain ⟨l, dl, h, M, F, L, zs, mos, o, j, hs, cs, rfl, _⟩ := h
    rfl
  · obtain ⟨f_follow, fd_follow, G_follow, m_follow, k_follow, b_follow⟩ := D_follow
    obtain ⟨l, dl, h, M, F, L, zs, mos, o, j, hs, cs, rfl, hl, W, ej, hd, nc, oc, lc, q, qx⟩ := h
    refine ⟨_, (pss_one (ps_ret (pe_callS G_follow (hr.mono (by first | decide | omega)) (by rfl) m_follow k_follow b_follow (fun σ => passAt (takes_of rfl rfl rfl rfl) σ) (pa_cons (kFld (K := K) rfl (pe_fld (pv 0) rfl)) (pa_cons (kFld (K := K) rfl (pe_fld (pv 0) rfl)) (pa_cons (pv 1) pa_nil)))))), ?_⟩
    refine st_start (σ' := [some (.ref l), some (.ref h)]) rfl ?_
    walk_at "S"
    refine s_callS ?_
    walk_at "S"
    refine s_ins hl T.cl_Late T.n_Late_home (lk_home _ _) ?_
    walk_at "S"
    refine s_ins hl T.cl_Late T.n_Late_road (lk_road _ _) ?_
    walk_at "S"
    exact ⟨h, M, F, L, zs, mos, o, j, hs, cs, rfl, W, ej, hd, nc, oc, lc, q, qx⟩
end

def spIsThe (CM CL : Addr) : Sp := fun vs H Q _ => ∃ (v : V) (tt M F L : Addr) (zs : List Str) (mos : List Mo) (kd : Kd), vs = [v, .ref tt, .ref F, .ref L] ∧ Wd CM CL H M F L zs mos ∧ H tt = some (.tup kd.vs) ∧ KdOk mos.length zs kd ∧ ThingIs CL H (bases mos) v kd ∧
  ∀ H', Kp [] H H' → Q (.bl true) H'
theorem Wd.Fb {CM CL : Addr} {H : Hp} {M F L : Addr} {zs : List Str} {mos : List Mo} (W : Wd CM CL H M F L zs mos) : H F = some (.lst (((bases mos).map (·.2)).map fun f : Fact => V.ref f.1)) := by rw [List.map_map, List.map_map]; exact W.F
theorem Wd.fo {CM CL : Addr} {H : Hp} {M F L : Addr} {zs : List Str} {mos : List Mo} (W : Wd CM CL H M F L zs mos) : ∀ f ∈ (bases mos).map (·.2), FactOk H f := fun f hf => by
  obtain ⟨b, hb, rfl⟩ := List.mem_map.mp hf
  obtain ⟨o', ho, rfl⟩ := List.mem_map.mp hb
  exact (W.mo o' ho).fo
theorem blen (mos : List Mo) : ((bases mos).map (·.2)).length = mos.length := by rw [List.length_map, List.length_map]
theorem bAt {mos : List Mo} {j : Nat} {o : Mo} (h : mos[j]? = some o) : ((bases mos).map (·.2))[j]? = some o.bs.2 := by rw [List.getElem?_map, List.getElem?_map, h]; rfl
section
variable {P : Program} {w : World} {K : PySem.W.Frag} {mg : Str → Option Value} {base : Heap} {C_MadeError C_Fault C_Module C_Late : Addr}
theorem ok_is_the {f : Addr} {fd : FuncData} (F : Fun K "_law_is_the" "_law_is_the" s_l_is_the f fd) (T : Txt K mg C_MadeError C_Fault C_Module C_Late)
    (D_told : DnF P w K mg base 1 "told" ["thing"] (spTold C_Module C_Late)) (D_l_told : DnF P w K mg base 1 "_law_told" ["_law_facts_here", "_law_kind_here"] spToldL)
    (D_Module_bound : DmF P w K mg base 1 C_Module "bound" ["self"] (spBound C_Module)) :
    FnG P w K mg base 2 f fd ["_law_thing", "_law_kind_here", "_law_facts_here", "_law_models"] (spIsThe C_Module C_Late) := by
  refine fnG_of F sc_l_is_the (fun vs H Q E h => ?_) (fun cdv A outer s H vs Q E hG hr h => ?_)
  · obtain ⟨v, tt, M, F, L, zs, mos, kd, rfl, _⟩ := h
    rfl
  · obtain ⟨f_told, fd_told, G_told, m_told, k_told, b_told⟩ := D_told; obtain ⟨f_l_told, fd_l_told, G_l_told, m_l_told, k_l_told, b_l_told⟩ := D_l_told; obtain ⟨f_Module_bound, fd_Module_bound, G_Module_bound, mt_Module_bound, b_Module_bound⟩ := D_Module_bound
    obtain ⟨v, tt, M, F, L, zs, mos, kd, rfl, W, htt, kok, th, q⟩ := h
    refine ⟨_, (pss_cons (ps_if (pt_cmpR op_ne (pe_callB (reprAK (K := K) rfl hG hr.units) (by rfl) T.n_repr (by decide +kernel) (pa_cons (pe_call G_told (hr.mono (by first | decide | omega)) (by rfl) m_told k_told b_told .nil pass0 (pa_cons (pv 0) pa_nil)) pa_nil)) (pe_callB (reprAK (K := K) rfl hG hr.units) (by rfl) T.n_repr (by decide +kernel) (pa_cons (pe_call G_l_told (hr.mono (by first | decide | omega)) (by rfl) m_l_told k_l_told b_l_told .nil pass0 (pa_cons (pv 2) (pa_cons (pv 1) pa_nil))) pa_nil)) (nomark _)) (pss_one (ps_ret pe_bl)) pss_nil)
      (pss_cons (ps_if (pt_cmpR op_eq (pe_ix (ixTK (K := K) rfl) (pv 1) pe_int (fun _ _ => rfl)) pe_int (nomark _)) (pss_cons (ps_set (i := 4) sc_l_is_the.nd rfl (Or.inl rfl) (pe_and (pe_callB (isiK (K := K) rfl) (by rfl) T.n_isinstance (by decide +kernel) (pa_cons (pv 0) (pa_cons (pe_glob (v := .ref C_Module) rfl T.mg_Module rfl) pa_nil))) (pe_one (pe_cmpR (eqDK (K := K) rfl hr.units) (pe_tup (pa_cons (kFld (K := K) rfl (pe_fld (pv 0) rfl)) (pa_cons (kFld (K := K) rfl (pe_fld (pv 0) rfl)) pa_nil))) (pe_ix (ixLK (K := K) rfl) (pv 2) (pe_ix (ixTK (K := K) rfl) (pv 1) pe_int (fun _ _ => rfl)) (fun _ _ => rfl)) (nomark _)))))
      (pss_one (ps_ret (pe_and (pv 4) (pe_one (pe_cmpR (eqDK (K := K) rfl hr.units) (pe_meth0 (pv 0) T.cl_Module mt_Module_bound G_Module_bound (hr.mono (by first | decide | omega)) b_Module_bound .nil pass0) (pe_callB (call_sortedD rfl) (by rfl) T.n_sorted (by decide +kernel) (pa_cons (pe_ix (ixLK (K := K) rfl) (pv 3) (pe_ix (ixTK (K := K) rfl) (pv 1) pe_int (fun _ _ => rfl)) (fun _ _ => rfl)) pa_nil)) (nomark _))))))) pss_nil)
      (pss_cons (ps_if (pt_cmpR op_eq (pe_ix (ixTK (K := K) rfl) (pv 1) pe_int (fun _ _ => rfl)) pe_int (nomark _)) (pss_cons (ps_set (i := 4) sc_l_is_the.nd rfl (Or.inl rfl) (pe_and (pe_callB (isiK (K := K) rfl) (by rfl) T.n_isinstance (by decide +kernel) (pa_cons (pv 0) (pa_cons (pe_glob (v := .ref C_Late) rfl T.mg_Late rfl) pa_nil))) (pe_one (pe_cmpR op_eq (kFld (K := K) rfl (pe_fld (pv 0) rfl)) (pe_ix (ixTK (K := K) rfl) (pv 1) pe_int (fun _ _ => rfl)) (nomark _)))))
      (pss_one (ps_ret (pe_and (pv 4) (pe_one (pe_cmpR (eqDK (K := K) rfl hr.units) (pe_tup (pa_cons (kFld (K := K) rfl (pe_fld (kFld (K := K) rfl (pe_fld (pv 0) rfl)) rfl)) (pa_cons (kFld (K := K) rfl (pe_fld (kFld (K := K) rfl (pe_fld (pv 0) rfl)) rfl)) pa_nil))) (pe_ix (ixLK (K := K) rfl) (pv 2) (pe_ix (ixTK (K := K) rfl) (pv 1) pe_int (fun _ _ => rfl)) (fun _ _ => rfl)) (nomark _))))))) pss_nil)
      (pss_one (ps_ret (pe_not (pe_callB (isiTK (K := K) rfl) (by rfl) T.n_isinstance (by decide +kernel) (pa_cons (pv 0) (pa_cons (pe_tup (pa_cons (pe_glob (v := .ref C_Module) rfl T.mg_Module rfl) (pa_cons (pe_glob (v := .ref C_Late) rfl T.mg_Late rfl) pa_nil))) pa_nil))))))))), ?_⟩
    refine st_start (σ' := [some v, some (.ref tt), some (.ref F), some (.ref L), none]) rfl ?_
    walk_at "S"
    cases th with
    | int =>
      rename_i n
      have hn : n.natAbs < 10 ^ 60 := by cases kok; assumption
      refine .inl ⟨n, rfl, ?_⟩
      walk_at "S"
      refine .inl ⟨n, rfl, log60 hn, ?_⟩
      walk_at "S"
      refine ⟨F, tt, _, zs, .int n, rfl, W.Fb, W.fo, htt, .int hn, ?_⟩
      walk_at "S"
      refine .inl ⟨n, rfl, log60 hn, ?_⟩
      walk_at "S"
      refine s_ndec (fun h => absurd rfl h) (fun _ => ?_)
      walk_at "S"
      refine s_dec (fun h => absurd (V.int.inj h) (by decide)) (fun _ => ?_)
      walk_at "S"
      refine s_dec (fun h => absurd (V.int.inj h) (by decide)) (fun _ => ?_)
      walk_at "S"
      refine ⟨small_le (by simp), fun t ht => ?_⟩
      walk_at "S"
      refine s_isiT2 upd_same (.base (.int n)) T.kit_int_Module T.kit_int_Late ?_
      walk_at "S"
      exact q _ (Kp.refl.upd_new ht)
    | mod ej =>
      rename_i j b
      obtain ⟨o, eo, mo, rfl⟩ := base_at ej
      have ok := W.mo o mo
      obtain ⟨dx, em⟩ := ok.md
      have hn : o.n.natAbs < 10 ^ 60 := ok.fo.pos
      refine .inr (.inl ⟨o.m, dx, o.d, o.n, o.q, rfl, em, fun u hu => ?_⟩)
      have k0 : Kp [] H (upd H u (.tup [.str "module", .int o.n])) := Kp.refl.upd_new hu
      have eu : upd H u (.tup [.str "module", .int o.n]) u = some (.tup [.str "module", .int o.n]) := upd_same
      have W0 := W.same k0
      have htt0 := k0.get trivial htt
      generalize upd H u (.tup [.str "module", .int o.n]) = H0 at *
      walk_at "S"
      refine rep_mod eu hn ?_
      walk_at "S"
      refine ⟨F, tt, _, zs, .mod j, rfl, W0.Fb, W0.fo, htt0, by rw [blen]; exact kok, fun f u1 ef hu1 => ?_⟩
      rw [bAt eo] at ef
      cases ef
      have k1 : Kp [] H (upd H0 u1 (.tup [.str "module", .int o.bs.2.2.1])) := k0.upd_new hu1
      have eu1 : upd H0 u1 (.tup [.str "module", .int o.bs.2.2.1]) u1 = some (.tup [.str "module", .int o.n]) := upd_same
      generalize upd H0 u1 (.tup [.str "module", .int o.bs.2.2.1]) = H1 at *
      have W1 := W.same k1
      have htt1 := k1.get trivial htt
      have ok1 := W1.mo o mo
      obtain ⟨dx1, em1⟩ := ok1.md
      walk_at "S"
      refine rep_mod eu1 hn ?_
      walk_at "S"
      refine s_ndec (fun h => absurd rfl h) (fun _ => ?_)
      walk_at "S"
      refine s_dec (fun _ => ?_) (fun h => absurd rfl h)
      walk_at "S"
      refine isi_own (T.is_Module.ty T.cl_Module em1) T.kit_Module_Module ?_
      walk_at "S"
      refine s_ins em1 T.cl_Module T.n_Module_number (lk_num _ _ _) ?_
      walk_at "S"
      refine s_ins em1 T.cl_Module T.n_Module_path (lk_path _ _ _) ?_
      walk_at "S"
      refine ⟨small_le (by simp), fun u2 hu2 => ?_⟩
      have k2 := k1.upd_new (o := .tup [.int o.n, .str o.q]) hu2
      have eu2 : upd H1 u2 (.tup [.int o.n, .str o.q]) u2 = some (.tup [.int o.n, .str o.q]) := upd_same
      generalize upd H1 u2 (.tup [.int o.n, .str o.q]) = H2 at *
      have W2 := W.same k2
      have htt2 := k2.get trivial htt
      walk_at "S"
      refine s_ixL (sq_l W2.F) (atI_nat (by rw [List.getElem?_map, eo]; rfl) : atI _ ((j : Nat) : Int) = some (.ref o.t)) ?_
      walk_at "S"
      refine eq_pair eu2 (W2.mo o mo).fo.at_ ok.fo.road.ok ?_
      walk_at "S"
      have ok2 := W2.mo o mo
      obtain ⟨dx2, em2⟩ := ok2.md
      have bn := ok2.few
      have zl := W.zl
      have kok' : ∀ z ∈ o.B.map (·.1), OkN z := fun z hz => by
        obtain ⟨b, hb, rfl⟩ := List.mem_map.mp hz
        exact W.zok _ (ok2.ks b hb)
      refine s_insM em2 (lk_meth (m := "bound") _ _ _ (by decide +kernel)) ?_
      walk_at "S"
      refine ⟨o.m, o.d, o.n, o.q, kv1 o.B, o.B.map (·.1), rfl, ok2.at_, kv1_keys _, by rw [List.length_map]; omega, fun ys l1 py sy hl1 => ?_⟩
      have k3 := k2.upd_new (o := .lst (ys.map V.str)) hl1
      have el3 : upd H2 l1 (.lst (ys.map V.str)) l1 = some (.lst (ys.map V.str)) := upd_same
      generalize upd H2 l1 (.lst (ys.map V.str)) = H3 at *
      have W3 := W.same k3
      have htt3 := k3.get trivial htt
      walk_at "S"
      refine s_ixL (sq_l W3.L) (atI_nat (by rw [List.getElem?_map, eo]; rfl) : atI _ ((j : Nat) : Int) = some (.ref o.e)) ?_
      walk_at "S"
      refine ⟨o.e, kv2 o.B, o.B.map (·.1), rfl, .inl (W3.mo o mo).e, kv2_keys _, by rw [List.length_map]; omega, fun ys2 l2 py2 sy2 hl2 => ?_⟩
      obtain rfl := sorted_eq py sy py2 sy2
      refine eq_strs (zs := ys) ((upd_ne (ne_of_none el3 hl2)).trans el3) upd_same (fun z hz => kok' z (py.mem_iff.mp hz)) ?_
      exact q _ (k3.upd_new hl2)
    | late ej el =>
      rename_i j b l dl r
      obtain ⟨o, eo, mo, rfl⟩ := base_at ej
      have ok := W.mo o mo
      obtain ⟨dx, em⟩ := ok.md
      have hn : o.n.natAbs < 10 ^ 60 := ok.fo.pos
      have okr : OkR r := by cases kok; assumption
      refine .inr (.inr ⟨l, dl, o.m, dx, o.d, o.n, o.q, r, rfl, el, em, fun u hu => ?_⟩)
      have k0 : Kp [] H (upd H u (.tup [.str "function", .int o.n, .str r])) := Kp.refl.upd_new hu
      have eu : upd H u (.tup [.str "function", .int o.n, .str r]) u = some (.tup [.str "function", .int o.n, .str r]) := upd_same
      have W0 := W.same k0
      have htt0 := k0.get trivial htt
      generalize upd H u (.tup [.str "function", .int o.n, .str r]) = H0 at *
      walk_at "S"
      refine rep_fun eu hn okr ?_
      walk_at "S"
      refine ⟨F, tt, _, zs, .late j r, rfl, W0.Fb, W0.fo, htt0, by rw [blen]; exact kok, fun f u1 ef hu1 => ?_⟩
      rw [bAt eo] at ef
      cases ef
      have k1 : Kp [] H (upd H0 u1 (.tup [.str "function", .int o.bs.2.2.1, .str r])) := k0.upd_new hu1
      have eu1 : upd H0 u1 (.tup [.str "function", .int o.bs.2.2.1, .str r]) u1 = some (.tup [.str "function", .int o.n, .str r]) := upd_same
      generalize upd H0 u1 (.tup [.str "function", .int o.bs.2.2.1, .str r]) = H1 at *
      have W1 := W.same k1
      have htt1 := k1.get trivial htt
      have ok1 := W1.mo o mo
      obtain ⟨dx1, em1⟩ := ok1.md
      have el1 := k1.get trivial el
      walk_at "S"
      refine rep_fun eu1 hn okr ?_
      walk_at "S"
      refine s_ndec (fun h => absurd rfl h) (fun _ => ?_)
      walk_at "S"
      refine s_dec (fun h => absurd (V.int.inj h) (by decide)) (fun _ => ?_)
      walk_at "S"
      refine s_dec (fun _ => ?_) (fun h => absurd rfl h)
      walk_at "S"
      refine isi_own (T.is_Late.ty T.cl_Late el1) T.kit_Late_Late ?_
      walk_at "S"
      refine s_ins el1 T.cl_Late T.n_Late_road (lk_road _ _) ?_
      walk_at "S"
      refine s_dec (fun _ => ?_) (fun h => absurd rfl h)
      walk_at "S"
      refine s_ins el1 T.cl_Late T.n_Late_home (lk_home _ _) ?_
      walk_at "S"
      refine s_ins em1 T.cl_Module T.n_Module_number (lk_num _ _ _) ?_
      walk_at "S"
      refine s_ins el1 T.cl_Late T.n_Late_home (lk_home _ _) ?_
      walk_at "S"
      refine s_ins em1 T.cl_Module T.n_Module_path (lk_path _ _ _) ?_
      walk_at "S"
      refine ⟨small_le (by simp), fun u2 hu2 => ?_⟩
      have k2 := k1.upd_new (o := .tup [.int o.n, .str o.q]) hu2
      have W2 := W.same k2
      have htt2 := k2.get trivial htt
      walk_at "S"
      refine s_ixL (sq_l W2.F) (atI_nat (by rw [List.getElem?_map, eo]; rfl) : atI _ ((j : Nat) : Int) = some (.ref o.t)) ?_
      walk_at "S"
      refine eq_pair upd_same (W2.mo o mo).fo.at_ ok.fo.road.ok ?_
      exact q _ k2
end

theorem fault_show {q z : Str} {r : List (Str × Nat)} (hq : OkL (tl q)) (lq : q.length ≤ 35) (hz : OkN z) (hr : ∀ p ∈ r, OkL (tl p.1) ∧ p.1.length ≤ 35 ∧ p.2 < 40) (lr : r.length ≤ 20) : ShowOk (faultD q z r) 5000 5 := by
  have sq : ShowOk (.str q) 40 4 := by
    have s := ShowOk.str (k := 4) hq
    exact ⟨s.sh, s.ok, s.nd, s.dp, Nat.le_trans s.bk (by omega)⟩
  have sz : ShowOk (.str z) 40 4 := by
    have s := ShowOk.str (k := 4) hz.ok
    have := hz.len
    exact ⟨s.sh, s.ok, s.nd, s.dp, Nat.le_trans s.bk (by omega)⟩
  have w1 : ShowOk (.str "NONAME") 40 4 := by
    have s := ShowOk.str (z := "NONAME") (k := 4) (show ∀ c ∈ tl ("NONAME" : Str), c < 1114112 by decide +kernel)
    exact ⟨s.sh, s.ok, s.nd, s.dp, Nat.le_trans s.bk (by decide +kernel)⟩
  have w2 : ShowOk (.str "HALF") 40 4 := by
    have s := ShowOk.str (z := "HALF") (k := 4) (show ∀ c ∈ tl ("HALF" : Str), c < 1114112 by decide +kernel)
    exact ⟨s.sh, s.ok, s.nd, s.dp, Nat.le_trans s.bk (by decide +kernel)⟩
  have one : ∀ p ∈ r, ShowOk (.tuple [.str p.1, .int (p.2 : Nat)]) 40 3 := fun p hp => by
    obtain ⟨h1, h2, h3⟩ := hr p hp
    have s := ShowOk.str (k := 2) h1
    have i := ShowOk.int (n := (p.2 : Nat)) (k := 2) (by omega)
    refine ShowOk.tup (fun x hx => ?_) ?_
    · simp only [List.mem_cons, List.not_mem_nil, or_false] at hx
      rcases hx with rfl | rfl
      · exact ⟨_, s⟩
      · exact ⟨_, i⟩
    · have a := s.bk
      have b := i.bk
      simp only [PyData.bulkAll]
      omega
  have rg : ShowOk (ringD r) 1000 4 := by
    refine ShowOk.tup (fun x hx => ?_) ?_
    · obtain ⟨p, hp, rfl⟩ := List.mem_map.mp hx
      exact ⟨_, one p hp⟩
    · have b := bulk_all (xs := r.map fun p => PyData.tuple [.str p.1, .int (p.2 : Nat)]) (n := 40) fun x hx => by
        obtain ⟨p, hp, rfl⟩ := List.mem_map.mp hx
        exact (one p hp).bk
      rw [List.length_map] at b
      omega
  unfold faultD faultP
  split
  · refine ShowOk.tup (fun x hx => ?_) ?_
    · simp only [List.mem_cons, List.not_mem_nil, or_false] at hx
      rcases hx with rfl | rfl | rfl
      · exact ⟨_, w1⟩
      · exact ⟨_, sq⟩
      · exact ⟨_, sz⟩
    · have a := w1.bk
      have b := sq.bk
      have c := sz.bk
      simp only [PyData.bulkAll]
      omega
  · refine ShowOk.tup (fun x hx => ?_) ?_
    · simp only [List.mem_cons, List.not_mem_nil, or_false] at hx
      rcases hx with rfl | rfl | rfl | rfl
      · exact ⟨_, w2⟩
      · exact ⟨_, sq⟩
      · exact ⟨_, sz⟩
      · exact ⟨_, rg⟩
    · have a := w2.bk
      have b := sq.bk
      have c := sz.bk
      have d := rg.bk
      simp only [PyData.bulkAll]
      omega
def spAgrees (K : PySem.W.Frag) (CM CL : Addr) : Sp := fun vs H Q _ => ∃ a u F L : Addr, vs = [.ref a, .ref u, .ref F, .ref L] ∧
  ((∃ (M : Addr) (zs : List Str) (mos : List Mo) (v : V) (tt : Addr) (kd : Kd), Wd CM CL H M F L zs mos ∧ H a = some (.tup [.str "thing", v]) ∧ H u = some (.tup [.str "thing", .ref tt]) ∧ H tt = some (.tup kd.vs) ∧ KdOk mos.length zs kd ∧ ThingIs CL H (bases mos) v kd ∧ ∀ H', Kp [] H H' → Q (.bl true) H') ∨
   ∃ (t1 t2 : Addr) (ps : List PyData), H a = some (.tup [.str "fault", .ref t1]) ∧ H u = some (.tup [.str "fault", .ref t2]) ∧ Dp K H (.ref t1) (.tuple ps) ∧ Dp K H (.ref t2) (.tuple ps) ∧ ShowOk (.tuple ps) 5000 5 ∧ Q (.bl true) H)
section
variable {P : Program} {w : World} {K : PySem.W.Frag} {mg : Str → Option Value} {base : Heap} {C_MadeError C_Fault C_Module C_Late : Addr}
theorem ok_agrees {f : Addr} {fd : FuncData} (F : Fun K "_law_agrees" "_law_agrees" s_l_agrees f fd) (T : Txt K mg C_MadeError C_Fault C_Module C_Late)
    (D_l_is_the : DnG P w K mg base 2 "_law_is_the" ["_law_thing", "_law_kind_here", "_law_facts_here", "_law_models"] (spIsThe C_Module C_Late)) :
    FnG P w K mg base 3 f fd ["_law_said_here", "_law_due_here", "_law_facts_here", "_law_models"] (spAgrees K C_Module C_Late) := by
  refine fnG_of F sc_l_agrees (fun vs H Q E h => ?_) (fun cdv A outer s H vs Q E hG hr h => ?_)
  · obtain ⟨a, u, F, L, rfl, _⟩ := h
    rfl
  · obtain ⟨f_l_is_the, fd_l_is_the, G_l_is_the, m_l_is_the, k_l_is_the, b_l_is_the⟩ := D_l_is_the
    obtain ⟨a, u, F, L, rfl, h⟩ := h
    refine ⟨_, (pss_cons (ps_if (pt_cmpR op_ne (pe_ix (ixTK (K := K) rfl) (pv 0) pe_int (fun _ _ => rfl)) (pe_ix (ixTK (K := K) rfl) (pv 1) pe_int (fun _ _ => rfl)) (nomark _)) (pss_one (ps_ret pe_bl)) pss_nil)
      (pss_cons (ps_if (pt_cmpR op_eq (pe_ix (ixTK (K := K) rfl) (pv 1) pe_int (fun _ _ => rfl)) pe_str (nomark _)) (pss_one (ps_ret (pe_cmpR op_eq (pe_callB (reprAK (K := K) rfl hG hr.units) (by rfl) T.n_repr (by decide +kernel) (pa_cons (pe_ix (ixTK (K := K) rfl) (pv 0) pe_int (fun _ _ => rfl)) pa_nil)) (pe_callB (reprAK (K := K) rfl hG hr.units) (by rfl) T.n_repr (by decide +kernel) (pa_cons (pe_ix (ixTK (K := K) rfl) (pv 1) pe_int (fun _ _ => rfl)) pa_nil)) (nomark _)))) pss_nil)
      (pss_one (ps_ret (pe_callG G_l_is_the hG (hr.mono (by first | decide | omega)) (by rfl) m_l_is_the k_l_is_the b_l_is_the .nil (pa_cons (pe_ix (ixTK (K := K) rfl) (pv 0) pe_int (fun _ _ => rfl)) (pa_cons (pe_ix (ixTK (K := K) rfl) (pv 1) pe_int (fun _ _ => rfl)) (pa_cons (pv 2) (pa_cons (pv 3) pa_nil))))))))), ?_⟩
    refine st_start (σ' := [some (.ref a), some (.ref u), some (.ref F), some (.ref L)]) rfl ?_
    walk_at "S"
    rcases h with ⟨M, zs, mos, v, tt, kd, W, ha, hu, ht, kok, th, q⟩ | ⟨t1, t2, ps, ha, hu, d1, d2, sh, q⟩
    · walk_at "S"
      refine s_ndec (fun h => absurd rfl h) (fun _ => ?_)
      walk_at "S"
      refine s_dec (fun h => absurd h (by decide +kernel)) (fun _ => ?_)
      walk_at "S"
      exact ⟨v, tt, M, F, L, zs, mos, kd, rfl, W, ht, kok, th, q⟩
    · walk_at "S"
      refine s_ndec (fun h => absurd rfl h) (fun _ => ?_)
      walk_at "S"
      refine s_dec (fun _ => ?_) (fun h => absurd rfl h)
      walk_at "S"
      refine .inr (rep_show d1 (sh.weak (Nat.le_refl _) (by decide)) (by decide) ?_)
      walk_at "S"
      refine .inr (rep_show d2 (sh.weak (Nat.le_refl _) (by decide)) (by decide) ?_)
      exact s_eq rfl (by rw [decide_eq_true rfl]; exact q)
end

theorem Wd.potK {CM CL : Addr} {H H' : Hp} {M F L p : Addr} {zs : List Str} {mos : List Mo} (W : Wd CM CL H M F L zs mos) (hp : PotOk H p) (k : Kp (Dcts mos) H H') : PotOk H' p := by
  obtain ⟨s, e⟩ := id hp
  exact hp.kp k (W.nin e)
structure MdNew (CM : Addr) (H : Hp) (o : Md) : Prop where
  md : ∃ dx, H o.1 = some (.ins CM dx (modF o.2.2.2.1 o.2.2.2.2 o.2.1))
  d : H o.2.1 = some (.dK [])
  fo : FactOk H o.2.2
def mdBs (o : Md) : Bs := (o.1, o.2.2)
def spWeb (CM CL : Addr) : Sp := fun vs H Q _ => ∃ (p F N M : Addr) (os : List Md) (zs : List Str), vs = [.ref p, .ref F, .ref N, .ref M] ∧ PotOk H p ∧ H M = some (.lst (os.map fun o : Md => V.ref o.1)) ∧ H F = some (.lst (os.map fun o : Md => V.ref o.2.2.1)) ∧
  (∀ o ∈ os, MdNew CM H o) ∧ (os.map (·.2.1)).Nodup ∧ (os.map (·.1)).Nodup ∧ os ≠ [] ∧ os.length ≤ 20 ∧ H N = some (.lst (zs.map V.str)) ∧ (∀ z ∈ zs, OkN z) ∧ zs ≠ [] ∧ zs.length ≤ 20 ∧
  ∀ H' L mos, PotOk H' p → H L = none → Wd CM CL H' M F L zs mos → Kp (p :: os.map (·.2.1)) H H' → TIK H H' → bases mos = os.map mdBs → (∀ o ∈ mos, o.d ∈ os.map (·.2.1) ∧ H o.e = none) → Q (.ref L) H'
section
variable {P : Program} {w : World} {K : PySem.W.Frag} {mg : Str → Option Value} {base : Heap} {C_MadeError C_Fault C_Module C_Late : Addr}
theorem ok_web {f : Addr} {fd : FuncData} (F : Fun K "_law_web" "_law_web" s_l_web f fd) (T : Txt K mg C_MadeError C_Fault C_Module C_Late)
    (D_l_draw : DnF P w K mg base 1 "_law_draw" ["_law_pot_here", "_law_room"] spDraw) (D_l_kind : DnF P w K mg base 3 "_law_kind" ["_law_pot_here", "_law_facts_here", "_law_names_here"] spKind)
    (D_l_bound : DnF P w K mg base 3 "_law_bound" ["_law_modules", "_law_models", "_law_which", "_law_name_here", "_law_kind_here"] (spBoundL C_Module C_Late)) :
    FnOk P w K mg base CX0 4 f fd ["_law_pot_here", "_law_facts_here", "_law_names_here", "_law_modules"] (spWeb C_Module C_Late) := by
  refine F.ok sc_l_web (fun vs H Q E h => ?_) (fun cdv A outer s H vs Q E hr h => ?_)
  · obtain ⟨p, F, N, M, os, zs, rfl, _⟩ := h
    rfl
  · obtain ⟨f_l_draw, fd_l_draw, G_l_draw, m_l_draw, k_l_draw, b_l_draw⟩ := D_l_draw; obtain ⟨f_l_bound, fd_l_bound, G_l_bound, m_l_bound, k_l_bound, b_l_bound⟩ := D_l_bound; obtain ⟨f_l_kind, fd_l_kind, G_l_kind, m_l_kind, k_l_kind, b_l_kind⟩ := D_l_kind
    obtain ⟨p, F, N, M, os, zs, rfl, hp, hM, hF, mo0, nd, nm, ne, nf, hN, hz, nz, zl, q⟩ := h
    have lo := List.length_pos_iff.mpr ne
    refine ⟨_, (pss_cons (ps_setLc (i := 4) (own := [("_law_fact", 7)]) (g := gName 7) (tt := tYes) rfl sc_l_web.nd rfl rfl (sw_true rfl rfl rfl (by decide +kernel)) (kiL (K := K) rfl (pi_list (pv 1))) (blkOk_by (own := [("_law_fact", 7)]) (N := N_l_web) (sc := (defScope s_l_web)) (by decide +kernel)) (fun _ _ _ _ _ => (pg_name (i := 7) sc_l_web.nd rfl (Or.inl rfl))) (fun _ _ _ _ _ => pts_nil) (fun _ _ _ _ _ => pe_dnewK))
      (pss_cons (ps_for PassesOwn.never rfl (pi_range1 rfl T.n_range (pa_cons (pe_callB (lenK (K := K) rfl) (by rfl) T.n_len (by decide +kernel) (pa_cons (pv 1) pa_nil)) pa_nil)) (pg_name (i := 5) sc_l_web.nd rfl (Or.inl rfl)) (pss_one (ps_for PassesOwn.never rfl (kiL (K := K) rfl (pi_list (pv 2))) (pg_name (i := 6) sc_l_web.nd rfl (Or.inl rfl)) (pss_one (ps_if (pt_cmpR op_gt (pe_call G_l_draw (hr.mono (by first | decide | omega)) (by rfl) m_l_draw k_l_draw b_l_draw .nil pass0 (pa_cons (pv 0) (pa_cons pe_int pa_nil))) pe_int (nomark _)) (pss_one (ps_expr (pe_call G_l_bound (hr.mono (by first | decide | omega)) (by rfl) m_l_bound k_l_bound b_l_bound .nil pass0 (pa_cons (pv 3) (pa_cons (pv 4) (pa_cons (pv 5) (pa_cons (pv 6) (pa_cons (pe_call G_l_kind (hr.mono (by first | decide | omega)) (by rfl) m_l_kind k_l_kind b_l_kind .nil pass0 (pa_cons (pv 0) (pa_cons (pv 1) (pa_cons (pv 2) pa_nil)))) pa_nil)))))))) pss_nil)))))
      (pss_one (ps_ret (pv 4))))), ?_⟩
    refine st_start (σ' := [some (.ref p), some (.ref F), some (.ref N), some (.ref M), none, none, none, none]) rfl ?_
    walk_at "S"
    refine ⟨⟨_, sq_l hF⟩, fun L hL => ?_⟩
    refine lc_goH (walk_list (K := K) (a := F) (xs := os.map fun o : Md => V.ref o.2.2.1)) (PL := fun i xs H' => ∃ es : List Addr, xs = es.map V.ref ∧ es.length = i ∧ es.Nodup ∧ ∀ e ∈ es, H' e = some (.dK []) ∧ H e = none) (W := []) hL
      ⟨[], rfl, rfl, .nil, by simp⟩ (fun H8 k8 => k8.seqL trivial (sq_l hF)) (fun i x H8 H' hi I y => ?_) fun H8 I => ?_
    · obtain ⟨rfl, hx⟩ := y
      rw [List.length_map] at hi
      obtain ⟨xs, ex, ⟨es, rfl, g1, g2, g3⟩, lx, k8⟩ := I
      walk_at "S"
      refine ⟨rfl, ?_⟩
      walk_at "S"
      intro e he
      have nLe : L ≠ e := ne_of_none ex he
      refine LcInvH.put ex lx k8 hL trivial (Kp.refl.upd_new he) (small_lt (by omega)) ⟨es ++ [e], by simp, by simp [g1], List.nodup_append.mpr ⟨g2, List.pairwise_singleton _ _, fun a ha b hb q => ?_⟩, fun b hb => ?_⟩
      · have := (g3 a ha).1
        rw [q, List.mem_singleton.mp hb, he] at this
        cases this
      · have exD : upd H' e (.dK []) L = some (.lst (es.map V.ref)) := (upd_ne nLe).trans ex
        rcases List.mem_append.mp hb with hb | hb
        · have w := (g3 b hb).1
          have nbe : b ≠ e := ne_of_none w he
          refine ⟨(upd_ne (fun q => by rw [q, ex] at w; cases w)).trans ((upd_ne nbe).trans w), (g3 b hb).2⟩
        · rw [List.mem_singleton.mp hb]
          exact ⟨(upd_ne nLe.symm).trans upd_same, k8.free trivial he⟩
    obtain ⟨_, eL, ⟨es, rfl, g1, g2, g3⟩, _, k8⟩ := I
    rw [List.length_map] at g1
    have loe : os.length = es.length := g1.symm
    have t8 : TIK H H8 := TIK.same k8
    have hN8 := k8.get trivial hN
    have hp8 := hp.kp k8 trivial
    have de : ∀ o ∈ os, ∀ e ∈ es, o.2.1 ≠ e := fun o ho e he q => by
      have := (mo0 o ho).d
      rw [q, (g3 e he).2] at this
      cases this
    have e2 : (mkMos os es).map Mo.bs = os.map mdBs := mkMos_map _ mdBs loe (fun _ _ => rfl)
    have nmL : (mkMos os es).length = os.length := by
      have := congrArg List.length e2
      rwa [List.length_map, List.length_map] at this
    have W0 : Wd C_Module C_Late H8 M F L zs (mkMos os es) := by
      refine ⟨?_, ?_, ?_, fun o ho => ?_, by omega, mkMos_apart nd g2 de, mkMos_de de, ?_, fun e => by rw [e] at nmL; simp at nmL; omega, zl, hz⟩
      · rw [mkMos_map _ (fun o : Md => V.ref o.1) loe (fun _ _ => rfl)]; exact k8.get trivial hM
      · rw [mkMos_map _ (fun o : Md => V.ref o.2.2.1) loe (fun _ _ => rfl)]; exact k8.get trivial hF
      · rw [mkMos_e loe]; exact eL
      · obtain ⟨x, hx, e, he, rfl⟩ := mkMos_mem ho
        have w := mo0 x hx
        obtain ⟨dx, em⟩ := w.md
        exact ⟨⟨dx, t8.ins em⟩, k8.get trivial w.d, (g3 e he).1, .nil, by simp, by simp, w.fo.tik t8⟩
      · rw [mkMos_map _ (fun o : Md => o.1) loe (fun _ _ => rfl)]; exact nm
    have new0 : ∀ o ∈ mkMos os es, o.d ∈ os.map (·.2.1) ∧ H o.e = none := fun o ho => by
      obtain ⟨x, hx, e, he, rfl⟩ := mkMos_mem ho
      exact ⟨List.mem_map.mpr ⟨x, hx, rfl⟩, (g3 e he).2⟩
    generalize mkMos os es = mos0 at *
    have hF8 := W0.F
    have npF := pot_refs hp8 hF8
    have npN := pot_strs hp8 hN8
    walk_at "S"
    rw [List.length_map]
    refine ⟨by omega, by omega, ?_⟩
    have inv : ∀ (H1 : Hp) (mos : List Mo), Wd C_Module C_Late H1 M F L zs mos → mos.map Mo.sig = mos0.map Mo.sig → H1 F = some (.lst (((bases mos0).map (·.2)).map fun f : Fact => V.ref f.1)) := fun H1 mos W e => by
      rw [← sig_bases e]; exact W.Fb
    refine for_go walk_range (fun i σ H1 => ∃ (mos : List Mo) (o5 o6 : Option V), σ = [some (.ref p), some (.ref F), some (.ref N), some (.ref M), some (.ref L), o5, o6, none] ∧ PotOk H1 p ∧ Wd C_Module C_Late H1 M F L zs mos ∧ mos.map Mo.sig = mos0.map Mo.sig ∧ Kp (p :: Dcts mos0) H8 H1 ∧ TIK H8 H1 ∧ H1 N = some (.lst (zs.map V.str)))
      ⟨mos0, _, _, rfl, hp8, W0, rfl, Kp.refl, .same Kp.refl, hN8⟩ (fun _ _ _ _ _ => trivial) (fun i x σ Ha Hb hi I y => ?_) fun σ H1 I => ?_
    · obtain ⟨rfl, rfl⟩ := y
      obtain ⟨mos, o5, o6, rfl, hp1, W1, sg1, k1, t1, hN1⟩ := I
      have hi' : i < mos0.length := by omega
      walk_at "S"
      rw [show (0 : Int) + (i : Int) = ((i : Nat) : Int) from by omega]
      refine ⟨⟨_, sq_l hN1⟩, ?_⟩
      refine for_go (walk_list (K := K) (a := N) (xs := zs.map V.str)) (fun i' σ H1 => ∃ (mos : List Mo) (o6 : Option V), σ = [some (.ref p), some (.ref F), some (.ref N), some (.ref M), some (.ref L), some (.int (i : Nat)), o6, none] ∧ PotOk H1 p ∧ Wd C_Module C_Late H1 M F L zs mos ∧ mos.map Mo.sig = mos0.map Mo.sig ∧ Kp (p :: Dcts mos0) H8 H1 ∧ TIK H8 H1 ∧ H1 N = some (.lst (zs.map V.str)))
        ⟨mos, _, rfl, hp1, W1, sg1, k1, t1, hN1⟩ (fun i σ H1 hi I => by obtain ⟨_, _, _, _, _, _, _, _, hN⟩ := I; exact sq_l hN) (fun i' x σ Ha Hb hi'' I y => ?_) fun σ H1 I => ?_
      · obtain ⟨rfl, hx⟩ := y
        obtain ⟨mos, o6, rfl, hp1, W1, sg1, k1, t1, hN1⟩ := I
        rw [List.getElem?_map] at hx
        obtain ⟨z, ez, rfl⟩ : ∃ z, zs[i']? = some z ∧ x = V.str z := by
          cases e : zs[i']? with
          | none => rw [e] at hx; cases hx
          | some z => rw [e] at hx; exact ⟨z, rfl, (Option.some.inj hx).symm⟩
        walk_at "S"
        refine ⟨p, _, rfl, hp1, by omega, by omega, fun H2 v2 k2 hp2 a0 a1 => ?_⟩
        have W2 := W1.pot k2 hp1
        have hN2 := k2.get (nin1' npN) hN1
        have k02 : Kp (p :: Dcts mos0) H8 H2 := k1.step k2 fun x hx => .inl (by rw [List.mem_singleton.mp hx]; exact List.mem_cons_self)
        have t02 := t1.tr (TIK.pot k2 hp1)
        walk_at "S"
        refine s_dec (fun h => ?_) (fun h => ?_)
        · walk_at "S"
          refine ⟨p, F, N, (bases mos0).map (·.2), zs, rfl, hp2, inv _ _ W2 sg1, fun e => by have := congrArg List.length e; rw [blen, List.length_nil] at this; omega, by rw [blen]; omega, hN2, hz, nz, zl, fun H3 t kd k3 hp3 ht3 ok3 => ?_⟩
          have W3 := W2.pot k3 hp2
          have hN3 := k3.get (nin1' npN) hN2
          have lm := sig_len sg1
          obtain ⟨o, eo⟩ : ∃ o, mos[i]? = some o := ⟨mos[i]'(by omega), List.getElem?_eq_getElem (by omega)⟩
          walk_at "S"
          refine ⟨M, F, L, t, zs, mos, o, i, z, kd, rfl, W3, eo, List.mem_of_getElem? ez, ht3, by rw [blen, ← lm] at ok3; exact ok3, fun H4 mos4 W4 sg4 t4 k4 _ => ?_⟩
          walk_at "S"
          refine ⟨mos4, _, rfl, W3.potK hp3 k4, W4, sg4.trans sg1, ?_, (t02.tr (TIK.pot k3 hp2)).tr t4, k4.get (W3.nin hN3) hN3⟩
          refine (k02.step k3 fun x hx => .inl (by rw [List.mem_singleton.mp hx]; exact List.mem_cons_self)).step k4 fun x hx => .inl ?_
          rw [dcts_sig sg1] at hx
          exact List.mem_cons_of_mem _ hx
        · walk_at "S"
          exact ⟨mos, _, rfl, hp2, W2, sg1, k02, t02, hN2⟩
      · obtain ⟨mos, o6, rfl, hp1, W1, sg1, k1, t1, hN1⟩ := I
        exact ⟨mos, _, _, rfl, hp1, W1, sg1, k1, t1, hN1⟩
    · obtain ⟨mos, o5, o6, rfl, hp1, W1, sg1, k1, t1, hN1⟩ := I
      walk_at "S"
      refine q _ L mos hp1 hL W1 ?_ (t8.tr t1) ((sig_bases sg1).trans e2) fun o ho => ?_
      · refine (Kp.nil_W k8).step k1 fun x hx => ?_
        rcases List.mem_cons.mp hx with rfl | hx
        · exact .inl List.mem_cons_self
        · obtain ⟨o, ho, rfl | rfl⟩ := dcts_mem hx
          · exact .inl (List.mem_cons_of_mem _ (new0 o ho).1)
          · exact .inr (new0 o ho).2
      · obtain ⟨o', h1, h2⟩ := sig_mem sg1 ho
        have a := new0 o' h1
        simp only [Mo.sig, Prod.mk.injEq] at h2
        rw [h2.2.1, h2.2.2.1] at a
        exact a
end

/-! what is due, what is said -/
def DueR (K : PySem.W.Frag) (H : Hp) (mos : List Mo) (ch : List (Nat × Nat)) (res : Res) (u : Addr) : Prop :=
  (∃ o x, res.1 = false ∧ mos[res.2.1]? = some o ∧ valV (kv2 o.B) (.inr res.2.2) = some x ∧ H u = some (.tup [.str "thing", x])) ∨ (Fails mos res ∧ ∃ t, H u = some (.tup [.str "fault", .ref t]) ∧ Dp K H (.ref t) (resD mos ch res))
def SaidR (K : PySem.W.Frag) (H : Hp) (mos : List Mo) (ch : List (Nat × Nat)) (res : Res) (u : Addr) : Prop :=
  (∃ o x, res.1 = false ∧ mos[res.2.1]? = some o ∧ valV (kv1 o.B) (.inr res.2.2) = some x ∧ H u = some (.tup [.str "thing", x])) ∨ (Fails mos res ∧ ∃ t, H u = some (.tup [.str "fault", .ref t]) ∧ Dp K H (.ref t) (resD mos ch res))
theorem DueR.same {K : PySem.W.Frag} {H H' : Hp} {mos : List Mo} {ch : List (Nat × Nat)} {res : Res} {u : Addr} (h : DueR K H mos ch res u) (k : Kp [] H H') : DueR K H' mos ch res u :=
  h.imp (fun ⟨o, x, a, b, c, g⟩ => ⟨o, x, a, b, c, k.get trivial g⟩) fun ⟨e, t, g, dt⟩ => ⟨e, t, k.get trivial g, Dp.same k _ _ dt⟩
theorem SaidR.same {K : PySem.W.Frag} {H H' : Hp} {mos : List Mo} {ch : List (Nat × Nat)} {res : Res} {u : Addr} (h : SaidR K H mos ch res u) (k : Kp [] H H') : SaidR K H' mos ch res u :=
  h.imp (fun ⟨o, x, a, b, c, g⟩ => ⟨o, x, a, b, c, k.get trivial g⟩) fun ⟨e, t, g, dt⟩ => ⟨e, t, k.get trivial g, Dp.same k _ _ dt⟩
def spDueL (K : PySem.W.Frag) (CM CL : Addr) : Sp := fun vs H Q _ => ∃ (F L C R M : Addr) (j : Nat) (rs zs : List Str) (mos : List Mo) (cs : List Lk) (o : Mo), vs = [.ref F, .ref L, .ref C, .int j, .ref R] ∧ Wd CM CL H M F L zs mos ∧ mos[j]? = some o ∧ ChAt mos.length H C cs ∧
  H R = some (.lst (rs.map V.str)) ∧ rs ≠ [] ∧ ∀ H' u, Kp [] H H' → DueR K H' mos (cs.map (·.2)) (goF mos j rs) u → Q (.ref u) H'
def spSaid (K : PySem.W.Frag) (CM CL : Addr) : Sp := fun vs H Q _ => ∃ (l dl h M F L : Addr) (j : Nat) (rs zs : List Str) (mos : List Mo) (hs : List Lk) (o : Mo), vs = [.ref l, .ref h] ∧ H l = some (.ins CL dl (lateF o.m (Txt.join "." rs))) ∧ Wd CM CL H M F L zs mos ∧ mos[j]? = some o ∧ HdAt (mos.map (·.m)) H h hs ∧
  rs ≠ [] ∧ (∀ c ∈ rs, OkN c) ∧ rs.length ≤ 4 ∧ ∀ H' u, Kp [] H H' → SaidR K H' mos (hs.map (·.2)) (goF mos j rs) u → Q (.ref u) H'
theorem eAt {mos : List Mo} {j : Nat} {o : Mo} (h : mos[j]? = some o) : atI (mos.map fun o => V.ref o.e) ((j : Nat) : Int) = some (.ref o.e) := atI_nat (by rw [List.getElem?_map, h]; rfl)
theorem tAt {mos : List Mo} {j : Nat} {o : Mo} (h : mos[j]? = some o) : atI (mos.map fun o => V.ref o.t) ((j : Nat) : Int) = some (.ref o.t) := atI_nat (by rw [List.getElem?_map, h]; rfl)
theorem fmap_q (mos : List Mo) : ((bases mos).map (·.2)).map (fun f : Fact => f.2.2) = mos.map (·.q) := by
  rw [List.map_map, List.map_map]
  rfl
/-- what the model has for a name, and what the module has -/
theorem mdl {CM CL : Addr} {H : Hp} {M F L : Addr} {zs : List Str} {mos : List Mo} {j : Nat} {o : Mo} (W : Wd CM CL H M F L zs mos) (ej : mos[j]? = some o) (z : Str) : (valV (kv1 o.B) (.inr z) = none ∧ valV (kv2 o.B) (.inr z) = none) ∨
    ∃ v tt kd, valV (kv1 o.B) (.inr z) = some v ∧ valV (kv2 o.B) (.inr z) = some (.ref tt) ∧ H tt = some (.tup (Kd.vs kd)) ∧ KdOk mos.length zs kd ∧ ThingIs CL H (bases mos) v kd := by
  rcases look_kv z o.B with h | ⟨b, hb, s1, s2⟩
  · exact .inl h
  · obtain ⟨tt, kd, e1, e2, e3, th⟩ := (W.mo o (List.mem_of_getElem? ej)).th b hb
    rw [List.length_map] at e3
    exact .inr ⟨_, tt, kd, s1, by rw [s2, e1], e2, e3, th⟩
section
variable {P : Program} {w : World} {K : PySem.W.Frag} {mg : Str → Option Value} {base : Heap} {C_MadeError C_Fault C_Module C_Late : Addr}
theorem ok_l_due {f : Addr} {fd : FuncData} (F : Fun K "_law_due" "_law_due" s_l_due f fd) (T : Txt K mg C_MadeError C_Fault C_Module C_Late)
    (D_l_fault : DnF P w K mg base 1 "_law_fault" ["_law_facts_here", "_law_chain_here", "_law_at_here", "_law_name_here"] (spFaultL K)) :
    FnOk P w K mg base CX0 2 f fd ["_law_facts_here", "_law_models", "_law_chain_here", "_law_at_here", "_law_road_here"] (spDueL K C_Module C_Late) := by
  refine F.ok sc_l_due (fun vs H Q E h => ?_) (fun cdv A outer s H vs Q E hr h => ?_)
  · obtain ⟨F, L, C, R, M, j, rs, zs, mos, cs, o, rfl, _⟩ := h
    rfl
  · obtain ⟨f_l_fault, fd_l_fault, G_l_fault, m_l_fault, k_l_fault, b_l_fault⟩ := D_l_fault
    obtain ⟨F, L, C, R, M, j, rs, zs, mos, cs, o, rfl, W, ej, ch, hR, nr, q⟩ := h
    have hu := hu_of hr
    refine ⟨_, (pss_cons (ps_set (i := 5) sc_l_due.nd rfl (Or.inl rfl) (pv 3))
      (pss_cons (ps_for PassesOwn.never rfl (kiL (K := K) rfl (pi_list (pe_slice (slLK (K := K) rfl) (pv 4) po_none (po_some (pe_un un_neg pe_int))))) (pg_name (i := 6) sc_l_due.nd rfl (Or.inl rfl)) (pss_cons (ps_if (pt_cmp (pc_dnotin hu (pv 6) (pe_ix (ixLK (K := K) rfl) (pv 1) (pv 5) (fun _ _ => rfl)))) (pss_one (ps_ret (pe_call G_l_fault (hr.mono (by first | decide | omega)) (by rfl) m_l_fault k_l_fault b_l_fault .nil pass0 (pa_cons (pv 0) (pa_cons (pv 2) (pa_cons (pv 5) (pa_cons (pv 6) pa_nil))))))) pss_nil)
      (pss_cons (ps_if (pt_cmpR op_ne (pe_ix (ixTK (K := K) rfl) (pe_dget hu (pe_ix (ixLK (K := K) rfl) (pv 1) (pv 5) (fun _ _ => rfl)) (pv 6) (fun _ _ => rfl)) pe_int (fun _ _ => rfl)) pe_int (nomark _)) (pss_one (ps_ret (pe_tup (pa_cons pe_str (pa_cons (pe_tup (pa_cons pe_str (pa_cons (pe_ix (ixTK (K := K) rfl) (pe_ix (ixLK (K := K) rfl) (pv 0) (pv 5) (fun _ _ => rfl)) pe_int (fun _ _ => rfl)) (pa_cons (pv 6) pa_nil)))) pa_nil))))) pss_nil)
      (pss_one (ps_set (i := 5) sc_l_due.nd rfl (Or.inl rfl) (pe_ix (ixTK (K := K) rfl) (pe_dget hu (pe_ix (ixLK (K := K) rfl) (pv 1) (pv 5) (fun _ _ => rfl)) (pv 6) (fun _ _ => rfl)) pe_int (fun _ _ => rfl)))))))
      (pss_cons (ps_if (pt_cmp (pc_dnotin hu (pe_ix (ixLK (K := K) rfl) (pv 4) (pe_un un_neg pe_int) (fun _ _ => rfl)) (pe_ix (ixLK (K := K) rfl) (pv 1) (pv 5) (fun _ _ => rfl)))) (pss_one (ps_ret (pe_call G_l_fault (hr.mono (by first | decide | omega)) (by rfl) m_l_fault k_l_fault b_l_fault .nil pass0 (pa_cons (pv 0) (pa_cons (pv 2) (pa_cons (pv 5) (pa_cons (pe_ix (ixLK (K := K) rfl) (pv 4) (pe_un un_neg pe_int) (fun _ _ => rfl)) pa_nil))))))) pss_nil)
      (pss_one (ps_ret (pe_tup (pa_cons pe_str (pa_cons (pe_dget hu (pe_ix (ixLK (K := K) rfl) (pv 1) (pv 5) (fun _ _ => rfl)) (pe_ix (ixLK (K := K) rfl) (pv 4) (pe_un un_neg pe_int) (fun _ _ => rfl)) (fun _ _ => rfl)) pa_nil)))))))), ?_⟩
    refine st_start (σ' := [some (.ref F), some (.ref L), some (.ref C), some (.int j), some (.ref R), none, none]) rfl ?_
    walk_at "S"
    intro l hl
    rw [cut_last1]
    have k0 : Kp [] H (upd H l (.lst (rs.map V.str).dropLast)) := Kp.refl.upd_new hl
    have el : upd H l (.lst (rs.map V.str).dropLast) l = some (.lst (rs.map V.str).dropLast) := upd_same
    generalize upd H l (.lst (rs.map V.str).dropLast) = H0 at *
    have miss : ∀ {j' : Nat} {o' : Mo} {z : Str} {Hx : Hp}, Kp [] H Hx → mos[j']? = some o' → valV (kv1 o'.B) (.inr z) = none → goF mos j rs = (false, j', z) → spFaultL K [.ref F, .ref C, .int (j' : Nat), .str z] Hx Q E0 := fun {j' o' z Hx} kk ej' n1 eg => by
      have W1 := W.same kk
      refine ⟨F, C, j', z, (bases mos).map (·.2), cs, rfl, W1.Fb, W1.fo, by rw [blen]; exact ch.same kk, by rw [blen]; exact (List.getElem?_eq_some_iff.mp ej').1, fun H2 u t k2 eu dt => ?_⟩
      refine q H2 u (kk.tr k2) (.inr ⟨by rw [eg]; exact .inr ⟨rfl, o', ej', n1⟩, t, eu, ?_⟩)
      rw [fmap_q, qAt ej'] at dt
      rw [eg, resD_miss ej']
      exact dt
    refine ⟨l, rfl, ⟨_, sq_l el⟩, ?_⟩
    refine for_go (walk_list (K := K) (a := l) (xs := (rs.map V.str).dropLast)) (fun i σ H1 => ∃ (j' : Nat) (o' : Mo) (o6 : Option V), σ = [some (.ref F), some (.ref L), some (.ref C), some (.int j), some (.ref R), some (.int j'), o6] ∧ Kp [] H0 H1 ∧ mos[j']? = some o' ∧ goF mos j rs = goF mos j' (rs.drop i))
      ⟨j, o, _, rfl, Kp.refl, ej, rfl⟩ (fun i σ H1 _ I => by obtain ⟨_, _, _, _, k, _⟩ := I; exact k.seqL trivial (sq_l el)) (fun i x σ Ha H1 hi I y => ?_) fun σ H1 I => ?_
    · obtain ⟨rfl, hx⟩ := y
      obtain ⟨j', o', o6, rfl, k1, ej', eg⟩ := I
      rw [List.length_dropLast, List.length_map] at hi
      obtain ⟨z, y, r, ez, ed, ed1⟩ := drop_mid (cs := rs) (i := i) (by omega)
      rw [ed] at eg
      have ex : x = V.str z := by
        rw [List.getElem?_dropLast, if_pos (by rw [List.length_map]; omega), List.getElem?_map, ez] at hx
        exact (Option.some.inj hx).symm
      subst ex
      have kk := k0.tr k1
      have W1 := W.same kk
      have ok' := W1.mo o' (List.mem_of_getElem? ej')
      have ft : H1 o'.t = some (.tup [.int o'.n, .str o'.q]) := ok'.fo.at_
      have eF := W1.F
      walk_at "S"
      refine s_ixL (sq_l W1.L) (eAt ej') ?_
      refine s_inS ok'.e ?_
      walk_at "S"
      rcases mdl W1 ej' z with ⟨n1, n2⟩ | ⟨v, tt, kd, e1, e2, ht, kok, th⟩
      · rw [n2]
        refine s_bool (fun _ => ?_) (fun h => absurd h (by decide))
        walk_at "S"
        exact miss kk ej' n1 (by rw [eg]; simp only [goF, ej', Option.bind_some, n1])
      · rw [e2]
        refine s_bool (fun h => absurd (show false = true from h) (by decide)) (fun _ => ?_)
        walk_at "S"
        refine s_ixL (sq_l W1.L) (eAt ej') ?_
        walk_at "S"
        refine s_getS ok'.e e2 ?_
        have flat : (∀ o ∈ mos, v ≠ .ref o.m) → ∀ t u : Addr, H1 t = none → upd H1 t (.tup [.str "FLAT", .str o'.q, .str z]) u = none → Q (.ref u) (upd (upd H1 t (.tup [.str "FLAT", .str o'.q, .str z])) u (.tup [.str "fault", .ref t])) := fun nm t u h1 h2 => by
          have eg' : goF mos j rs = (true, j', z) := by
            rw [eg]
            simp only [goF, ej', Option.bind_some, e1, nextM_not nm]
          refine q _ u ((kk.upd_new h1).upd_new h2) (.inr ⟨by rw [eg']; exact .inl ⟨o', ej', rfl⟩, t, upd_same, ?_⟩)
          rw [eg', resD_flat ej']
          exact Dp.same (Kp.refl.upd_new h2) _ _ (.tup (sq_t upd_same) (.cons (.str _) (.cons (.str _) (.cons (.str _) .nil))))
        cases th with
        | int =>
          simp only [Kd.vs] at ht
          walk_at "S"
          refine s_ndec (fun _ => ?_) (fun h => absurd (V.int.inj h) (by decide))
          walk_at "S"
          refine s_ixL (sq_l eF) (tAt ej') ?_
          walk_at "S"
          refine ⟨small_le (by simp), fun t h1 => ?_⟩
          walk_at "S"
          exact ⟨small_le (by simp), fun u h2 => flat (fun o _ e => by cases e) t u h1 h2⟩
        | late ej2 el2 =>
          simp only [Kd.vs] at ht
          walk_at "S"
          refine s_ndec (fun _ => ?_) (fun h => absurd (V.int.inj h) (by decide))
          walk_at "S"
          refine s_ixL (sq_l eF) (tAt ej') ?_
          walk_at "S"
          refine ⟨small_le (by simp), fun t h1 => ?_⟩
          walk_at "S"
          exact ⟨small_le (by simp), fun u h2 => flat (late_not W1 el2) t u h1 h2⟩
        | mod ej2 =>
          rename_i j2 b
          obtain ⟨o2, e2', m2, rfl⟩ := base_at ej2
          simp only [Kd.vs] at ht
          walk_at "S"
          refine s_ndec (fun h => absurd rfl h) (fun _ => ?_)
          walk_at "S"
          refine s_ixL (sq_l W1.L) (eAt ej') ?_
          walk_at "S"
          refine s_getS ok'.e e2 ?_
          walk_at "S"
          refine ⟨j2, o2, _, rfl, k1, e2', ?_⟩
          rw [eg, ed1]
          simp only [goF, ej', Option.bind_some, e1]
          rw [show nextM mos (.ref o2.bs.1) = some j2 from nextM_mod W e2']
    · obtain ⟨j', o', o6, rfl, k1, ej', eg⟩ := I
      obtain ⟨z, el', ed, ez, mz⟩ := drop_end nr
      obtain ⟨pre, ecs⟩ := List.getLast?_eq_some_iff.mp el'
      rw [List.length_dropLast, List.length_map, ed] at eg
      have kk := k0.tr k1
      have W1 := W.same kk
      have ok' := W1.mo o' (List.mem_of_getElem? ej')
      have hR1 := kk.get trivial hR
      have aR : atI (rs.map V.str) (-1) = some (.str z) := by rw [ecs, List.map_append]; exact atI_last _ _
      walk_at "S"
      refine s_ixL (sq_l hR1) aR ?_
      walk_at "S"
      refine s_ixL (sq_l W1.L) (eAt ej') ?_
      refine s_inS ok'.e ?_
      walk_at "S"
      rcases mdl W1 ej' z with ⟨n1, n2⟩ | ⟨v, tt, kd, e1, e2, ht, kok, th⟩
      · rw [n2]
        refine s_bool (fun _ => ?_) (fun h => absurd h (by decide))
        walk_at "S"
        refine s_ixL (sq_l hR1) aR ?_
        walk_at "S"
        exact miss kk ej' n1 eg
      · rw [e2]
        refine s_bool (fun h => absurd (show false = true from h) (by decide)) (fun _ => ?_)
        walk_at "S"
        refine s_ixL (sq_l W1.L) (eAt ej') ?_
        walk_at "S"
        refine s_ixL (sq_l hR1) aR ?_
        refine s_getS ok'.e e2 ?_
        walk_at "S"
        exact ⟨small_le (by simp), fun u hu => q _ u (kk.upd_new hu) (.inl ⟨o', _, by rw [eg]; rfl, by rw [eg]; exact ej', by rw [eg]; exact e2, upd_same⟩)⟩
theorem ok_l_said {f : Addr} {fd : FuncData} (F : Fun K "_law_said" "_law_said" s_l_said f fd) (T : Txt K mg C_MadeError C_Fault C_Module C_Late)
    (D_asked : DnX P w K mg base 6 "asked" ["late", "chain"] (spAsked K C_Module C_Late C_Fault)) :
    FnOk P w K mg base CX0 7 f fd ["_law_late", "_law_handed_here"] (spSaid K C_Module C_Late) := by
  refine F.ok sc_l_said (fun vs H Q E h => ?_) (fun cdv A outer s H vs Q E hr h => ?_)
  · obtain ⟨l, dl, h, M, F, L, j, rs, zs, mos, hs, o, rfl, _⟩ := h
    rfl
  · obtain ⟨f_asked, fd_asked, G_asked, m_asked, k_asked, b_asked⟩ := D_asked
    obtain ⟨l, dl, h, M, F, L, j, rs, zs, mos, hs, o, rfl, hl, W, ej, hd, nr, okr, lr, q⟩ := h
    refine ⟨_, (pss_cons (ps_set (i := 2) sc_l_said.nd rfl (Or.inl rfl) pe_non)
      (pss_cons (ps_try_as (i := 3) rfl rfl sc_l_said.nd rfl rfl ⟨by rfl, by decide, .inl T.mg_Fault⟩ takes0 (fun W pn xe tk po => (pss_one (ps_set (i := 2) sc_l_said.nd rfl (Or.inl rfl) (pe_tup (pa_cons pe_str (pa_cons (pe_callS G_asked (hr.mono (by first | decide | omega)) (by rfl) m_asked k_asked b_asked (fun σ => passAt tk σ) (pa_cons (pv 0) (pa_cons (pv 1) pa_nil))) pa_nil)))))) (fun a oe cls d pn hz hf => (pss_one (ps_set (i := 2) sc_l_said.nd rfl (Or.inl rfl) (pe_tup (pa_cons pe_str (pa_cons (pe_xf T.xf_Fault T.no_Fault_fault hz hf (pv 3)) pa_nil)))))))
      (pss_one (ps_ret (pv 2))))), ?_⟩
    refine st_start (σ' := [some (.ref l), some (.ref h), none, none]) rfl ?_
    walk_at "S"
    refine s_callS ?_
    walk_at "S"
    refine ⟨l, dl, h, M, F, L, zs, mos, o, j, hs, rs, rfl, hl, W, ej, hd, nr, okr, lr, fun H1 v k1 hv => ?_, fun H1 d t k1 hf hd1 dt => ?_⟩
    · walk_at "S"
      refine ⟨small_le (by simp), fun u hu => ?_⟩
      walk_at "S"
      obtain ⟨e1, o', ej', e2⟩ := hv
      exact q _ u (k1.upd_new hu) (.inl ⟨o', v, e1, ej', e2, upd_same⟩)
    · refine ⟨true, T.te_Fault, fun _ a ha => ?_, fun z => nomatch z⟩
      walk_at "S"
      refine s_xf ?_
      walk_at "S"
      refine ⟨rfl, rfl, d, [("fault", .ref t)], .ref t, rfl, hd1, look_hit, ?_⟩
      walk_at "S"
      refine ⟨small_le (by simp), fun u hu => ?_⟩
      walk_at "S"
      exact q _ u (k1.upd_new hu) (.inr ⟨hf, t, upd_same, Dp.same (Kp.refl.upd_new hu) _ _ dt⟩)
end

def spLaw (K : PySem.W.Frag) : Sp := fun vs H Q _ => ∃ (a : Addr) (ns : List Int), vs = [.ref a] ∧ SqL K H a (ns.map V.int) ∧ ns.length ≤ 63 ∧ ∀ H', Q (.bl true) H'
theorem turns (n : Int) (h : 0 ≤ n) (h2 : n ≤ 63) : 6 ≤ (if (if 61 < n then 61 else n) > 6 then (if 61 < n then 61 else n) else 6) ∧ (if (if 61 < n then 61 else n) > 6 then (if 61 < n then 61 else n) else 6) ≤ (61 : Int) := by
  split <;> split <;> omega
/-- two handed lists, pair by pair -/
theorem hd_pairs {ms : List Addr} : ∀ {xs ys : List Lk}, xs.map (·.2) = ys.map (·.2) → ∃ ps : List (Addr × Addr × Addr × Int), ps.map (fun p => V.ref p.1) = xs.map (fun c : Lk => V.ref c.1) ∧ ps.map (fun p => V.ref p.2.1) = ys.map (fun c : Lk => V.ref c.1) ∧
    ∀ p ∈ ps, ∃ c ∈ xs, ∃ c' ∈ ys, p = (c.1, c'.1, ms.getD c.2.1 0, ((c.2.2 : Nat) : Int)) ∧ c.2 = c'.2
  | [], [], _ => ⟨[], rfl, rfl, by simp⟩
  | [], _ :: _, h => by simp at h
  | _ :: _, [], h => by simp at h
  | x :: xs, y :: ys, h => by
    rw [List.map_cons, List.map_cons] at h
    obtain ⟨h1, h2⟩ := List.cons.inj h
    obtain ⟨ps, g1, g2, g3⟩ := hd_pairs (ms := ms) h2
    refine ⟨(x.1, y.1, ms.getD x.2.1 0, ((x.2.2 : Nat) : Int)) :: ps, by rw [List.map_cons, List.map_cons, g1], by rw [List.map_cons, List.map_cons, g2], fun p hp => ?_⟩
    rcases List.mem_cons.mp hp with rfl | hp
    · exact ⟨x, List.mem_cons_self, y, List.mem_cons_self, rfl, h1⟩
    · obtain ⟨c, hc, c', hc', e⟩ := g3 p hp
      exact ⟨c, List.mem_cons_of_mem _ hc, c', List.mem_cons_of_mem _ hc', e⟩
theorem hd_ne {K : PySem.W.Frag} {H : Hp} {Q : VK} {ms : List Addr} {a b : Addr} {xs ys : List Lk} (h1 : HdAt ms H a xs) (h2 : HdAt ms H b ys) (e : xs.map (·.2) = ys.map (·.2)) (q : Q (.bl false) H) : rNePairs K (.ref a) (.ref b) H Q := by
  obtain ⟨ps, g1, g2, g3⟩ := hd_pairs (ms := ms) e
  refine ⟨a, b, ps, rfl, rfl, by rw [g1]; exact sq_l h1.at_, by rw [g2]; exact sq_l h2.at_, fun p hp => ?_, q⟩
  obtain ⟨c, hc, c', hc', rfl, ec⟩ := g3 p hp
  refine ⟨sq_t (h1.it c hc).1, ?_⟩
  have := (h2.it c' hc').1
  rw [← ec] at this
  exact sq_t this
theorem goF_mem {mos : List Mo} : ∀ {cs : List Str} {j : Nat}, cs ≠ [] → (goF mos j cs).2.2 ∈ cs
  | [], _, h => absurd rfl h
  | [z], _, _ => by simp [goF]
  | z :: y :: r, j, _ => by
    simp only [goF]
    split
    · exact List.mem_cons_self
    · split
      · exact List.mem_cons_self
      · exact List.mem_cons_of_mem _ (goF_mem (by simp))
theorem flat_show {q z : Str} (hq : OkL (tl q)) (lq : q.length ≤ 35) (hz : OkN z) : ShowOk (.tuple (flatP q z)) 5000 5 := by
  have sq := ShowOk.str (k := 4) hq
  have sz := ShowOk.str (k := 4) hz.ok
  have w1 := ShowOk.str (z := "FLAT") (k := 4) (show ∀ c ∈ tl ("FLAT" : Str), c < 1114112 by decide +kernel)
  refine ShowOk.tup (fun x hx => ?_) ?_
  · simp only [flatP, List.mem_cons, List.not_mem_nil, or_false] at hx
    rcases hx with rfl | rfl | rfl
    · exact ⟨_, w1⟩
    · exact ⟨_, sq⟩
    · exact ⟨_, sz⟩
  · have a := w1.bk
    have b := sq.bk
    have c := sz.bk
    have l := hz.len
    have e : ("FLAT" : Str).length = 4 := by decide +kernel
    simp only [flatP, PyData.bulkAll]
    omega
theorem res_show {K : PySem.W.Frag} {CM CL : Addr} {H : Hp} {M F L C : Addr} {zs : List Str} {mos : List Mo} {cs : List Lk} {res : Res} (W : Wd CM CL H M F L zs mos) (ch : ChAt mos.length H C cs) (f : Fails mos res) (hz : OkN res.2.2) : ShowOk (resD mos (cs.map (·.2)) res) 5000 5 := by
  obtain ⟨b, j, z⟩ := res
  have lc := ch.few
  rcases f with ⟨o, ej, e⟩ | ⟨e, o, ej, _⟩
  · simp only at e ej hz
    subst e
    rw [resD_flat ej]
    have ok := W.mo o (List.mem_of_getElem? ej)
    exact flat_show ok.fo.road.ok ok.fo.road.len hz
  · simp only at e ej hz
    subst e
    rw [resD_miss ej]
    have ok := W.mo o (List.mem_of_getElem? ej)
    have okq : ∀ y ∈ mos.map (·.q), OkR y := fun y hy => by
      obtain ⟨o', h1, rfl⟩ := List.mem_map.mp hy
      exact (W.mo o' h1).fo.road
    refine fault_show ok.fo.road.ok ok.fo.road.len hz (fun p hp => ?_) ?_
    · obtain ⟨c, hc, rfl⟩ := List.mem_map.mp hp
      obtain ⟨l, hl, rfl⟩ := List.mem_map.mp ((List.dropWhile_sublist _).subset hc)
      have w := (ch.it l hl).2
      have lt : l.2.1 < (mos.map (·.q)).length := by rw [List.length_map]; omega
      have y := okq _ (List.getElem_mem lt)
      show OkL (tl ((mos.map (·.q)).getD l.2.1 Str.empty)) ∧ ((mos.map (·.q)).getD l.2.1 Str.empty).length ≤ 35 ∧ l.2.2 < 40
      rw [List.getD_eq_getElem?_getD, List.getElem?_eq_getElem lt]
      exact ⟨y.ok, y.len, w.2⟩
    · unfold ringL
      rw [List.length_map]
      have := (List.dropWhile_sublist (fun c : Nat × Nat => !decide (c.1 = j)) (l := cs.map (·.2))).length_le
      rw [List.length_map] at this
      omega
theorem due_fail {CM CL : Addr} {H : Hp} {M F L : Addr} {zs : List Str} {mos : List Mo} {res : Res} {o : Mo} {x : V} (W : Wd CM CL H M F L zs mos) (e : res.1 = false) (ej : mos[res.2.1]? = some o) (hx : valV (kv2 o.B) (.inr res.2.2) = some x) (f : Fails mos res) : False := by
  rcases f with ⟨_, _, e'⟩ | ⟨_, o', ej', n⟩
  · rw [e] at e'; cases e'
  · rw [ej] at ej'
    cases ej'
    rcases mdl W ej res.2.2 with ⟨_, n2⟩ | ⟨_, _, _, s1, _⟩
    · rw [n2] at hx; cases hx
    · rw [n] at s1; cases s1
theorem said_fail {mos : List Mo} {res : Res} {o : Mo} {x : V} (e : res.1 = false) (ej : mos[res.2.1]? = some o) (hx : valV (kv1 o.B) (.inr res.2.2) = some x) (f : Fails mos res) : False := by
  rcases f with ⟨_, _, e'⟩ | ⟨_, o', ej', n⟩
  · rw [e] at e'; cases e'
  · rw [ej] at ej'
    cases ej'
    rw [n] at hx
    cases hx
theorem spAgrees_r {K : PySem.W.Frag} {CM CL M F L C u v : Addr} {H : Hp} {Q : VK} {E : XK} {zs : List Str} {mos : List Mo} {cs : List Lk} {res : Res} (W : Wd CM CL H M F L zs mos) (ch : ChAt mos.length H C cs) (hz : OkN res.2.2)
    (du : DueR K H mos (cs.map (·.2)) res u) (sa : SaidR K H mos (cs.map (·.2)) res v) (q : ∀ H', Kp [] H H' → Q (.bl true) H') : spAgrees K CM CL [.ref v, .ref u, .ref F, .ref L] H Q E := by
  refine ⟨v, u, F, L, rfl, ?_⟩
  rcases du with ⟨o, x, e, ej, hx, g2⟩ | ⟨f, t2, g2, d2⟩
  · rcases sa with ⟨o', y, e', ej', hy, g1⟩ | ⟨f', _⟩
    · rw [ej] at ej'
      cases ej'
      rcases mdl W ej res.2.2 with ⟨_, n2⟩ | ⟨w, tt, kd, s1, s2, ht, kok, th⟩
      · rw [n2] at hx; cases hx
      · rw [s2] at hx
        rw [s1] at hy
        cases hx
        cases hy
        exact .inl ⟨M, zs, mos, _, tt, kd, W, g1, g2, ht, kok, th, q⟩
    · exact (due_fail W e ej hx f').elim
  · rcases sa with ⟨o', y, e', ej', hy, g1⟩ | ⟨_, t1, g1, d1⟩
    · exact (said_fail e' ej' hy f).elim
    · exact .inr ⟨t1, t2, _, g1, g2, d1, d2, res_show (K := K) W ch f hz, q H Kp.refl⟩

theorem upd_comm {H : Hp} {a b : Addr} {x y : HO} (n : a ≠ b) : upd (upd H a x) b y = upd (upd H b y) a x := by
  funext q
  by_cases h1 : q = a
  · subst h1
    rw [upd_ne n, upd_same, upd_same]
  · by_cases h2 : q = b
    · subst h2
      rw [upd_same, upd_ne h1, upd_same]
    · rw [upd_ne h2, upd_ne h1, upd_ne h1, upd_ne h2]
/-- a road of such names -/
structure RoadP (zs cs : List Str) : Prop where
  ne : cs ≠ []
  few : cs.length ≤ 4
  mem : ∀ c ∈ cs, c ∈ zs
  ok : OkR (Txt.join "." cs)
theorem RoadP.of {zs : List Str} {r : Str} (h : OkR r) (g : RoadOk zs r) : ∃ cs, r = Txt.join "." cs ∧ RoadP zs cs := by
  obtain ⟨cs, rfl, a, b, c⟩ := g
  exact ⟨cs, rfl, a, b, c, h⟩
theorem RoadP.road {zs cs : List Str} (h : RoadP zs cs) : RoadOk zs (Txt.join "." cs) := ⟨cs, rfl, h.ne, h.few, h.mem⟩
/-- a function that is kept: its tuple, itself, its home and road, where it is bound -/
structure Fn where
  t : Addr
  l : Addr
  dl : Addr
  home : Nat
  cs : List Str
  which : Nat
  z : Str
structure FnAt (CL : Addr) (H : Hp) (zs : List Str) (mos : List Mo) (f : Fn) : Prop where
  tup : H f.t = some (.tup [.ref f.l, .int (f.home : Nat), .str (Txt.join "." f.cs), .int (f.which : Nat), .str f.z])
  late : ∃ o, mos[f.home]? = some o ∧ H f.l = some (.ins CL f.dl (lateF o.m (Txt.join "." f.cs)))
  road : RoadP zs f.cs
  key : ∃ o, mos[f.which]? = some o ∧ f.z ∈ o.B.map (·.1)
  zok : f.z ∈ zs
theorem FnAt.step {CL : Addr} {H H' : Hp} {zs : List Str} {mos mos' : List Mo} {f : Fn} (h : FnAt CL H zs mos f) (t : TIK H H') (g : Grow mos mos') : FnAt CL H' zs mos' f := by
  obtain ⟨o, e, hl⟩ := h.late
  obtain ⟨o', e', hk⟩ := h.key
  obtain ⟨o2, e2, s2, _⟩ := g _ _ e
  obtain ⟨o3, e3, _, k3⟩ := g _ _ e'
  have em : o2.m = o.m := congrArg (·.1) s2
  exact ⟨t.tup h.tup, ⟨o2, e2, by rw [em]; exact t.ins hl⟩, h.road, ⟨o3, e3, k3 _ hk⟩, h.zok⟩
structure FnI (CM CL : Addr) (H0 H : Hp) (p M F L N fl : Addr) (zs : List Str) (mos0 mos : List Mo) (fns : List Fn) : Prop where
  kp : Kp (p :: Dcts mos0) H0 H
  tk : TIK H0 H
  hp : PotOk H p
  W : Wd CM CL H M F L zs mos
  sg : mos.map Mo.sig = mos0.map Mo.sig
  hN : H N = some (.lst (zs.map V.str))
  el : H fl = some (.lst (fns.map fun f : Fn => V.ref f.t))
  fa : ∀ f ∈ fns, FnAt CL H zs mos f
  nfl : H0 fl = none
  aF : Nin fl [p, M, F, L, N]
theorem FnI.same {CM CL : Addr} {H0 H H' : Hp} {p M F L N fl : Addr} {zs : List Str} {mos0 mos : List Mo} {fns : List Fn} (I : FnI CM CL H0 H p M F L N fl zs mos0 mos fns) (k : Kp [] H H') : FnI CM CL H0 H' p M F L N fl zs mos0 mos fns :=
  ⟨I.kp.tr (Kp.nil_W k), I.tk.tr (.same k), I.hp.kp k trivial, I.W.same k, I.sg, k.get trivial I.hN, k.get trivial I.el, fun f hf => (I.fa f hf).step (.same k) (.refl _), I.nfl, I.aF⟩
theorem FnI.pot {CM CL : Addr} {H0 H H' : Hp} {p M F L N fl : Addr} {zs : List Str} {mos0 mos : List Mo} {fns : List Fn} (I : FnI CM CL H0 H p M F L N fl zs mos0 mos fns) (k : Kp [p] H H') (hp' : PotOk H' p) : FnI CM CL H0 H' p M F L N fl zs mos0 mos fns :=
  ⟨I.kp.tr (k.weak fun x hx => by rw [List.mem_singleton.mp hx]; exact List.mem_cons_self), I.tk.tr (.pot k I.hp), hp', I.W.pot k I.hp, I.sg, k.get (nin1' (pot_strs I.hp I.hN)) I.hN, k.get ⟨I.aF.1, trivial⟩ I.el, fun f hf => (I.fa f hf).step (.pot k I.hp) (.refl _), I.nfl, I.aF⟩
theorem FnI.bound {CM CL : Addr} {H0 H H' : Hp} {p M F L N fl : Addr} {zs : List Str} {mos0 mos mos' : List Mo} {fns : List Fn} (I : FnI CM CL H0 H p M F L N fl zs mos0 mos fns) (W1 : Wd CM CL H' M F L zs mos') (sg : mos'.map Mo.sig = mos.map Mo.sig) (t : TIK H H') (k : Kp (Dcts mos) H H') (g : Grow mos mos') : FnI CM CL H0 H' p M F L N fl zs mos0 mos' fns := by
  have hp' : PotOk H' p := by
    obtain ⟨s, e⟩ := id I.hp
    exact I.hp.kp k (I.W.nin e)
  exact ⟨I.kp.tr (k.weak fun x hx => by rw [dcts_sig I.sg] at hx; exact List.mem_cons_of_mem _ hx), I.tk.tr t, hp', W1, sg.trans I.sg, k.get (I.W.nin I.hN) I.hN, k.get (I.W.nin I.el) I.el, fun f hf => (I.fa f hf).step t g, I.nfl, I.aF⟩
theorem FnI.put {CM CL : Addr} {H0 H : Hp} {p M F L N fl : Addr} {zs : List Str} {mos0 mos : List Mo} {fns : List Fn} {f : Fn} (I : FnI CM CL H0 H p M F L N fl zs mos0 mos fns) (hf : FnAt CL H zs mos f) : FnI CM CL H0 (upd H fl (.lst (fns.map (fun f : Fn => V.ref f.t) ++ [.ref f.t]))) p M F L N fl zs mos0 mos (fns ++ [f]) := by
  have k : Kp [fl] H (upd H fl (.lst (fns.map (fun f : Fn => V.ref f.t) ++ [.ref f.t]))) := Kp.refl.upd_mem List.mem_cons_self
  have t : TIK H (upd H fl (.lst (fns.map (fun f : Fn => V.ref f.t) ++ [.ref f.t]))) := .of k fun x hx => by rw [List.mem_singleton.mp hx]; exact .inl ⟨_, I.el⟩
  obtain ⟨a1, a2, a3, a4, a5, _⟩ := id I.aF
  have nd := I.W.nin I.el
  refine ⟨I.kp.upd_loc I.nfl, I.tk.tr t, I.hp.kp k ⟨a1.symm, trivial⟩, I.W.kp k t ⟨a2.symm, trivial⟩ ⟨a3.symm, trivial⟩ ⟨a4.symm, trivial⟩ fun o ho => ⟨nin1' fun e => nd.of_mem (dcts_of ho (x := o.d) (by simp)) e, nin1' fun e => nd.of_mem (dcts_of ho (x := o.e) (by simp)) e⟩,
    I.sg, k.get ⟨a5.symm, trivial⟩ I.hN, by rw [upd_same, List.map_append]; rfl, fun g hg => ?_, I.nfl, I.aF⟩
  rcases List.mem_append.mp hg with hg | hg
  · exact (I.fa g hg).step t (.refl _)
  · rw [List.mem_singleton.mp hg]; exact hf.step t (.refl _)
def spFunctions (CM CL : Addr) : Sp := fun vs H Q _ => ∃ (p F N M L : Addr) (zs : List Str) (mos : List Mo), vs = [.ref p, .ref F, .ref N, .ref M, .ref L] ∧ PotOk H p ∧ Wd CM CL H M F L zs mos ∧ H N = some (.lst (zs.map V.str)) ∧ zs ≠ [] ∧
  ∀ H' fl mos' fns, FnI CM CL H H' p M F L N fl zs mos mos' fns → fns ≠ [] → fns.length ≤ 4 → Q (.ref fl) H'
def spTaken (CM CL : Addr) : Sp := fun vs H Q _ => ∃ (p fl M L F : Addr) (zs : List Str) (mos : List Mo) (fns : List Fn), vs = [.ref p, .ref fl, .ref M, .ref L] ∧ PotOk H p ∧ Wd CM CL H M F L zs mos ∧ H fl = some (.lst (fns.map fun f : Fn => V.ref f.t)) ∧ fns ≠ [] ∧ fns.length ≤ 4 ∧ (∀ f ∈ fns, FnAt CL H zs mos f) ∧
  ∀ H' t l dl home cs o, Kp [p] H H' → PotOk H' p → H' t = some (.tup [.ref l, .int (home : Nat), .str (Txt.join "." cs)]) → mos[home]? = some o → H' l = some (.ins CL dl (lateF o.m (Txt.join "." cs))) → RoadP zs cs → Q (.ref t) H'
def spRight (K : PySem.W.Frag) (CM CL : Addr) : Sp := fun vs H Q _ => ∃ (F L M t C l dl : Addr) (home : Nat) (cs zs : List Str) (mos : List Mo) (ch : List Lk) (o : Mo), vs = [.ref F, .ref L, .ref M, .ref t, .ref C] ∧ Wd CM CL H M F L zs mos ∧ H t = some (.tup [.ref l, .int (home : Nat), .str (Txt.join "." cs)]) ∧
  mos[home]? = some o ∧ H l = some (.ins CL dl (lateF o.m (Txt.join "." cs))) ∧ RoadP zs cs ∧ ChAt mos.length H C ch ∧ ∀ H', Kp [] H H' → Q (.bl true) H'
section
variable {P : Program} {w : World} {K : PySem.W.Frag} {mg : Str → Option Value} {base : Heap} {C_MadeError C_Fault C_Module C_Late : Addr}
theorem ok_l_functions {f : Addr} {fd : FuncData} (F : Fun K "_law_functions" "_law_functions" s_l_functions f fd) (T : Txt K mg C_MadeError C_Fault C_Module C_Late)
    (D_l_draw : DnF P w K mg base 1 "_law_draw" ["_law_pot_here", "_law_room"] spDraw) (D_l_road : DnF P w K mg base 2 "_law_road" ["_law_pot_here", "_law_names_here"] spRoad) (D_Late_init : DkF P w K mg base 1 C_Late ["self", "home", "road"] (spLInit C_Late)) (D_Module_bind : DmF P w K mg base 1 C_Module "bind" ["self", "name", "thing"] (spBind C_Module)) :
    FnOk P w K mg base CX0 3 f fd ["_law_pot_here", "_law_facts_here", "_law_names_here", "_law_modules", "_law_models"] (spFunctions C_Module C_Late) := by
  refine F.ok sc_l_functions (fun vs H Q E h => ?_) (fun cdv A outer s H vs Q E hr h => ?_)
  · obtain ⟨p, F, N, M, L, zs, mos, rfl, _⟩ := h
    rfl
  · obtain ⟨f_l_draw, fd_l_draw, G_l_draw, m_l_draw, k_l_draw, b_l_draw⟩ := D_l_draw; obtain ⟨f_l_road, fd_l_road, G_l_road, m_l_road, k_l_road, b_l_road⟩ := D_l_road; obtain ⟨f_Late_init, fd_Late_init, G_Late_init, M_Late, b_Late_init⟩ := D_Late_init; obtain ⟨f_Module_bind, fd_Module_bind, G_Module_bind, mt_Module_bind, b_Module_bind⟩ := D_Module_bind
    obtain ⟨p, F, N, M, L, zs, mos0, rfl, hp, W, hN, nz, q⟩ := h
    have hu := hu_of hr
    have zl := W.zl
    have lz := List.length_pos_iff.mpr nz
    refine ⟨_, (pss_cons (ps_set (i := 5) sc_l_functions.nd rfl (Or.inl rfl) (pe_lst pa_nil))
      (pss_cons (ps_for PassesOwn.never rfl (pi_range1 rfl T.n_range (pa_cons (pe_op op_add pe_int (pe_call G_l_draw (hr.mono (by first | decide | omega)) (by rfl) m_l_draw k_l_draw b_l_draw .nil pass0 (pa_cons (pv 0) (pa_cons pe_int pa_nil)))) pa_nil)) (pg_name (i := 6) sc_l_functions.nd rfl (Or.inl rfl)) (pss_cons (ps_set (i := 7) sc_l_functions.nd rfl (Or.inl rfl) (pe_call G_l_draw (hr.mono (by first | decide | omega)) (by rfl) m_l_draw k_l_draw b_l_draw .nil pass0 (pa_cons (pv 0) (pa_cons (pe_callB (lenK (K := K) rfl) (by rfl) T.n_len (by decide +kernel) (pa_cons (pv 1) pa_nil)) pa_nil))))
      (pss_cons (ps_set (i := 8) sc_l_functions.nd rfl (Or.inl rfl) (pe_call G_l_road (hr.mono (by first | decide | omega)) (by rfl) m_l_road k_l_road b_l_road .nil pass0 (pa_cons (pv 0) (pa_cons (pv 2) pa_nil))))
      (pss_cut2 (ps_if (PW.pt (pw_and (pt_cmpR (neNilK (K := K) rfl hr.units) (pv 5) (pe_lst pa_nil) (nomark _)) (pw_and1 (pt_cmpR op_eq (pe_call G_l_draw (hr.mono (by first | decide | omega)) (by rfl) m_l_draw k_l_draw b_l_draw .nil pass0 (pa_cons (pv 0) (pa_cons pe_int pa_nil))) pe_int (nomark _))))) (pss_one (ps_set (i := 8) sc_l_functions.nd rfl (Or.inl rfl) (pe_ix (ixTK (K := K) rfl) (pe_ix (ixLK (K := K) rfl) (pv 5) (pe_un un_neg pe_int) (fun _ _ => rfl)) pe_int (fun _ _ => rfl)))) pss_nil)
      (pss_cons (ps_set (i := 9) sc_l_functions.nd rfl (Or.inl rfl) (pe_make M_Late G_Late_init (hr.mono (by first | decide | omega)) (by rfl) T.mg_Late b_Late_init .nil pass0 (pa_cons (pe_ix (ixLK (K := K) rfl) (pv 3) (pv 7) (fun _ _ => rfl)) (pa_cons (pv 8) pa_nil))))
      (pss_cons (ps_set (i := 10) sc_l_functions.nd rfl (Or.inl rfl) (pe_call G_l_draw (hr.mono (by first | decide | omega)) (by rfl) m_l_draw k_l_draw b_l_draw .nil pass0 (pa_cons (pv 0) (pa_cons (pe_callB (lenK (K := K) rfl) (by rfl) T.n_len (by decide +kernel) (pa_cons (pv 1) pa_nil)) pa_nil))))
      (pss_cons (ps_set (i := 11) sc_l_functions.nd rfl (Or.inl rfl) (pe_ix (ixLK (K := K) rfl) (pv 2) (pe_call G_l_draw (hr.mono (by first | decide | omega)) (by rfl) m_l_draw k_l_draw b_l_draw .nil pass0 (pa_cons (pv 0) (pa_cons (pe_callB (lenK (K := K) rfl) (by rfl) T.n_len (by decide +kernel) (pa_cons (pv 2) pa_nil)) pa_nil))) (fun _ _ => rfl)))
      (pss_cons (ps_expr (pe_meth (pe_ix (ixLK (K := K) rfl) (pv 3) (pv 10) (fun _ _ => rfl)) T.cl_Module mt_Module_bind G_Module_bind (hr.mono (by first | decide | omega)) b_Module_bind .nil pass0 (pa_cons (pv 11) (pa_cons (pv 9) pa_nil))))
      (pss_cons (ps_dput hu (pe_ix (ixLK (K := K) rfl) (pv 4) (pv 10) (fun _ _ => rfl)) (pv 11) (pe_tup (pa_cons pe_int (pa_cons (pv 7) (pa_cons (pv 8) pa_nil)))) rfl)
      (pss_one (ps_expr (kBM (K := K) rfl (pe_bm PySem.F.plainAttrs_list PySem.F.slot_list_append PySem.F.type_list_append mt_append (pv 5) (pa_cons (pe_tup (pa_cons (pv 9) (pa_cons (pv 7) (pa_cons (pv 8) (pa_cons (pv 10) (pa_cons (pv 11) pa_nil)))))) pa_nil))))))))))))))
      (pss_one (ps_ret (pv 5))))), ?_⟩
    refine st_start (σ' := [some (.ref p), some (.ref F), some (.ref N), some (.ref M), some (.ref L), none, none, none, none, none, none, none]) rfl ?_
    walk_at "S"
    refine ⟨small_le (by simp), fun fl hfl => ?_⟩
    have npl := hp.ne hfl
    have kS : Kp [] H (upd H fl (.lst [])) := Kp.refl.upd_new hfl
    have I0 : FnI C_Module C_Late H (upd H fl (.lst [])) p M F L N fl zs mos0 mos0 [] := ⟨Kp.nil_W kS, .same kS, hp.upd npl, W.same kS, rfl, kS.get trivial hN, upd_same, by simp, hfl, ⟨npl.symm, (ne_of_none W.M hfl).symm, (ne_of_none W.F hfl).symm, (ne_of_none W.L hfl).symm, (ne_of_none hN hfl).symm, trivial⟩⟩
    generalize upd H fl (.lst []) = Hs at *
    walk_at "S"
    refine ⟨p, _, rfl, I0.hp, by omega, by omega, fun H1 v1 k1 hp1 a0 a1 => ?_⟩
    have I1 := I0.pot k1 hp1
    walk_at "S"
    refine ⟨by omega, by omega, ?_⟩
    refine for_go walk_range (fun i σ H2 => ∃ (o6 o7 o8 o9 o10 o11 : Option V) (mos : List Mo) (fns : List Fn), σ = [some (.ref p), some (.ref F), some (.ref N), some (.ref M), some (.ref L), some (.ref fl), o6, o7, o8, o9, o10, o11] ∧ FnI C_Module C_Late H H2 p M F L N fl zs mos0 mos fns ∧ fns.length = i)
      ⟨_, _, _, _, _, _, mos0, [], rfl, I1, rfl⟩ (fun _ _ _ _ _ => trivial) (fun i x σ Ha Hb hi I y => ?_) fun σ H2 I => ?_
    · obtain ⟨rfl, rfl⟩ := y
      obtain ⟨o6, o7, o8, o9, o10, o11, mos, fns, rfl, I2, lf⟩ := I
      have eF2 := I2.W.F
      have lm := sig_len I2.sg
      have fewm := I2.W.few
      have lm0 := List.length_pos_iff.mpr I2.W.ne
      walk_at "S"
      rw [List.length_map]
      refine ⟨p, _, rfl, I2.hp, by omega, by omega, fun H3 v3 k3 hp3 b0 b1 => ?_⟩
      have I3 := I2.pot k3 hp3
      obtain ⟨home, rfl⟩ := Int.eq_ofNat_of_zero_le b0
      walk_at "S"
      refine ⟨p, N, zs, rfl, hp3, I3.hN, I3.W.zok, nz, zl, fun H4 r k4 hp4 okr ro => ?_⟩
      have I4 := I3.pot k4 hp4
      obtain ⟨cs, rfl, rp⟩ := RoadP.of okr ro
      walk_at "S"
      refine s_cut (fun σ H5 => ∃ cs : List Str, σ = [some (.ref p), some (.ref F), some (.ref N), some (.ref M), some (.ref L), some (.ref fl), some (.int (0 + (i : Int))), some (.int (home : Nat)), some (.str (Txt.join "." cs)), o9, o10, o11] ∧ RoadP zs cs ∧ FnI C_Module C_Late H H5 p M F L N fl zs mos0 mos fns) (fun J hJ => ?_) ?_
      · walk_at "S"
        refine ⟨small_le (by simp), fun e0 he0 => ?_⟩
        have k5 : Kp [] H4 (upd H4 e0 (.lst [])) := Kp.refl.upd_new he0
        have I5 := I4.same k5
        have el5 := I5.el
        walk_at "S"
        refine s_nil0 (sq_l el5) (sq_l upd_same) ?_
        walk_at "S"
        generalize upd H4 e0 (.lst []) = H5 at *
        rcases List.eq_nil_or_concat fns with hfn | ⟨pre, f, hfn⟩
        · rw [show ((fns.map fun f : Fn => V.ref f.t).isEmpty) = true from by rw [hfn]; rfl]
          refine s_bool (fun h => absurd (show false = true from h) (by decide)) (fun _ => ?_)
          walk_at "S"
          exact hJ _ _ ⟨cs, rfl, rp, I5⟩
        · rw [List.concat_eq_append] at hfn
          rw [show ((fns.map fun f : Fn => V.ref f.t).isEmpty) = false from by rw [hfn]; simp]
          walk_at "S"
          refine ⟨p, _, rfl, I5.hp, by omega, by omega, fun H6 v6 k6 hp6 c0 c1 => ?_⟩
          have I6 := I5.pot k6 hp6
          walk_at "S"
          refine s_dec (fun _ => ?_) (fun _ => ?_)
          · have el6 := I6.el
            have hf := I6.fa f (by rw [hfn]; simp)
            have tf := hf.tup
            walk_at "S"
            refine s_ixL (sq_l el6) (by rw [hfn, List.map_append]; exact atI_last _ _ : atI _ _ = some (.ref f.t)) ?_
            walk_at "S"
            exact hJ _ _ ⟨f.cs, rfl, hf.road, I6⟩
          · walk_at "S"
            exact hJ _ _ ⟨cs, rfl, rp, I6⟩
      · rintro σ H5 ⟨cs, rfl, rp, I5⟩
        have hh : home < mos.length := by omega
        have eh := List.getElem?_eq_getElem hh
        generalize mos[home] = o at eh
        walk_at "S"
        refine s_ixL (sq_l I5.W.M) (atI_nat (by rw [List.getElem?_map, eh]; rfl) : atI _ ((home : Nat) : Int) = some (.ref o.m)) ?_
        walk_at "S"
        intro l dl hl hdl nld
        have kL : Kp [] H5 (upd (upd H5 dl (.own l)) l (.ins C_Late dl [])) := by
          have : (upd H5 dl (.own l)) l = none := (upd_ne nld.symm).trans hl
          walk_at "K"
        refine ⟨l, dl, o.m, Txt.join "." cs, rfl, upd_same, fun H6 k6 e6 => ⟨rfl, ?_⟩⟩
        have k56 : Kp [] H5 H6 := kL.step k6 fun x hx => .inr (by rw [List.mem_singleton.mp hx]; exact hl)
        have I6 := I5.same k56
        have eF6 := I6.W.F
        walk_at "S"
        rw [List.length_map]
        refine ⟨p, _, rfl, I6.hp, by omega, by omega, fun H7 v7 k7 hp7 c0 c1 => ?_⟩
        have I7 := I6.pot k7 hp7
        have e7 := (TIK.pot k7 I6.hp).ins e6
        obtain ⟨which, rfl⟩ := Int.eq_ofNat_of_zero_le c0
        have hN7 := I7.hN
        walk_at "S"
        rw [List.length_map]
        refine ⟨p, _, rfl, I7.hp, by omega, by omega, fun H8 v8 k8 hp8 d0 d1 => ?_⟩
        have I8 := I7.pot k8 hp8
        have e8 := (TIK.pot k8 I7.hp).ins e7
        obtain ⟨jz, z, rfl, hjz, ejz, mz, az⟩ := pickM (g := V.str) d0 d1
        refine s_ixL (sq_l I8.hN) az ?_
        have hw : which < mos.length := by omega
        have ew := List.getElem?_eq_getElem hw
        generalize mos[which] = ow at ew
        have mow := List.mem_of_getElem? ew
        have okw := I8.W.mo ow mow
        obtain ⟨dx, em⟩ := okw.md
        have bn := okw.few
        walk_at "S"
        refine s_ixL (sq_l I8.W.M) (atI_nat (by rw [List.getElem?_map, ew]; rfl) : atI _ ((which : Nat) : Int) = some (.ref ow.m)) ?_
        walk_at "S"
        refine s_insM em (lk_meth (m := "bind") _ _ _ (by decide +kernel)) ?_
        walk_at "S"
        refine ⟨ow.m, ow.d, ow.n, ow.q, z, .ref l, kv1 ow.B, rfl, okw.at_, by unfold kv1; rw [List.length_map]; omega, ?_⟩
        have eL : upd H8 ow.d (.dK (putK (kv1 ow.B) (.inr z) (.ref l))) L = some (.lst (mos.map fun o => V.ref o.e)) := (upd_ne (fun e => by have := I8.W.L; rw [e, okw.d] at this; cases this)).trans I8.W.L
        have ee : upd H8 ow.d (.dK (putK (kv1 ow.B) (.inr z) (.ref l))) ow.e = some (.dK (kv2 ow.B)) := (upd_ne (I8.W.de ow mow).symm).trans okw.e
        walk_at "S"
        refine ⟨small_le (by simp), fun u hu => ?_⟩
        have nud : u ≠ ow.d := fun e => by rw [e, upd_same] at hu; cases hu
        have hu8 : H8 u = none := (upd_ne nud).symm.trans hu
        have k9 : Kp [] H8 (upd H8 u (.tup [.int 2, .int (home : Nat), .str (Txt.join "." cs)])) := Kp.refl.upd_new hu8
        have I9 := I8.same k9
        walk_at "S"
        refine s_ixL (sq_l ((upd_ne (ne_of_none eL hu)).trans eL)) (eAt ew) ?_
        walk_at "S"
        refine s_putS ((upd_ne (ne_of_none ee hu)).trans ee) (small_lt (by unfold kv2; rw [List.length_map]; omega)) ?_
        rw [upd_comm nud.symm]
        obtain ⟨W9, t9, k9'⟩ := I9.W.bind (kd := .late home (Txt.join "." cs)) ew mz (.late hh rp.ok rp.road) (.late (b := o.bs) (by rw [List.getElem?_map, eh]; rfl) (k9.get trivial e8)) upd_same
        have g9 : Grow mos (mos.set which (ow.put z (.ref l) (.ref u))) := grow_set ew
        have I10 := I9.bound W9 (map_set_same Mo.sig ew rfl) t9 (k9'.weak fun x hx => dcts_of mow hx) g9
        have e10 := t9.ins (k9.get trivial e8)
        generalize upd (upd (upd H8 u (.tup [.int 2, .int (home : Nat), .str (Txt.join "." cs)])) ow.d (.dK (putK (kv1 ow.B) (.inr z) (.ref l)))) ow.e (.dK (putK (kv2 ow.B) (.inr z) (.ref u))) = H10 at *
        have el10 := I10.el
        walk_at "S"
        refine ⟨small_le (by simp), fun t ht => ?_⟩
        have k11 := Kp.refl.upd_new (W := []) (o := .tup [.ref l, .int (home : Nat), .str (Txt.join "." cs), .int (which : Nat), .str z]) ht
        have I11 := I10.same k11
        have el11 := I11.el
        walk_at "S"
        refine s_append el11 (small_lt (by rw [List.length_map]; omega)) ?_
        walk_at "S"
        refine ⟨_, _, _, _, _, _, _, fns ++ [⟨t, l, dl, home, cs, which, z⟩], rfl, I11.put (f := ⟨t, l, dl, home, cs, which, z⟩) ⟨upd_same, ?_, rp, ?_, mz⟩, by rw [List.length_append, lf]; rfl⟩
        · obtain ⟨o', e', s', _⟩ := g9 _ _ eh
          have em' : o'.m = o.m := congrArg (·.1) s'
          exact ⟨o', e', by show _ = some (HO.ins C_Late dl (lateF o'.m _)); rw [em']; exact k11.get trivial e10⟩
        · exact ⟨_, by rw [List.getElem?_set, if_pos rfl, if_pos hw], putB_self⟩
    · obtain ⟨o6, o7, o8, o9, o10, o11, mos, fns, rfl, I2, lf⟩ := I
      walk_at "S"
      exact q H2 fl mos fns I2 (fun e => by rw [e] at lf; simp at lf; omega) (by omega)
theorem ok_l_taken {f : Addr} {fd : FuncData} (F : Fun K "_law_taken" "_law_taken" s_l_taken f fd) (T : Txt K mg C_MadeError C_Fault C_Module C_Late)
    (D_l_draw : DnF P w K mg base 1 "_law_draw" ["_law_pot_here", "_law_room"] spDraw) (D_Module_thing_of : DmF P w K mg base 1 C_Module "thing_of" ["self", "name"] (spThing C_Module)) :
    FnOk P w K mg base CX0 2 f fd ["_law_pot_here", "_law_functions_here", "_law_modules", "_law_models"] (spTaken C_Module C_Late) := by
  refine F.ok sc_l_taken (fun vs H Q E h => ?_) (fun cdv A outer s H vs Q E hr h => ?_)
  · obtain ⟨p, fl, M, L, F, zs, mos, fns, rfl, _⟩ := h
    rfl
  · obtain ⟨f_l_draw, fd_l_draw, G_l_draw, m_l_draw, k_l_draw, b_l_draw⟩ := D_l_draw; obtain ⟨f_Module_thing_of, fd_Module_thing_of, G_Module_thing_of, mt_Module_thing_of, b_Module_thing_of⟩ := D_Module_thing_of
    obtain ⟨p, fl, M, L, F, zs, mos, fns, rfl, hp, W, hfl, nf, lf, fa, q⟩ := h
    have hu := hu_of hr
    have lf0 := List.length_pos_iff.mpr nf
    refine ⟨_, (pss_cons (ps_asg (pe_ix (ixLK (K := K) rfl) (pv 1) (pe_call G_l_draw (hr.mono (by first | decide | omega)) (by rfl) m_l_draw k_l_draw b_l_draw .nil pass0 (pa_cons (pv 0) (pa_cons (pe_callB (lenK (K := K) rfl) (by rfl) T.n_len (by decide +kernel) (pa_cons (pv 1) pa_nil)) pa_nil))) (fun _ _ => rfl)) (kgT (K := K) rfl (pg_tup rfl (pgs_cons (pg_name (i := 4) sc_l_taken.nd rfl (Or.inl rfl)) (pgs_cons (pg_name (i := 5) sc_l_taken.nd rfl (Or.inl rfl)) (pgs_cons (pg_name (i := 6) sc_l_taken.nd rfl (Or.inl rfl)) (pgs_cons (pg_name (i := 7) sc_l_taken.nd rfl (Or.inl rfl)) (pgs_cons (pg_name (i := 8) sc_l_taken.nd rfl (Or.inl rfl)) pgs_nil))))))))
      (pss_cons (ps_if (PW.pt (pw_and (pt_cmpR op_eq (pe_call G_l_draw (hr.mono (by first | decide | omega)) (by rfl) m_l_draw k_l_draw b_l_draw .nil pass0 (pa_cons (pv 0) (pa_cons pe_int pa_nil))) pe_int (nomark _)) (pw_and1 (pt_cmpR op_eq (pe_ix (ixTK (K := K) rfl) (pe_dget hu (pe_ix (ixLK (K := K) rfl) (pv 3) (pv 7) (fun _ _ => rfl)) (pv 8) (fun _ _ => rfl)) pe_int (fun _ _ => rfl)) pe_int (nomark _))))) (pss_cons (ps_set (i := 9) sc_l_taken.nd rfl (Or.inl rfl) (pe_dget hu (pe_ix (ixLK (K := K) rfl) (pv 3) (pv 7) (fun _ _ => rfl)) (pv 8) (fun _ _ => rfl)))
      (pss_one (ps_ret (pe_tup (pa_cons (pe_meth (pe_ix (ixLK (K := K) rfl) (pv 2) (pv 7) (fun _ _ => rfl)) T.cl_Module mt_Module_thing_of G_Module_thing_of (hr.mono (by first | decide | omega)) b_Module_thing_of .nil pass0 (pa_cons (pv 8) pa_nil)) (pa_cons (pe_ix (ixTK (K := K) rfl) (pv 9) pe_int (fun _ _ => rfl)) (pa_cons (pe_ix (ixTK (K := K) rfl) (pv 9) pe_int (fun _ _ => rfl)) pa_nil))))))) pss_nil)
      (pss_one (ps_ret (pe_tup (pa_cons (pv 4) (pa_cons (pv 5) (pa_cons (pv 6) pa_nil)))))))), ?_⟩
    refine st_start (σ' := [some (.ref p), some (.ref fl), some (.ref M), some (.ref L), none, none, none, none, none, none]) rfl ?_
    walk_at "S"
    rw [List.length_map]
    refine ⟨p, _, rfl, hp, by omega, by omega, fun H1 v1 k1 hp1 a0 a1 => ?_⟩
    have W1 := W.pot k1 hp
    have hfl1 := k1.get (nin1' (pot_refs hp hfl)) hfl
    obtain ⟨jf, rfl⟩ := Int.eq_ofNat_of_zero_le a0
    have hjf : jf < fns.length := by omega
    have ef := List.getElem?_eq_getElem hjf
    have mf := List.getElem_mem hjf
    generalize fns[jf] = f at ef mf
    have t1 := TIK.pot k1 hp
    have F1 := (fa f mf).step t1 (.refl mos)
    have tf := F1.tup
    refine s_ixL (sq_l hfl1) (atI_nat (by rw [List.getElem?_map, ef]; rfl) : atI _ ((jf : Nat) : Int) = some (.ref f.t)) ?_
    walk_at "S"
    refine ⟨p, _, rfl, hp1, by omega, by omega, fun H2 v2 k2 hp2 b0 b1 => ?_⟩
    have W2 := W1.pot k2 hp1
    have F2 := F1.step (.pot k2 hp1) (.refl mos)
    have k02 := k1.tr k2
    obtain ⟨oh, eh, hl⟩ := F2.late
    obtain ⟨ow, ew, kw⟩ := F2.key
    have mow := List.mem_of_getElem? ew
    have okw := W2.mo ow mow
    have own : ∀ t, H2 t = none → Q (.ref t) (upd H2 t (.tup [.ref f.l, .int (f.home : Nat), .str (Txt.join "." f.cs)])) := fun t ht =>
      q _ t f.l f.dl f.home f.cs oh (k02.upd_new ht) (hp2.kp (Kp.refl (W := []) |>.upd_new ht) trivial) upd_same eh ((Kp.refl (W := []) |>.upd_new ht).get trivial hl) F2.road
    walk_at "S"
    refine s_dec (fun _ => ?_) (fun _ => ?_)
    rotate_left
    · walk_at "S"
      exact ⟨small_le (by simp), fun t ht => own t ht⟩
    walk_at "S"
    refine s_ixL (sq_l W2.L) (eAt ew) ?_
    walk_at "S"
    rcases mdl W2 ew f.z with ⟨_, n2⟩ | ⟨v, tt, kd, s1, s2, ht, kok, th⟩
    · exact absurd kw (val_none_key n2)
    refine s_getS okw.e s2 ?_
    walk_at "S"
    refine s_ixT (sq_t ht) kd.at0 ?_
    walk_at "S"
    refine s_dec (fun h => ?_) (fun h => ?_)
    rotate_left
    · walk_at "S"
      exact ⟨small_le (by simp), fun t ht => own t ht⟩
    cases th with
    | int => cases V.int.inj h
    | mod => exact absurd (V.int.inj h) (by show ¬ (1 : Int) = 2; decide)
    | late ej2 el2 =>
      rename_i j2 b l2 dl2 r
      obtain ⟨o2, e2, m2, rfl⟩ := base_at ej2
      cases kok with
      | late hj2 okr ro =>
        obtain ⟨cs, rfl, rp⟩ := RoadP.of okr ro
        obtain ⟨dx, em⟩ := okw.md
        simp only [Kd.vs] at ht
        walk_at "S"
        refine s_ixL (sq_l W2.L) (eAt ew) ?_
        walk_at "S"
        refine s_getS okw.e s2 ?_
        walk_at "S"
        refine s_ixL (sq_l W2.M) (atI_nat (by rw [List.getElem?_map, ew]; rfl) : atI _ ((f.which : Nat) : Int) = some (.ref ow.m)) ?_
        walk_at "S"
        refine s_insM em (lk_meth (m := "thing_of") _ _ _ (by decide +kernel)) ?_
        walk_at "S"
        refine ⟨ow.m, ow.d, ow.n, ow.q, f.z, kv1 ow.B, rfl, okw.at_, ?_⟩
        rw [s1]
        walk_at "S"
        exact ⟨small_le (by simp), fun t h3 => q _ t l2 dl2 j2 cs o2 (k02.upd_new h3) (hp2.kp (Kp.refl (W := []) |>.upd_new h3) trivial) upd_same e2 ((Kp.refl (W := []) |>.upd_new h3).get trivial el2) rp⟩
theorem ok_l_right {f : Addr} {fd : FuncData} (F : Fun K "_law_right" "_law_right" s_l_right f fd) (T : Txt K mg C_MadeError C_Fault C_Module C_Late)
    (D_l_handed : DnF P w K mg base 1 "_law_handed" ["_law_modules", "_law_chain_here"] spHanded) (D_l_due : DnF P w K mg base 2 "_law_due" ["_law_facts_here", "_law_models", "_law_chain_here", "_law_at_here", "_law_road_here"] (spDueL K C_Module C_Late)) (D_told : DnF P w K mg base 1 "told" ["thing"] (spTold C_Module C_Late)) (D_l_agrees : DnG P w K mg base 3 "_law_agrees" ["_law_said_here", "_law_due_here", "_law_facts_here", "_law_models"] (spAgrees K C_Module C_Late)) (D_l_said : DnF P w K mg base 7 "_law_said" ["_law_late", "_law_handed_here"] (spSaid K C_Module C_Late)) :
    FnG P w K mg base 8 f fd ["_law_facts_here", "_law_models", "_law_modules", "_law_function", "_law_chain_here"] (spRight K C_Module C_Late) := by
  refine fnG_of F sc_l_right (fun vs H Q E h => ?_) (fun cdv A outer s H vs Q E hG hr h => ?_)
  · obtain ⟨F, L, M, t, C, l, dl, home, cs, zs, mos, ch, o, rfl, _⟩ := h
    rfl
  · obtain ⟨f_l_handed, fd_l_handed, G_l_handed, m_l_handed, k_l_handed, b_l_handed⟩ := D_l_handed; obtain ⟨f_l_due, fd_l_due, G_l_due, m_l_due, k_l_due, b_l_due⟩ := D_l_due; obtain ⟨f_told, fd_told, G_told, m_told, k_told, b_told⟩ := D_told; obtain ⟨f_l_agrees, fd_l_agrees, G_l_agrees, m_l_agrees, k_l_agrees, b_l_agrees⟩ := D_l_agrees; obtain ⟨f_l_said, fd_l_said, G_l_said, m_l_said, k_l_said, b_l_said⟩ := D_l_said
    obtain ⟨F, L, M, t, C, l, dl, home, cs, zs, mos, ch, o, rfl, W, ht, eh, hl, rp, hch, q⟩ := h
    have okc : ∀ c ∈ cs, OkN c := fun c hc => W.zok c (rp.mem c hc)
    have jl := join_len rp.ne okc rp.few
    have ok := W.mo o (List.mem_of_getElem? eh)
    have hn : o.n.natAbs < 10 ^ 60 := ok.fo.pos
    have hz : OkN (goF mos home cs).2.2 := okc _ (goF_mem rp.ne)
    have e6 := rp.ok
    refine ⟨_, (pss_cons (ps_asg (pv 3) (kgT (K := K) rfl (pg_tup rfl (pgs_cons (pg_name (i := 5) sc_l_right.nd rfl (Or.inl rfl)) (pgs_cons (pg_name (i := 6) sc_l_right.nd rfl (Or.inl rfl)) (pgs_cons (pg_name (i := 7) sc_l_right.nd rfl (Or.inl rfl)) pgs_nil))))))
      (pss_cons (ps_set (i := 8) sc_l_right.nd rfl (Or.inl rfl) (pe_call G_l_handed (hr.mono (by first | decide | omega)) (by rfl) m_l_handed k_l_handed b_l_handed .nil pass0 (pa_cons (pv 2) (pa_cons (pv 4) pa_nil))))
      (pss_cons (ps_set (i := 9) sc_l_right.nd rfl (Or.inl rfl) (pe_call G_l_due (hr.mono (by first | decide | omega)) (by rfl) m_l_due k_l_due b_l_due .nil pass0 (pa_cons (pv 0) (pa_cons (pv 1) (pa_cons (pv 4) (pa_cons (pv 6) (pa_cons (pe_m1 PySem.F.slot_str_split PySem.F.type_str_split splitR (pv 7) pe_str) pa_nil)))))))
      (pss_cons (ps_for PassesOwn.never rfl (pi_range1 rfl T.n_range (pa_cons pe_int pa_nil)) (pg_name (i := 10) sc_l_right.nd rfl (Or.inl rfl)) (pss_cons (ps_if (pt_cmpR op_ne (pe_callB (reprAK (K := K) rfl hG hr.units) (by rfl) T.n_repr (by decide +kernel) (pa_cons (pe_call G_told (hr.mono (by first | decide | omega)) (by rfl) m_told k_told b_told .nil pass0 (pa_cons (pv 5) pa_nil)) pa_nil)) (pe_callB (reprAK (K := K) rfl hG hr.units) (by rfl) T.n_repr (by decide +kernel) (pa_cons (pe_tup (pa_cons pe_str (pa_cons (pe_ix (ixTK (K := K) rfl) (pe_ix (ixLK (K := K) rfl) (pv 0) (pv 6) (fun _ _ => rfl)) pe_int (fun _ _ => rfl)) (pa_cons (pv 7) pa_nil)))) pa_nil)) (nomark _)) (pss_one (ps_ret pe_bl)) pss_nil)
      (pss_one (ps_if (PW.pt (pw_or (pt_not (pt_val (pe_callG G_l_agrees hG (hr.mono (by first | decide | omega)) (by rfl) m_l_agrees k_l_agrees b_l_agrees .nil (pa_cons (pe_call G_l_said (hr.mono (by first | decide | omega)) (by rfl) m_l_said k_l_said b_l_said .nil pass0 (pa_cons (pv 5) (pa_cons (pv 8) pa_nil))) (pa_cons (pv 9) (pa_cons (pv 0) (pa_cons (pv 1) pa_nil))))))) (pw_or1 (pt_cmpR (nePK (K := K) rfl hr.units) (pv 8) (pe_call G_l_handed (hr.mono (by first | decide | omega)) (by rfl) m_l_handed k_l_handed b_l_handed .nil pass0 (pa_cons (pv 2) (pa_cons (pv 4) pa_nil))) (nomark _))))) (pss_one (ps_ret pe_bl)) pss_nil))))
      (pss_one (ps_ret (pe_cmpR op_eq (pe_callB (reprAK (K := K) rfl hG hr.units) (by rfl) T.n_repr (by decide +kernel) (pa_cons (pe_call G_told (hr.mono (by first | decide | omega)) (by rfl) m_told k_told b_told .nil pass0 (pa_cons (pv 5) pa_nil)) pa_nil)) (pe_callB (reprAK (K := K) rfl hG hr.units) (by rfl) T.n_repr (by decide +kernel) (pa_cons (pe_tup (pa_cons pe_str (pa_cons (pe_ix (ixTK (K := K) rfl) (pe_ix (ixLK (K := K) rfl) (pv 0) (pv 6) (fun _ _ => rfl)) pe_int (fun _ _ => rfl)) (pa_cons (pv 7) pa_nil)))) pa_nil)) (nomark _)))))))), ?_⟩
    refine st_start (σ' := [some (.ref F), some (.ref L), some (.ref M), some (.ref t), some (.ref C), none, none, none, none, none, none]) rfl ?_
    walk_at "S"
    refine ⟨M, C, mos.map (·.m), ch, rfl, by rw [List.map_map]; exact W.M, by rw [List.length_map]; exact hch, fun H1 Hd hs k1 nh hd eq => ?_⟩
    walk_at "S"
    refine s_splitS (by decide +kernel) (small_le (by omega)) fun R hR => ?_
    rw [split_road rp.ne okc]
    have k2 : Kp [] H (upd H1 R (.lst (cs.map V.str))) := k1.upd_new hR
    have eR : upd H1 R (.lst (cs.map V.str)) R = some (.lst (cs.map V.str)) := upd_same
    have hd2 := hd.same (Kp.refl.upd_new (W := []) (o := .lst (cs.map V.str)) hR)
    generalize upd H1 R (.lst (cs.map V.str)) = H2 at *
    walk_at "S"
    refine ⟨F, L, C, R, M, home, cs, zs, mos, ch, o, rfl, W.same k2, eh, hch.same k2, eR, rp.ne, fun H3 u k3 du => ?_⟩
    have k03 := k2.tr k3
    have hd3 := hd2.same k3
    -- told, as often as asked
    have tl1 : ∀ {Hx : Hp} {R : VK} {E : XK}, Kp [] H Hx → (∀ u, Hx u = none → R (.ref u) (upd Hx u (.tup [.str "function", .int o.n, .str (Txt.join "." cs)]))) → spTold C_Module C_Late [.ref l] Hx R E := fun {Hx R E} k r => by
      obtain ⟨dx, em⟩ := ((W.same k).mo o (List.mem_of_getElem? eh)).md
      exact .inr (.inr ⟨l, dl, o.m, dx, o.d, o.n, o.q, Txt.join "." cs, rfl, k.get trivial hl, em, r⟩)
    walk_at "S"
    refine ⟨by omega, by omega, ?_⟩
    refine for_go walk_range (fun i σ H4 => ∃ o10 : Option V, σ = [some (.ref F), some (.ref L), some (.ref M), some (.ref t), some (.ref C), some (.ref l), some (.int (home : Nat)), some (.str (Txt.join "." cs)), some (.ref Hd), some (.ref u), o10] ∧ Kp [] H3 H4)
      ⟨_, rfl, Kp.refl⟩ (fun _ _ _ _ _ => trivial) (fun i x σ Ha H4 hi I y => ?_) fun σ H4 I => ?_
    · obtain ⟨rfl, rfl⟩ := y
      obtain ⟨o10, rfl, k4⟩ := I
      have k04 := k03.tr k4
      walk_at "S"
      refine tl1 k04 fun u1 hu1 => ?_
      have k05 := k04.upd_new (o := .tup [.str "function", .int o.n, .str (Txt.join "." cs)]) hu1
      have k45 : Kp [] H4 _ := Kp.refl.upd_new (o := .tup [.str "function", .int o.n, .str (Txt.join "." cs)]) hu1
      have eu1 : upd H4 u1 (.tup [.str "function", .int o.n, .str (Txt.join "." cs)]) u1 = some (.tup [.str "function", .int o.n, .str (Txt.join "." cs)]) := upd_same
      generalize upd H4 u1 (.tup [.str "function", .int o.n, .str (Txt.join "." cs)]) = H5 at *
      have W5 := W.same k05
      have ft : H5 o.t = some (.tup [.int o.n, .str o.q]) := (W5.mo o (List.mem_of_getElem? eh)).fo.at_
      walk_at "S"
      refine rep_fun eu1 hn e6 ?_
      walk_at "S"
      refine s_ixL (sq_l W5.F) (tAt eh) ?_
      walk_at "S"
      refine ⟨small_le (by simp), fun u2 hu2 => ?_⟩
      have k06 := k05.upd_new (o := .tup [.str "function", .int o.n, .str (Txt.join "." cs)]) hu2
      have k46 := k45.upd_new (o := .tup [.str "function", .int o.n, .str (Txt.join "." cs)]) hu2
      have eu2 : upd H5 u2 (.tup [.str "function", .int o.n, .str (Txt.join "." cs)]) u2 = some (.tup [.str "function", .int o.n, .str (Txt.join "." cs)]) := upd_same
      generalize upd H5 u2 (.tup [.str "function", .int o.n, .str (Txt.join "." cs)]) = H6 at *
      walk_at "S"
      refine rep_fun eu2 hn e6 ?_
      walk_at "S"
      refine s_ndec (fun h => absurd rfl h) (fun _ => ?_)
      walk_at "S"
      have k36 := k4.tr k46
      refine ⟨l, dl, Hd, M, F, L, home, cs, zs, mos, hs, o, rfl, k06.get trivial hl, W.same k06, eh, hd3.same k36, rp.ne, okc, rp.few, fun H7 v k7 sa => ?_⟩
      rw [eq] at sa
      have k07 := k06.tr k7
      have du7 := du.same (k36.tr k7)
      walk_at "S"
      refine spAgrees_r (C := C) (W.same k07) (hch.same k07) hz du7 sa fun H8 k8 => ?_
      have k08 := k07.tr k8
      walk_at "S"
      refine ⟨M, C, mos.map (·.m), ch, rfl, by rw [List.map_map]; exact (W.same k08).M, by rw [List.length_map]; exact hch.same k08, fun H9 h9 hs9 k9 nh9 hd9 eq9 => ?_⟩
      have k38 := (k36.tr k7).tr k8
      refine hd_ne (ms := mos.map (·.m)) (hd3.same (k38.tr k9)) hd9 (eq.trans eq9.symm) ?_
      walk_at "S"
      exact ⟨_, rfl, k38.tr k9⟩
    · obtain ⟨o10, rfl, k4⟩ := I
      have k04 := k03.tr k4
      walk_at "S"
      refine tl1 k04 fun u1 hu1 => ?_
      have k05 := k04.upd_new (o := .tup [.str "function", .int o.n, .str (Txt.join "." cs)]) hu1
      have eu1 : upd H4 u1 (.tup [.str "function", .int o.n, .str (Txt.join "." cs)]) u1 = some (.tup [.str "function", .int o.n, .str (Txt.join "." cs)]) := upd_same
      generalize upd H4 u1 (.tup [.str "function", .int o.n, .str (Txt.join "." cs)]) = H5 at *
      have W5 := W.same k05
      have ft : H5 o.t = some (.tup [.int o.n, .str o.q]) := (W5.mo o (List.mem_of_getElem? eh)).fo.at_
      walk_at "S"
      refine rep_fun eu1 hn e6 ?_
      walk_at "S"
      refine s_ixL (sq_l W5.F) (tAt eh) ?_
      walk_at "S"
      refine ⟨small_le (by simp), fun u2 hu2 => ?_⟩
      walk_at "S"
      refine rep_fun upd_same hn e6 ?_
      refine s_eq rfl ?_
      rw [decide_eq_true rfl]
      exact q _ (k05.upd_new hu2)
end

/-! what stands between turns -/
structure LA (CM CL : Addr) (H0 H : Hp) (M F L N fl : Addr) (zs : List Str) (mos0 mos : List Mo) (fns : List Fn) : Prop where
  kp : Kp [] H0 H
  W : Wd CM CL H M F L zs mos
  sg : mos.map Mo.sig = mos0.map Mo.sig
  hN : H N = some (.lst (zs.map V.str))
  el : H fl = some (.lst (fns.map fun f : Fn => V.ref f.t))
  fa : ∀ f ∈ fns, FnAt CL H zs mos f
  nw : ∀ o ∈ mos0, H0 o.d = none ∧ H0 o.e = none
theorem LA.same {CM CL : Addr} {H0 H H' : Hp} {M F L N fl : Addr} {zs : List Str} {mos0 mos : List Mo} {fns : List Fn} (I : LA CM CL H0 H M F L N fl zs mos0 mos fns) (k : Kp [] H H') : LA CM CL H0 H' M F L N fl zs mos0 mos fns :=
  ⟨I.kp.tr k, I.W.same k, I.sg, k.get trivial I.hN, k.get trivial I.el, fun f hf => (I.fa f hf).step (.same k) (.refl _), I.nw⟩
theorem LA.pot {CM CL : Addr} {H0 H H' : Hp} {M F L N fl p : Addr} {zs : List Str} {mos0 mos : List Mo} {fns : List Fn} (I : LA CM CL H0 H M F L N fl zs mos0 mos fns) (k : Kp [p] H H') (hp : PotOk H p) (np : H0 p = none) : LA CM CL H0 H' M F L N fl zs mos0 mos fns :=
  ⟨I.kp.step k fun x hx => .inr (by rw [List.mem_singleton.mp hx]; exact np), I.W.pot k hp, I.sg, k.get (nin1' (pot_strs hp I.hN)) I.hN, k.get (nin1' (pot_refs hp I.el)) I.el, fun f hf => (I.fa f hf).step (.pot k hp) (.refl _), I.nw⟩
theorem LA.bound {CM CL : Addr} {H0 H H' : Hp} {M F L N fl : Addr} {zs : List Str} {mos0 mos mos' : List Mo} {fns : List Fn} (I : LA CM CL H0 H M F L N fl zs mos0 mos fns) (W1 : Wd CM CL H' M F L zs mos') (sg : mos'.map Mo.sig = mos.map Mo.sig) (t : TIK H H') (k : Kp (Dcts mos) H H') (g : Grow mos mos') : LA CM CL H0 H' M F L N fl zs mos0 mos' fns :=
  ⟨I.kp.step k fun x hx => .inr (by
      rw [dcts_sig I.sg] at hx
      obtain ⟨o, ho, rfl | rfl⟩ := dcts_mem hx
      · exact (I.nw o ho).1
      · exact (I.nw o ho).2), W1, sg.trans I.sg, k.get (I.W.nin I.hN) I.hN, k.get (I.W.nin I.el) I.el, fun f hf => (I.fa f hf).step t g, I.nw⟩
section
variable {P : Program} {w : World} {K : PySem.W.Frag} {mg : Str → Option Value} {base : Heap} {C_MadeError C_Fault C_Module C_Late : Addr}
theorem ok_law {f : Addr} {fd : FuncData} (F : Fun K "law" "law" s_law f fd) (T : Txt K mg C_MadeError C_Fault C_Module C_Late)
    (D_l_pot : DnF P w K mg base 2 "_law_pot" ["_law_script", "_law_k"] (spPot K)) (D_l_facts : DnF P w K mg base 4 "_law_facts" ["_law_pot_here", "_law_room"] spFacts) (D_l_draw : DnF P w K mg base 1 "_law_draw" ["_law_pot_here", "_law_room"] spDraw) (D_l_names : DnF P w K mg base 3 "_law_names" ["_law_pot_here", "_law_room"] spNames) (D_l_web : DnF P w K mg base 4 "_law_web" ["_law_pot_here", "_law_facts_here", "_law_names_here", "_law_modules"] (spWeb C_Module C_Late)) (D_l_functions : DnF P w K mg base 3 "_law_functions" ["_law_pot_here", "_law_facts_here", "_law_names_here", "_law_modules", "_law_models"] (spFunctions C_Module C_Late)) (D_l_taken : DnF P w K mg base 2 "_law_taken" ["_law_pot_here", "_law_functions_here", "_law_modules", "_law_models"] (spTaken C_Module C_Late)) (D_l_chain : DnF P w K mg base 2 "_law_chain" ["_law_pot_here", "_law_facts_here"] spChain) (D_l_right : DnG P w K mg base 8 "_law_right" ["_law_facts_here", "_law_models", "_law_modules", "_law_function", "_law_chain_here"] (spRight K C_Module C_Late)) (D_l_bound : DnF P w K mg base 3 "_law_bound" ["_law_modules", "_law_models", "_law_which", "_law_name_here", "_law_kind_here"] (spBoundL C_Module C_Late)) (D_l_kind : DnF P w K mg base 3 "_law_kind" ["_law_pot_here", "_law_facts_here", "_law_names_here"] spKind) (D_Module_init : DkF P w K mg base 1 C_Module ["self", "number", "path"] (spMInit C_Module)) :
    FnG P w K mg base 9 f fd ["_law_script"] (spLaw K) := by
  refine fnG_of F sc_law (fun vs H Q E h => ?_) (fun cdv A outer s H vs Q E hG hr h => ?_)
  · obtain ⟨a, ns, rfl, _⟩ := h
    rfl
  · obtain ⟨f_l_pot, fd_l_pot, G_l_pot, m_l_pot, k_l_pot, b_l_pot⟩ := D_l_pot; obtain ⟨f_l_facts, fd_l_facts, G_l_facts, m_l_facts, k_l_facts, b_l_facts⟩ := D_l_facts; obtain ⟨f_l_draw, fd_l_draw, G_l_draw, m_l_draw, k_l_draw, b_l_draw⟩ := D_l_draw; obtain ⟨f_l_names, fd_l_names, G_l_names, m_l_names, k_l_names, b_l_names⟩ := D_l_names; obtain ⟨f_l_web, fd_l_web, G_l_web, m_l_web, k_l_web, b_l_web⟩ := D_l_web; obtain ⟨f_l_functions, fd_l_functions, G_l_functions, m_l_functions, k_l_functions, b_l_functions⟩ := D_l_functions; obtain ⟨f_l_taken, fd_l_taken, G_l_taken, m_l_taken, k_l_taken, b_l_taken⟩ := D_l_taken; obtain ⟨f_l_chain, fd_l_chain, G_l_chain, m_l_chain, k_l_chain, b_l_chain⟩ := D_l_chain; obtain ⟨f_l_right, fd_l_right, G_l_right, m_l_right, k_l_right, b_l_right⟩ := D_l_right; obtain ⟨f_l_bound, fd_l_bound, G_l_bound, m_l_bound, k_l_bound, b_l_bound⟩ := D_l_bound; obtain ⟨f_l_kind, fd_l_kind, G_l_kind, m_l_kind, k_l_kind, b_l_kind⟩ := D_l_kind; obtain ⟨f_Module_init, fd_Module_init, G_Module_init, M_Module, b_Module_init⟩ := D_Module_init
    obtain ⟨a, ns, rfl, ha, hn, q⟩ := h
    have hu := hu_of hr
    refine ⟨_, (pss_cons (ps_set (i := 1) sc_law.nd rfl (Or.inl rfl) (pe_call G_l_pot (hr.mono (by first | decide | omega)) (by rfl) m_l_pot k_l_pot b_l_pot .nil pass0 (pa_cons (pv 0) (pa_cons pe_int pa_nil))))
      (pss_cons (ps_set (i := 2) sc_law.nd rfl (Or.inl rfl) (pe_call G_l_facts (hr.mono (by first | decide | omega)) (by rfl) m_l_facts k_l_facts b_l_facts .nil pass0 (pa_cons (pv 1) (pa_cons (pe_op op_add pe_int (pe_call G_l_draw (hr.mono (by first | decide | omega)) (by rfl) m_l_draw k_l_draw b_l_draw .nil pass0 (pa_cons (pv 1) (pa_cons pe_int pa_nil)))) pa_nil))))
      (pss_cons (ps_set (i := 3) sc_law.nd rfl (Or.inl rfl) (pe_call G_l_names (hr.mono (by first | decide | omega)) (by rfl) m_l_names k_l_names b_l_names .nil pass0 (pa_cons (pv 1) (pa_cons (pe_op op_add pe_int (pe_call G_l_draw (hr.mono (by first | decide | omega)) (by rfl) m_l_draw k_l_draw b_l_draw .nil pass0 (pa_cons (pv 1) (pa_cons pe_int pa_nil)))) pa_nil))))
      (pss_cons (ps_setLc (i := 4) (own := [("_law_number_here", 12), ("_law_path", 13)]) (g := gTup K 2 (gCons (gName 12) (gCons (gName 13) gNil))) (tt := tYes) rfl sc_law.nd rfl rfl (sw_true rfl rfl rfl (by decide +kernel)) (kiL (K := K) rfl (pi_list (pv 2))) (blkOk_by (own := [("_law_number_here", 12), ("_law_path", 13)]) (N := N_law) (sc := (defScope s_law)) (by decide +kernel)) (fun _ _ _ _ _ => (kgT (K := K) rfl (pg_tup rfl (pgs_cons (pg_name (i := 12) sc_law.nd rfl (Or.inl rfl)) (pgs_cons (pg_name (i := 13) sc_law.nd rfl (Or.inl rfl)) pgs_nil))))) (fun _ _ _ _ _ => pts_nil) (fun _ _ _ _ _ => (pe_make M_Module G_Module_init (hr.mono (by first | decide | omega)) (by rfl) T.mg_Module b_Module_init .nil pass0 (pa_cons (pv 12) (pa_cons (pv 13) pa_nil)))))
      (pss_cons (ps_set (i := 5) sc_law.nd rfl (Or.inl rfl) (pe_call G_l_web (hr.mono (by first | decide | omega)) (by rfl) m_l_web k_l_web b_l_web .nil pass0 (pa_cons (pv 1) (pa_cons (pv 2) (pa_cons (pv 3) (pa_cons (pv 4) pa_nil))))))
      (pss_cons (ps_set (i := 6) sc_law.nd rfl (Or.inl rfl) (pe_call G_l_functions (hr.mono (by first | decide | omega)) (by rfl) m_l_functions k_l_functions b_l_functions .nil pass0 (pa_cons (pv 1) (pa_cons (pv 2) (pa_cons (pv 3) (pa_cons (pv 4) (pa_cons (pv 5) pa_nil)))))))
      (pss_cons (ps_for PassesOwn.never rfl (pi_range2 rfl T.n_range (pa_cons pe_int (pa_cons (pe_callB (call_max2 rfl) (by rfl) T.n_max (by decide +kernel) (pa_cons pe_int (pa_cons (pe_callB (call_min2 rfl) (by rfl) T.n_min (by decide +kernel) (pa_cons (pe_callB (lenK (K := K) rfl) (by rfl) T.n_len (by decide +kernel) (pa_cons (pv 0) pa_nil)) (pa_cons pe_int pa_nil))) pa_nil))) pa_nil))) (pg_name (i := 7) sc_law.nd rfl (Or.inl rfl)) (pss_cons (ps_set (i := 1) sc_law.nd rfl (Or.inl rfl) (pe_call G_l_pot (hr.mono (by first | decide | omega)) (by rfl) m_l_pot k_l_pot b_l_pot .nil pass0 (pa_cons (pv 0) (pa_cons (pv 7) pa_nil))))
      (pss_cons (ps_set (i := 8) sc_law.nd rfl (Or.inl rfl) (pe_call G_l_taken (hr.mono (by first | decide | omega)) (by rfl) m_l_taken k_l_taken b_l_taken .nil pass0 (pa_cons (pv 1) (pa_cons (pv 6) (pa_cons (pv 4) (pa_cons (pv 5) pa_nil))))))
      (pss_cons (ps_set (i := 9) sc_law.nd rfl (Or.inl rfl) (pe_call G_l_chain (hr.mono (by first | decide | omega)) (by rfl) m_l_chain k_l_chain b_l_chain .nil pass0 (pa_cons (pv 1) (pa_cons (pv 2) pa_nil))))
      (pss_cons (ps_if (pt_not (pt_val (pe_callG G_l_right hG (hr.mono (by first | decide | omega)) (by rfl) m_l_right k_l_right b_l_right .nil (pa_cons (pv 2) (pa_cons (pv 5) (pa_cons (pv 4) (pa_cons (pv 8) (pa_cons (pv 9) pa_nil)))))))) (pss_one (ps_ret pe_bl)) pss_nil)
      (pss_one (ps_if (pt_cmpR op_eq (pe_call G_l_draw (hr.mono (by first | decide | omega)) (by rfl) m_l_draw k_l_draw b_l_draw .nil pass0 (pa_cons (pv 1) (pa_cons pe_int pa_nil))) pe_int (nomark _)) (pss_cons (ps_set (i := 10) sc_law.nd rfl (Or.inl rfl) (pe_call G_l_draw (hr.mono (by first | decide | omega)) (by rfl) m_l_draw k_l_draw b_l_draw .nil pass0 (pa_cons (pv 1) (pa_cons (pe_callB (lenK (K := K) rfl) (by rfl) T.n_len (by decide +kernel) (pa_cons (pv 2) pa_nil)) pa_nil))))
      (pss_cons (ps_set (i := 11) sc_law.nd rfl (Or.inl rfl) (pe_ix (ixLK (K := K) rfl) (pe_m1 PySem.F.slot_str_split PySem.F.type_str_split splitR (pe_ix (ixTK (K := K) rfl) (pv 8) pe_int (fun _ _ => rfl)) pe_str) (pe_call G_l_draw (hr.mono (by first | decide | omega)) (by rfl) m_l_draw k_l_draw b_l_draw .nil pass0 (pa_cons (pv 1) (pa_cons (pe_callB (lenK (K := K) rfl) (by rfl) T.n_len (by decide +kernel) (pa_cons (pe_m1 PySem.F.slot_str_split PySem.F.type_str_split splitR (pe_ix (ixTK (K := K) rfl) (pv 8) pe_int (fun _ _ => rfl)) pe_str) pa_nil)) pa_nil))) (fun _ _ => rfl)))
      (pss_cons (ps_expr (pe_call G_l_bound (hr.mono (by first | decide | omega)) (by rfl) m_l_bound k_l_bound b_l_bound .nil pass0 (pa_cons (pv 4) (pa_cons (pv 5) (pa_cons (pv 10) (pa_cons (pv 11) (pa_cons (pe_call G_l_kind (hr.mono (by first | decide | omega)) (by rfl) m_l_kind k_l_kind b_l_kind .nil pass0 (pa_cons (pv 1) (pa_cons (pv 2) (pa_cons (pv 3) pa_nil)))) pa_nil)))))))
      (pss_one (ps_if (pt_not (pt_val (pe_callG G_l_right hG (hr.mono (by first | decide | omega)) (by rfl) m_l_right k_l_right b_l_right .nil (pa_cons (pv 2) (pa_cons (pv 5) (pa_cons (pv 4) (pa_cons (pv 8) (pa_cons (pv 9) pa_nil)))))))) (pss_one (ps_ret pe_bl)) pss_nil))))) pss_nil)))))))
      (pss_one (ps_ret pe_bl))))))))), ?_⟩
    refine st_start (σ' := [some (.ref a), none, none, none, none, none, none, none, none, none, none, none, none, none]) rfl ?_
    walk_at "S"
    refine ⟨a, ns, 0, rfl, ha, by omega, fun H1 p k1 np hp1 => ?_⟩
    walk_at "S"
    refine ⟨p, _, rfl, hp1, by omega, by omega, fun H2 v2 k2 hp2 a0 a1 => ?_⟩
    have pk : ∀ {A B : Hp}, Kp [] H A → Kp [p] A B → Kp [] H B := fun k l => k.step l fun x hx => .inr (by rw [List.mem_singleton.mp hx]; exact np)
    have k02 : Kp [] H H2 := pk k1 k2
    obtain ⟨j2, rfl⟩ := Int.eq_ofNat_of_zero_le a0
    walk_at "S"
    rw [show (2 : Int) + (j2 : Int) = ((2 + j2 : Nat) : Int) from by omega]
    refine ⟨p, 2 + j2, rfl, hp2, by omega, fun H3 F fs k3 hp3 nF hF fo nf => ?_⟩
    have k03 : Kp [] H H3 := pk k02 k3
    have npF := pot_refs hp3 hF
    walk_at "S"
    refine ⟨p, _, rfl, hp3, by omega, by omega, fun H4 v4 k4 hp4 b0 b1 => ?_⟩
    obtain ⟨j4, rfl⟩ := Int.eq_ofNat_of_zero_le b0
    walk_at "S"
    rw [show (2 : Int) + (j4 : Int) = ((2 + j4 : Nat) : Int) from by omega]
    refine ⟨p, 2 + j4, rfl, hp4, by omega, fun H6 N zs k6 hp6 nN hN tk nz => ?_⟩
    have k36 : Kp [p] H3 H6 := k4.tr k6
    have k06 : Kp [] H H6 := pk k03 k36
    have t36 := TIK.pot k36 hp3
    have hF6 := k36.get (nin1' npF) hF
    have fo6 : ∀ f ∈ fs, FactOk H6 f := fun f hf => (fo f hf).tik t36
    have npN := pot_strs hp6 hN
    walk_at "S"
    refine ⟨⟨_, sq_l hF6⟩, fun M hM => ?_⟩
    have nlF : fs.length ≤ 20 := by omega
    refine lc_goH (walk_list (K := K) (a := F) (xs := fs.map fun f : Fact => V.ref f.1)) (PL := fun i xs H => ∃ os : List Md, xs = os.map (fun o => V.ref o.1) ∧ os.map (·.2.2) = fs.take i ∧ (os.map (·.2.1)).Nodup ∧ (os.map (·.1)).Nodup ∧ ∀ o ∈ os, MdOk C_Module H6 H o) (W := []) hM
      ⟨[], rfl, by simp, by simp, by simp, by simp⟩ (fun H7 k7 => k7.seqL trivial (sq_l hF6)) (fun i x H7 H' hi I y => ?_) fun H7 I => ?_
    · obtain ⟨rfl, hx⟩ := y
      obtain ⟨xs, ex, ⟨os, rfl, e1, e2, e4, e3⟩, lx, k7⟩ := I
      rw [List.length_map] at hi
      rw [List.getElem?_map] at hx
      obtain ⟨f, hf, rfl⟩ : ∃ f, fs[i]? = some f ∧ x = V.ref f.1 := by
        cases e : fs[i]? with
        | none => rw [e] at hx; cases hx
        | some f => rw [e] at hx; exact ⟨f, rfl, (Option.some.inj hx).symm⟩
      have ff := (fo6 f (List.mem_of_getElem? hf)).tik (TIK.same k7)
      refine s_gtup (sq_t ff.at_) rfl ?_
      walk_at "S"
      refine ⟨rfl, ?_⟩
      walk_at "S"
      intro m dx hm hdx ndm
      have hm2 : (upd H' dx (.own m)) m = none := (upd_ne ndm.symm).trans hm
      refine ⟨m, dx, f.2.1, f.2.2, rfl, upd_same, fun H8 d k8 nd8 md8 => ⟨rfl, ?_⟩⟩
      have kM : Kp [] H' (upd (upd H' dx (.own m)) m (.ins C_Module dx [])) := (Kp.refl.upd_new hdx).upd_new hm2
      have k78 : Kp [] H' H8 := kM.step k8 fun x hx => .inr (by rw [List.mem_singleton.mp hx]; exact hm)
      have nd7 : H' d = none := kM.free trivial nd8
      refine LcInvH.put ex lx k7 hM trivial k78 (small_lt (by omega)) ⟨os ++ [(m, d, f)], by simp, by rw [List.map_append, e1, take_put hf]; rfl, ?_, ?_, fun o ho => ?_⟩
      · rw [List.map_append]
        refine List.nodup_append.mpr ⟨e2, List.pairwise_singleton _ _, fun a ha b hb e => ?_⟩
        obtain ⟨o, ho, rfl⟩ := List.mem_map.mp ha
        have e' : o.2.1 = d := e.trans (List.mem_singleton.mp hb)
        have := (e3 o ho).d
        rw [e', nd7] at this
        cases this
      · rw [List.map_append]
        refine List.nodup_append.mpr ⟨e4, List.pairwise_singleton _ _, fun a ha b hb e => ?_⟩
        obtain ⟨o, ho, rfl⟩ := List.mem_map.mp ha
        have e' : o.1 = m := e.trans (List.mem_singleton.mp hb)
        obtain ⟨_, this⟩ := (e3 o ho).md
        rw [e', hm] at this
        cases this
      · have exD : H8 M = some (.lst (os.map fun o => V.ref o.1)) := k78.get trivial ex
        rcases List.mem_append.mp ho with ho | ho
        · have w := (e3 o ho).same k78
          obtain ⟨dx', e⟩ := w.md
          exact ⟨⟨dx', (upd_ne (fun q => by rw [q, exD] at e; cases e)).trans e⟩, (upd_ne (fun q => by have := w.d; rw [q, exD] at this; cases this)).trans w.d, w.n⟩
        · rw [List.mem_singleton.mp ho]
          obtain ⟨dx', e⟩ := md8.ob
          refine ⟨⟨dx', (upd_ne (fun q => by rw [show m = M from q, exD] at e; cases e)).trans e⟩, (upd_ne (fun q => by have := md8.dc; rw [show d = M from q, exD] at this; cases this)).trans md8.dc, k7.free trivial nd7⟩
    obtain ⟨_, eM, ⟨os, rfl, e1, e2, e4, e3⟩, _, k7⟩ := I
    rw [List.take_of_length_le (by simp)] at e1
    have k07 : Kp [] H H7 := k06.tr k7
    have hF7 := k7.get trivial hF6
    have hN7 := k7.get trivial hN
    have hp7 := hp6.kp k7 trivial
    have t67 := TIK.same k7
    have los : os.length = fs.length := by rw [← e1, List.length_map]
    walk_at "S"
    refine ⟨p, F, N, M, os, zs, rfl, hp7, eM, by rw [← e1, List.map_map] at hF7; exact hF7, fun o ho => ⟨(e3 o ho).md, (e3 o ho).d, ?_⟩, e2, e4, fun e => by rw [e] at los; simp at los; omega, by omega, hN7, tk.ok, fun e => by rw [e] at nz; simp at nz; omega, by omega, fun H8 L mos0 hp8 hL W0 k8 t8 eb new0 => ?_⟩
    · exact (fo6 _ (by rw [← e1]; exact List.mem_map.mpr ⟨o, ho, rfl⟩)).tik t67
    have nd0 : ∀ x ∈ os.map (·.2.1), H x = none := fun x hx => by
      obtain ⟨o, ho, rfl⟩ := List.mem_map.mp hx
      exact k06.free trivial (e3 o ho).n
    have k08 : Kp [] H H8 := k07.step k8 fun x hx => .inr (by
      rcases List.mem_cons.mp hx with rfl | hx
      · exact np
      · exact nd0 x hx)
    have npN7 := pot_strs hp7 hN7
    have hN8 : H8 N = some (.lst (zs.map V.str)) := k8.get (Nin.intro fun x hx e => by
      rcases List.mem_cons.mp hx with h | hx
      · exact npN7 (h.symm.trans e.symm)
      · obtain ⟨o, ho, h⟩ := List.mem_map.mp hx
        have := (e3 o ho).d
        rw [h, ← e, hN7] at this
        cases this) hN7
    have nm : mos0.length = fs.length := by
      have := congrArg List.length eb
      rw [List.length_map, List.length_map] at this
      omega
    walk_at "S"
    refine ⟨p, F, N, M, L, zs, mos0, rfl, hp8, W0, hN8, fun e => by rw [e] at nz; simp at nz; omega, fun H11 fl mos1 fns I1 nf lf => ?_⟩
    have I0 : LA C_Module C_Late H H11 M F L N fl zs mos0 mos1 fns := ⟨k08.step I1.kp fun x hx => .inr (by
        rcases List.mem_cons.mp hx with rfl | hx
        · exact np
        · obtain ⟨o, ho, rfl | rfl⟩ := dcts_mem hx
          · exact nd0 _ (new0 o ho).1
          · exact k07.free trivial (new0 o ho).2), I1.W, I1.sg, I1.hN, I1.el, I1.fa, fun o ho => ⟨nd0 _ (new0 o ho).1, k07.free trivial (new0 o ho).2⟩⟩
    have sc11 : SqL K H11 a (ns.map V.int) := I0.kp.seqL trivial ha
    walk_at "S"
    have tb := turns ((ns.map V.int).length : Int) (by omega) (by rw [List.length_map]; omega)
    generalize (if (if 61 < ((ns.map V.int).length : Int) then 61 else ((ns.map V.int).length : Int)) > 6 then (if 61 < ((ns.map V.int).length : Int) then 61 else ((ns.map V.int).length : Int)) else 6) = NT at tb ⊢
    refine ⟨⟨by omega, by omega, by omega, by omega⟩, ?_⟩
    refine for_go walk_range (fun i σ H2 => ∃ (o1 o7 o8 o9 o10 o11 : Option V) (mos : List Mo), σ = [some (.ref a), o1, some (.ref F), some (.ref N), some (.ref M), some (.ref L), some (.ref fl), o7, o8, o9, o10, o11, none, none] ∧
        LA C_Module C_Late H H2 M F L N fl zs mos0 mos fns)
      ⟨_, _, _, _, _, _, mos1, rfl, I0⟩ (fun _ _ _ _ _ => trivial) (fun i x σ Ha Hb hi I y => ?_) fun σ H2 I => ?_
    · obtain ⟨rfl, rfl⟩ := y
      obtain ⟨o1, o7, o8, o9, o10, o11, mos, rfl, Ib⟩ := I
      dsimp only
      rw [show (1 : Int) + (i : Int) = ((1 + i : Nat) : Int) from by omega]
      walk_at "S"
      refine ⟨a, ns, 1 + i, rfl, Ib.kp.seqL trivial ha, by omega, fun H3 p k3 np hp3 => ?_⟩
      have npH : H p = none := Ib.kp.free trivial np
      have I3 := Ib.same k3
      have lm := sig_len I3.sg
      walk_at "S"
      refine ⟨p, fl, M, L, F, zs, mos, fns, rfl, hp3, I3.W, I3.el, nf, lf, I3.fa, fun H4 t l dl home cs o k4 hp4 et eh el rp => ?_⟩
      have I4 := I3.pot k4 hp3 npH
      walk_at "S"
      refine ⟨p, F, (bases mos).map (·.2), rfl, hp4, I4.W.Fb, by rw [blen]; have := I4.W.few; exact this, fun H5 C ch k5 hp5 nC hch => ?_⟩
      rw [blen] at hch
      have I5 := I4.pot k5 hp4 npH
      have t5 := TIK.pot k5 hp4
      have et5 := t5.tup et
      have el5 := t5.ins el
      walk_at "S"
      refine ⟨F, L, M, t, C, l, dl, home, cs, zs, mos, ch, o, rfl, I5.W, et5, eh, el5, rp, hch, fun H6 k6 => ?_⟩
      have I6 := I5.same k6
      have hp6 := hp5.kp k6 trivial
      have et6 := k6.get trivial et5
      have el6 := k6.get trivial el5
      walk_at "S"
      refine ⟨p, _, rfl, hp6, by omega, by omega, fun H7 v7 k7 hp7 b0 b1 => ?_⟩
      have I7 := I6.pot k7 hp6 npH
      have t7 := TIK.pot k7 hp6
      have et7 := t7.tup et6
      have el7 := t7.ins el6
      have hch7 := (hch.same k6).kp k7 t7 (nin1' (pot_refs hp6 (hch.same k6).at_))
      walk_at "S"
      refine s_dec (fun _ => ?_) (fun _ => ?_)
      rotate_left
      · walk_at "S"
        exact ⟨_, _, _, _, _, _, mos, rfl, I7⟩
      have eF7 := I7.W.F
      have fewm := I7.W.few
      have lm0 := List.length_pos_iff.mpr I7.W.ne
      have okc : ∀ c ∈ cs, OkN c := fun c hc => I7.W.zok c (rp.mem c hc)
      have jl := join_len rp.ne okc rp.few
      have lc0 := List.length_pos_iff.mpr rp.ne
      have lc4 := rp.few
      walk_at "S"
      rw [List.length_map]
      refine ⟨p, _, rfl, hp7, by omega, by omega, fun H8 v8 k8 hp8 c0 c1 => ?_⟩
      have I8 := I7.pot k8 hp7 npH
      have t8 := TIK.pot k8 hp7
      have et8 := t8.tup et7
      have el8 := t8.ins el7
      have hch8 := hch7.kp k8 t8 (nin1' (pot_refs hp7 hch7.at_))
      obtain ⟨which, rfl⟩ := Int.eq_ofNat_of_zero_le c0
      walk_at "S"
      refine s_splitS (by decide +kernel) (small_le (by omega)) fun R1 hR1 => ?_
      rw [split_road rp.ne okc]
      have k9 := Kp.refl.upd_new (W := []) (o := .lst (cs.map V.str)) hR1
      have eR1 : upd H8 R1 (.lst (cs.map V.str)) R1 = some (.lst (cs.map V.str)) := upd_same
      have I9 := I8.same k9
      have et9 := k9.get trivial et8
      have el9 := k9.get trivial el8
      have hch9 := hch8.same k9
      have hp9 := hp8.kp k9 trivial
      generalize upd H8 R1 (.lst (cs.map V.str)) = H9 at *
      walk_at "S"
      refine s_splitS (by decide +kernel) (small_le (by omega)) fun R2 hR2 => ?_
      rw [split_road rp.ne okc]
      have k10 := Kp.refl.upd_new (W := []) (o := .lst (cs.map V.str)) hR2
      have eR2 : upd H9 R2 (.lst (cs.map V.str)) R2 = some (.lst (cs.map V.str)) := upd_same
      have eR1' := k10.get trivial eR1
      have I10 := I9.same k10
      have et10 := k10.get trivial et9
      have el10 := k10.get trivial el9
      have hch10 := hch9.same k10
      have hp10 := hp9.kp k10 trivial
      generalize upd H9 R2 (.lst (cs.map V.str)) = H10 at *
      walk_at "S"
      rw [List.length_map]
      refine ⟨p, _, rfl, hp10, by omega, by omega, fun H11' v11 k11 hp11 d0 d1 => ?_⟩
      have I11 := I10.pot k11 hp10 npH
      have t11 := TIK.pot k11 hp10
      have et11 := t11.tup et10
      have el11 := t11.ins el10
      have hch11 := hch10.kp k11 t11 (nin1' (pot_refs hp10 hch10.at_))
      have eR11 := k11.get (nin1' (pot_strs hp10 eR1')) eR1'
      obtain ⟨jz, z, rfl, hjz, ejz, mz, az⟩ := pickM (g := V.str) d0 d1
      refine s_ixL (sq_l eR11) az ?_
      walk_at "S"
      have hw : which < mos.length := by omega
      refine ⟨p, F, N, (bases mos).map (·.2), zs, rfl, hp11, I11.W.Fb, fun e => by have := congrArg List.length e; rw [blen, List.length_nil] at this; omega, by rw [blen]; exact fewm, I11.hN, I11.W.zok, fun e => by rw [e] at nz; simp at nz; omega, I11.W.zl, fun H12 tk' kd k12 hp12 htk ok => ?_⟩
      have I12 := I11.pot k12 hp11 npH
      have t12 := TIK.pot k12 hp11
      have et12 := t12.tup et11
      have el12 := t12.ins el11
      have hch12 := hch11.kp k12 t12 (nin1' (pot_refs hp11 hch11.at_))
      walk_at "S"
      refine ⟨M, F, L, tk', zs, mos, mos[which], which, z, kd, rfl, I12.W, List.getElem?_eq_getElem hw, rp.mem z mz, htk, by rw [blen] at ok; exact ok, fun H13 mos13 W13 sg13 t13 k13 g13 => ?_⟩
      have I13 := I12.bound W13 sg13 t13 k13 g13
      have et13 := t13.tup et12
      have el13 := t13.ins el12
      have hch13 := hch12.kp k13 t13 (I12.W.nin hch12.at_)
      obtain ⟨o', eh', s', _⟩ := g13 _ _ eh
      have em' : o'.m = o.m := congrArg (·.1) s'
      have l13 := sig_len sg13
      walk_at "S"
      refine ⟨F, L, M, t, C, l, dl, home, cs, zs, mos13, ch, o', rfl, I13.W, et13, eh', by rw [em']; exact el13, rp, by rw [l13]; exact hch13, fun H14 k14 => ?_⟩
      walk_at "S"
      exact ⟨_, _, _, _, _, _, mos13, rfl, I13.same k14⟩
    · obtain ⟨o1, o7, o8, o9, o10, o11, mos, rfl, Ib⟩ := I
      walk_at "S"
      exact q _
end

local macro_rules | `(tactic| walk_at "N") => `(tactic| first
  | with_reducible assumption
  | (apply Ne.symm; with_reducible assumption)
  | (refine' ne_of_none (H := ?H0) ?h1 ?h2; (case h2 => with_reducible assumption); (case h1 => walk_at "L"))
  | (apply Ne.symm; refine' ne_of_none (H := ?H0) ?h1 ?h2; (case h2 => with_reducible assumption); (case h1 => walk_at "L"))
  | fail "no")
local macro_rules | `(tactic| walk_at "M") => `(tactic| first
  | exact trivial
  | exact True.intro
  | (refine ⟨?_, ?_⟩; (walk_at "N"); (walk_at "M"))
  | fail "no")
local macro_rules | `(tactic| walk_at "L") => `(tactic| first
  | with_reducible assumption
  | with_reducible exact upd_same
  | ((with_reducible refine' (upd_ne ?n1).trans ?l1); (case n1 => walk_at "N"); (case l1 => walk_at "L"))
  | ((with_reducible refine' Kp.get ?k1 ?m1 ?l1); (case k1 => with_reducible assumption); (case l1 => walk_at "L"); (case m1 => walk_at "M"))
  | fail "no")
local macro_rules | `(tactic| walk_at "Q") => `(tactic| first
  | with_reducible assumption
  | ((with_reducible refine' sq_l ?e1); (case e1 => walk_at "L"))
  | ((with_reducible refine' sq_t ?e1); (case e1 => walk_at "L"))
  | ((with_reducible refine' Kp.seqL ?k1 ?m1 ?l1); (case k1 => with_reducible assumption); (case l1 => walk_at "Q"); (case m1 => walk_at "M"))
  | fail "no")
local macro_rules | `(tactic| walk_at "K") => `(tactic| first
  | with_reducible assumption
  | with_reducible exact Kp.refl
  | ((with_reducible refine' Kp.upd_mem ?k1 ?m1); (case m1 => simp only [List.mem_cons, true_or, or_true]); (case k1 => walk_at "K"))
  | ((with_reducible refine' Kp.upd_new ?k1 ?m1); (case m1 => with_reducible assumption); (case k1 => walk_at "K"))
  | ((with_reducible refine' Kp.upd_loc ?k1 ?m1); (case m1 => with_reducible assumption); (case k1 => walk_at "K"))
  | ((with_reducible refine' Kp.step ?k1 ?k2 ?m1); (case k2 => with_reducible assumption); (case m1 => (intro z hz; first | exact (List.not_mem_nil hz).elim | exact .inl hz | (simp only [List.mem_cons, List.not_mem_nil, or_false] at hz ⊢; first | (left; assumption) | (subst hz; first | (left; rfl) | (right; assumption))))); (case k1 => walk_at "K"))
  | fail "no")
local macro_rules | `(tactic| walk_at "C") => `(tactic| first | decide | assumption | omega | (show (0 : Int) < _; omega) | exact ⟨by decide, by decide⟩ | exact ⟨by omega, by omega⟩ | (left; exact ⟨by omega, by omega⟩) | (right; exact ⟨by omega, by omega⟩) | fail "no")
local macro_rules | `(tactic| walk_at "S1") => `(tactic| first
  | ((with_reducible refine' s_var ?h1 ?_); (case h1 => exact rfl))
  | with_reducible refine' s_c ?_
  | with_reducible refine' s_op ?_
  | with_reducible refine' s_un ?_
  | with_reducible refine' s_nil ?_
  | with_reducible refine' s_cons ?_
  | with_reducible refine' s_cb ?_
  | with_reducible refine' s_call ?_
  | with_reducible refine' s_test ?_
  | with_reducible refine' s_B ?_
  | with_reducible refine' s_and ?_
  | with_reducible refine' s_or ?_
  | with_reducible refine' s_not ?_
  | with_reducible refine' s_andV ?_
  | with_reducible refine' s_orV ?_
  | with_reducible refine' s_notV ?_
  | with_reducible refine' s_ifE ?_
  | with_reducible refine' s_chain ?_
  | with_reducible refine' s_tup ?_
  | with_reducible refine' s_lst ?_
  | with_reducible refine' s_sl ?_
  | with_reducible refine' s_noPart ?_
  | with_reducible refine' s_part ?_
  | with_reducible refine' s_fld ?_
  | with_reducible refine' s_bm ?_
  | with_reducible refine' s_bm0 ?_
  | with_reducible refine' s_m1 ?_
  | with_reducible refine' s_m0 ?_
  | with_reducible refine' s_seq ?_
  | with_reducible refine' s_next ?_
  | with_reducible refine' s_asg ?_
  | with_reducible refine' s_gname ?_
  | with_reducible refine' s_drop ?_
  | with_reducible refine' s_ret ?_
  | with_reducible refine' s_retN ?_
  | with_reducible refine' s_ifS ?_
  | with_reducible refine' s_gsub ?_
  | with_reducible refine' s_par ?_
  | with_reducible refine' s_bl ?_
  | with_reducible refine' s_iStr ?_
  | with_reducible refine' s_iList ?_
  | with_reducible refine' s_iTup ?_
  | with_reducible refine' s_iRng1 ?_
  | with_reducible refine' s_str ?_
  | with_reducible refine' s_ref ?_
  | with_reducible refine' s_yes ?_
  | with_reducible refine' s_for ?_
  | with_reducible refine' s_lc ?_
  | with_reducible refine' i_T ?_
  | with_reducible refine' i_F ?_
  | with_reducible refine' i_nT ?_
  | with_reducible refine' i_nF ?_
  | with_reducible refine' s_int ?_
  | with_reducible refine' s_ints2 ?_
  | with_reducible refine' s_ints1 ?_
  | with_reducible refine' s_strs1 ?_
  | with_reducible refine' s_vals2 ?_
  | with_reducible refine' s_vals3 ?_
  | ((with_reducible refine' s_gtup ?h1 ?l1 ?_); (case h1 => walk_at "Q"); (case l1 => exact rfl))
  | with_reducible refine' s_gcons ?_
  | with_reducible refine' s_gnil ?_
  | with_reducible refine' s_par3 ?_
  | with_reducible refine' s_ex ?_
  | with_reducible refine' s_I0 ?_
  | ((with_reducible refine' s_I ?c1 ?_); (case c1 => walk_at "C"))
  | ((with_reducible refine' s_eq ?h1 ?_); (case h1 => exact rfl))
  | ((with_reducible refine' s_ne ?h1 ?_); (case h1 => exact rfl))
  | ((with_reducible refine' s_ixL ?h1 ?a1 ?_); (case h1 => walk_at "Q"); (case a1 => exact rfl))
  | ((with_reducible refine' s_ixT ?h1 ?a1 ?_); (case h1 => walk_at "Q"); (case a1 => exact rfl))
  | ((with_reducible refine' s_setL ?h1 ?a1 ?_); (case h1 => walk_at "L"); (case a1 => exact rfl))
  | ((with_reducible refine' s_lenL ?h1 ?_); (case h1 => walk_at "Q"))
  | ((with_reducible refine' s_lenT ?h1 ?_); (case h1 => walk_at "Q"))
  | ((with_reducible refine' s_lenStr ?h1 ?_); (case h1 => assumption))
  | ((with_reducible refine' s_slL ?h1 ?_); (case h1 => walk_at "Q"))
  | ((with_reducible refine' s_slS ?h1 ?_); (case h1 => assumption))
  | with_reducible refine' s_U ?_
  | ((with_reducible refine' s_tyL ?h1 ?_); (case h1 => walk_at "L"))
  | with_reducible refine' s_inSg ?_
  | with_reducible refine' s_nn ?_
  | with_reducible refine' s_meth ?_
  | with_reducible refine' s_make ?_
  | with_reducible refine' s_dnew ?_
  | with_reducible refine' s_dget ?_
  | with_reducible refine' s_din ?_
  | with_reducible refine' s_dnotin ?_
  | with_reducible refine' s_dput ?_
  | with_reducible refine' s_dget1 ?_
  | with_reducible refine' s_sfld ?_
  | with_reducible refine' s_revL ?_
  | with_reducible refine' s_iZip3 ?_
  | with_reducible refine' s_iRng2 ?_
  | dsimp only
  | fail "no")
local macro_rules | `(tactic| walk_at "S") => `(tactic| repeat walk_at "S1")

theorem all_mk {l : PySem.W.OpenLaw} {w : World} {K : PySem.W.Frag} {h : Heap} {mg : Str → Option Value} {fa : Addr} (X : K.In h) (G : h.Ns mainGlobals mg) (hfa : mg "law" = some (.ref fa))
    {od_Fault_init an_Fault_init od_Module_init an_Module_init od_Module_bind an_Module_bind od_Module_has an_Module_has od_Module_thing_of an_Module_thing_of od_Module_bound an_Module_bound od_Late_init an_Late_init od_told an_told od_ring_from an_ring_from od_look an_look od_place_of an_place_of od_follow an_follow od_asked an_asked od_l_at an_l_at od_l_pot an_l_pot od_l_draw an_l_draw od_l_name an_l_name od_l_names an_l_names od_l_number an_l_number od_l_road an_l_road od_l_facts an_l_facts od_l_kind an_l_kind od_l_bound an_l_bound od_l_web an_l_web od_l_told an_l_told od_l_chain an_l_chain od_l_fault an_l_fault od_l_handed an_l_handed od_l_is_the an_l_is_the od_l_agrees an_l_agrees od_l_due an_l_due od_l_said an_l_said od_l_functions an_l_functions od_l_taken an_l_taken od_l_right an_l_right od_law an_law : Option Addr} {sl_Fault_init sl_Module_init sl_Module_bind sl_Module_has sl_Module_thing_of sl_Module_bound sl_Late_init sl_told sl_ring_from sl_look sl_place_of sl_follow sl_asked sl_l_at sl_l_pot sl_l_draw sl_l_name sl_l_names sl_l_number sl_l_road sl_l_facts sl_l_kind sl_l_bound sl_l_web sl_l_told sl_l_chain sl_l_fault sl_l_handed sl_l_is_the sl_l_agrees sl_l_due sl_l_said sl_l_functions sl_l_taken sl_l_right sl_law : Array (Option Value)} {oc_Fault_init kV_Fault_init dc_Fault_init pm_Fault_init cd_Fault_init ct_Fault_init oc_Module_init kV_Module_init dc_Module_init pm_Module_init cd_Module_init ct_Module_init oc_Module_bind kV_Module_bind dc_Module_bind pm_Module_bind cd_Module_bind ct_Module_bind oc_Module_has kV_Module_has dc_Module_has pm_Module_has cd_Module_has ct_Module_has oc_Module_thing_of kV_Module_thing_of dc_Module_thing_of pm_Module_thing_of cd_Module_thing_of ct_Module_thing_of oc_Module_bound kV_Module_bound dc_Module_bound pm_Module_bound cd_Module_bound ct_Module_bound oc_Late_init kV_Late_init dc_Late_init pm_Late_init cd_Late_init ct_Late_init oc_told kV_told dc_told pm_told cd_told ct_told oc_ring_from kV_ring_from dc_ring_from pm_ring_from cd_ring_from ct_ring_from oc_look kV_look dc_look pm_look cd_look ct_look oc_place_of kV_place_of dc_place_of pm_place_of cd_place_of ct_place_of oc_follow kV_follow dc_follow pm_follow cd_follow ct_follow oc_asked kV_asked dc_asked pm_asked cd_asked ct_asked oc_l_at kV_l_at dc_l_at pm_l_at cd_l_at ct_l_at oc_l_pot kV_l_pot dc_l_pot pm_l_pot cd_l_pot ct_l_pot oc_l_draw kV_l_draw dc_l_draw pm_l_draw cd_l_draw ct_l_draw oc_l_name kV_l_name dc_l_name pm_l_name cd_l_name ct_l_name oc_l_names kV_l_names dc_l_names pm_l_names cd_l_names ct_l_names oc_l_number kV_l_number dc_l_number pm_l_number cd_l_number ct_l_number oc_l_road kV_l_road dc_l_road pm_l_road cd_l_road ct_l_road oc_l_facts kV_l_facts dc_l_facts pm_l_facts cd_l_facts ct_l_facts oc_l_kind kV_l_kind dc_l_kind pm_l_kind cd_l_kind ct_l_kind oc_l_bound kV_l_bound dc_l_bound pm_l_bound cd_l_bound ct_l_bound oc_l_web kV_l_web dc_l_web pm_l_web cd_l_web ct_l_web oc_l_told kV_l_told dc_l_told pm_l_told cd_l_told ct_l_told oc_l_chain kV_l_chain dc_l_chain pm_l_chain cd_l_chain ct_l_chain oc_l_fault kV_l_fault dc_l_fault pm_l_fault cd_l_fault ct_l_fault oc_l_handed kV_l_handed dc_l_handed pm_l_handed cd_l_handed ct_l_handed oc_l_is_the kV_l_is_the dc_l_is_the pm_l_is_the cd_l_is_the ct_l_is_the oc_l_agrees kV_l_agrees dc_l_agrees pm_l_agrees cd_l_agrees ct_l_agrees oc_l_due kV_l_due dc_l_due pm_l_due cd_l_due ct_l_due oc_l_said kV_l_said dc_l_said pm_l_said cd_l_said ct_l_said oc_l_functions kV_l_functions dc_l_functions pm_l_functions cd_l_functions ct_l_functions oc_l_taken kV_l_taken dc_l_taken pm_l_taken cd_l_taken ct_l_taken oc_l_right kV_l_right dc_l_right pm_l_right cd_l_right ct_l_right oc_law kV_law dc_law pm_law cd_law ct_law : Value}
    {f_Fault_init f_Module_init f_Module_bind f_Module_has f_Module_thing_of f_Module_bound f_Late_init f_told f_ring_from f_look f_place_of f_follow f_asked f_l_at f_l_pot f_l_draw f_l_name f_l_names f_l_number f_l_road f_l_facts f_l_kind f_l_bound f_l_web f_l_told f_l_chain f_l_fault f_l_handed f_l_is_the f_l_agrees f_l_due f_l_said f_l_functions f_l_taken f_l_right f_law : Addr}
    {C_MadeError : Addr}
    (aC_MadeError : PySem.W.nsIn K mainGlobals "MadeError" = some (some (.ref C_MadeError))) (tg_MadeError : PySem.W.specialIn K (.ref C_MadeError) "__getattribute__" = some (some (.builtin "type.__getattribute__"))) (tr_MadeError : PySem.W.readsIn K C_MadeError (.type "type") = true) (tv_MadeError : PySem.W.findCls K (.ref C_MadeError) (.type "type") "__init__" = some (.val (.builtin "ValueError.__init__")))
    {C_Fault : Addr}
    {nm_Fault q_Fault : Str} {N_Fault : Addr} {bs_Fault : List Value} {sn_Fault : List Str} {sub_Fault : List Value} {ab_Fault : Bool} {col_Fault : Option Bool} {dd_Fault : Option Addr} {m0_Fault m1_Fault m2_Fault m3_Fault m5_Fault : Option Value}
    (aC_Fault : PySem.W.nsIn K mainGlobals "Fault" = some (some (.ref C_Fault))) (xL_Fault : K.lookup C_Fault = some (excClassObj nm_Fault q_Fault C_Fault N_Fault bs_Fault [.ref C_MadeError, .type "ValueError", .type "Exception", .type "BaseException", .type "object"] true sn_Fault sub_Fault ab_Fault col_Fault dd_Fault m0_Fault m1_Fault m2_Fault m3_Fault m5_Fault "ValueError.__new__"))
    (sa_Fault : PySem.W.findIn K (.ref C_Fault) "__setattr__" = some (some (.builtin "object.__setattr__"))) (ga_Fault : PySem.W.findIn K (.ref C_Fault) "__getattribute__" = some (some (.builtin "BaseException.__getattribute__"))) (gg_Fault : PySem.W.findIn K (.ref C_Fault) "__getattr__" = some none)
    (nb_Fault_fault : PySem.W.findIn K (.ref C_Fault) "fault" = some none)
    (kc_Fault : PySem.W.keepIn K (.ref C_Fault) = true) (eC_Fault : PySem.W.subIn K (.ref C_Fault) (.type "BaseException") = some true) (tC_Fault : PySem.W.typeIn K (.ref C_Fault) = some (.type "type")) (hC_Fault : PySem.W.hasDictIn K C_Fault = true) (iC_Fault : PySem.W.isClsIn K C_Fault = true) (sC_Fault : PySem.W.subIn K (.ref C_Fault) (.ref C_Fault) = some true)
    {C_Module : Addr}
    (aC_Module : PySem.W.nsIn K mainGlobals "Module" = some (some (.ref C_Module))) (pg_Module : PySem.W.plainGet K C_Module Str.empty = true) (hd_Module : PySem.W.hasDictIn K C_Module = true) (po_Module : PySem.W.plainOver K C_Module = true) (sa_Module : PySem.W.findIn K (.ref C_Module) "__setattr__" = some (some (.builtin "object.__setattr__"))) (mk_Module : PySem.W.makesIn K C_Module = true) (kc_Module : PySem.W.keepIn K (.ref C_Module) = true)
    (nA_Module_number : PySem.W.findIn K (.ref C_Module) "number" = some none)
    (nA_Module_path : PySem.W.findIn K (.ref C_Module) "path" = some none)
    (nA_Module_things : PySem.W.findIn K (.ref C_Module) "things" = some none)
    (ic_Module : PySem.W.findIn K (.ref C_Module) "__class__" = some (some (.builtin "object.__class__"))) (im_Module : PySem.W.mroIn K C_Module (.type "object") = some true)
    {C_Late : Addr}
    (aC_Late : PySem.W.nsIn K mainGlobals "Late" = some (some (.ref C_Late))) (pg_Late : PySem.W.plainGet K C_Late Str.empty = true) (hd_Late : PySem.W.hasDictIn K C_Late = true) (po_Late : PySem.W.plainOver K C_Late = true) (sa_Late : PySem.W.findIn K (.ref C_Late) "__setattr__" = some (some (.builtin "object.__setattr__"))) (mk_Late : PySem.W.makesIn K C_Late = true) (kc_Late : PySem.W.keepIn K (.ref C_Late) = true)
    (nA_Late_home : PySem.W.findIn K (.ref C_Late) "home" = some none)
    (nA_Late_road : PySem.W.findIn K (.ref C_Late) "road" = some none)
    (ic_Late : PySem.W.findIn K (.ref C_Late) "__class__" = some (some (.builtin "object.__class__"))) (im_Late : PySem.W.mroIn K C_Late (.type "object") = some true)
    (eo_Module : PySem.W.mroIn K C_Module (.type "object") = some true) (ee_Module : PySem.W.findIn K (.ref C_Module) "__eq__" = some (some (.builtin "object.__eq__")))
    (gn : PySem.W.specialIn K (.builtin "object.__class__") "__get__" = some (some (.builtin "getset_descriptor.__get__"))) (gt : PySem.W.takesIn K (.builtin "object.__class__") = some true)
    (cx_Module : PySem.W.isClsIn K C_Module = true) (ct_Module : PySem.W.typeIn K (.ref C_Module) = some (.type "type")) (ss_Module : PySem.W.subIn K (.ref C_Module) (.ref C_Module) = some true)
    (cx_Late : PySem.W.isClsIn K C_Late = true) (ct_Late : PySem.W.typeIn K (.ref C_Late) = some (.type "type")) (ss_Late : PySem.W.subIn K (.ref C_Late) (.ref C_Late) = some true)
    (sb_Module_Late : PySem.W.subIn K (.ref C_Module) (.ref C_Late) = some false)
    (sb_Late_Module : PySem.W.subIn K (.ref C_Late) (.ref C_Module) = some false)
    (a_Fault_init : PySem.W.findIn K (.ref C_Fault) "__init__" = some (some (.ref f_Fault_init))) (l_Fault_init : K.lookup f_Fault_init = some ⟨oc_Fault_init, od_Fault_init, .func (PySem.W.fnOf "__init__" "Fault.__init__" (defArgs s_Fault_init) (defBody s_Fault_init) (defScope s_Fault_init) .none kV_Fault_init dc_Fault_init pm_Fault_init an_Fault_init cd_Fault_init ct_Fault_init), sl_Fault_init⟩) (c_Fault_init : PySem.W.codeIn K cd_Fault_init "Fault.__init__" = true) (k_Fault_init : PySem.W.keepIn K (.ref f_Fault_init) = true)
    (i_Fault_init : PySem.W.typeIn K (.ref f_Fault_init) = some (.type "function"))
    (a_Module_init : PySem.W.findIn K (.ref C_Module) "__init__" = some (some (.ref f_Module_init))) (l_Module_init : K.lookup f_Module_init = some ⟨oc_Module_init, od_Module_init, .func (PySem.W.fnOf "__init__" "Module.__init__" (defArgs s_Module_init) (defBody s_Module_init) (defScope s_Module_init) .none kV_Module_init dc_Module_init pm_Module_init an_Module_init cd_Module_init ct_Module_init), sl_Module_init⟩) (c_Module_init : PySem.W.codeIn K cd_Module_init "Module.__init__" = true) (k_Module_init : PySem.W.keepIn K (.ref f_Module_init) = true)
    (i_Module_init : PySem.W.isFn K (.ref f_Module_init) = true)
    (a_Module_bind : PySem.W.findIn K (.ref C_Module) "bind" = some (some (.ref f_Module_bind))) (l_Module_bind : K.lookup f_Module_bind = some ⟨oc_Module_bind, od_Module_bind, .func (PySem.W.fnOf "bind" "Module.bind" (defArgs s_Module_bind) (defBody s_Module_bind) (defScope s_Module_bind) .none kV_Module_bind dc_Module_bind pm_Module_bind an_Module_bind cd_Module_bind ct_Module_bind), sl_Module_bind⟩) (c_Module_bind : PySem.W.codeIn K cd_Module_bind "Module.bind" = true) (k_Module_bind : PySem.W.keepIn K (.ref f_Module_bind) = true)
    (i_Module_bind : PySem.W.isFn K (.ref f_Module_bind) = true)
    (a_Module_has : PySem.W.findIn K (.ref C_Module) "has" = some (some (.ref f_Module_has))) (l_Module_has : K.lookup f_Module_has = some ⟨oc_Module_has, od_Module_has, .func (PySem.W.fnOf "has" "Module.has" (defArgs s_Module_has) (defBody s_Module_has) (defScope s_Module_has) .none kV_Module_has dc_Module_has pm_Module_has an_Module_has cd_Module_has ct_Module_has), sl_Module_has⟩) (c_Module_has : PySem.W.codeIn K cd_Module_has "Module.has" = true) (k_Module_has : PySem.W.keepIn K (.ref f_Module_has) = true)
    (i_Module_has : PySem.W.isFn K (.ref f_Module_has) = true)
    (a_Module_thing_of : PySem.W.findIn K (.ref C_Module) "thing_of" = some (some (.ref f_Module_thing_of))) (l_Module_thing_of : K.lookup f_Module_thing_of = some ⟨oc_Module_thing_of, od_Module_thing_of, .func (PySem.W.fnOf "thing_of" "Module.thing_of" (defArgs s_Module_thing_of) (defBody s_Module_thing_of) (defScope s_Module_thing_of) .none kV_Module_thing_of dc_Module_thing_of pm_Module_thing_of an_Module_thing_of cd_Module_thing_of ct_Module_thing_of), sl_Module_thing_of⟩) (c_Module_thing_of : PySem.W.codeIn K cd_Module_thing_of "Module.thing_of" = true) (k_Module_thing_of : PySem.W.keepIn K (.ref f_Module_thing_of) = true)
    (i_Module_thing_of : PySem.W.isFn K (.ref f_Module_thing_of) = true)
    (a_Module_bound : PySem.W.findIn K (.ref C_Module) "bound" = some (some (.ref f_Module_bound))) (l_Module_bound : K.lookup f_Module_bound = some ⟨oc_Module_bound, od_Module_bound, .func (PySem.W.fnOf "bound" "Module.bound" (defArgs s_Module_bound) (defBody s_Module_bound) (defScope s_Module_bound) .none kV_Module_bound dc_Module_bound pm_Module_bound an_Module_bound cd_Module_bound ct_Module_bound), sl_Module_bound⟩) (c_Module_bound : PySem.W.codeIn K cd_Module_bound "Module.bound" = true) (k_Module_bound : PySem.W.keepIn K (.ref f_Module_bound) = true)
    (i_Module_bound : PySem.W.isFn K (.ref f_Module_bound) = true)
    (a_Late_init : PySem.W.findIn K (.ref C_Late) "__init__" = some (some (.ref f_Late_init))) (l_Late_init : K.lookup f_Late_init = some ⟨oc_Late_init, od_Late_init, .func (PySem.W.fnOf "__init__" "Late.__init__" (defArgs s_Late_init) (defBody s_Late_init) (defScope s_Late_init) .none kV_Late_init dc_Late_init pm_Late_init an_Late_init cd_Late_init ct_Late_init), sl_Late_init⟩) (c_Late_init : PySem.W.codeIn K cd_Late_init "Late.__init__" = true) (k_Late_init : PySem.W.keepIn K (.ref f_Late_init) = true)
    (i_Late_init : PySem.W.isFn K (.ref f_Late_init) = true)
    (a_told : PySem.W.nsIn K mainGlobals "told" = some (some (.ref f_told))) (l_told : K.lookup f_told = some ⟨oc_told, od_told, .func (PySem.W.fnOf "told" "told" (defArgs s_told) (defBody s_told) (defScope s_told) .none kV_told dc_told pm_told an_told cd_told ct_told), sl_told⟩) (c_told : PySem.W.codeIn K cd_told "told" = true) (k_told : PySem.W.keepIn K (.ref f_told) = true)
    (a_ring_from : PySem.W.nsIn K mainGlobals "ring_from" = some (some (.ref f_ring_from))) (l_ring_from : K.lookup f_ring_from = some ⟨oc_ring_from, od_ring_from, .func (PySem.W.fnOf "ring_from" "ring_from" (defArgs s_ring_from) (defBody s_ring_from) (defScope s_ring_from) .none kV_ring_from dc_ring_from pm_ring_from an_ring_from cd_ring_from ct_ring_from), sl_ring_from⟩) (c_ring_from : PySem.W.codeIn K cd_ring_from "ring_from" = true) (k_ring_from : PySem.W.keepIn K (.ref f_ring_from) = true)
    (a_look : PySem.W.nsIn K mainGlobals "look" = some (some (.ref f_look))) (l_look : K.lookup f_look = some ⟨oc_look, od_look, .func (PySem.W.fnOf "look" "look" (defArgs s_look) (defBody s_look) (defScope s_look) .none kV_look dc_look pm_look an_look cd_look ct_look), sl_look⟩) (c_look : PySem.W.codeIn K cd_look "look" = true) (k_look : PySem.W.keepIn K (.ref f_look) = true)
    (a_place_of : PySem.W.nsIn K mainGlobals "place_of" = some (some (.ref f_place_of))) (l_place_of : K.lookup f_place_of = some ⟨oc_place_of, od_place_of, .func (PySem.W.fnOf "place_of" "place_of" (defArgs s_place_of) (defBody s_place_of) (defScope s_place_of) .none kV_place_of dc_place_of pm_place_of an_place_of cd_place_of ct_place_of), sl_place_of⟩) (c_place_of : PySem.W.codeIn K cd_place_of "place_of" = true) (k_place_of : PySem.W.keepIn K (.ref f_place_of) = true)
    (a_follow : PySem.W.nsIn K mainGlobals "follow" = some (some (.ref f_follow))) (l_follow : K.lookup f_follow = some ⟨oc_follow, od_follow, .func (PySem.W.fnOf "follow" "follow" (defArgs s_follow) (defBody s_follow) (defScope s_follow) .none kV_follow dc_follow pm_follow an_follow cd_follow ct_follow), sl_follow⟩) (c_follow : PySem.W.codeIn K cd_follow "follow" = true) (k_follow : PySem.W.keepIn K (.ref f_follow) = true)
    (a_asked : PySem.W.nsIn K mainGlobals "asked" = some (some (.ref f_asked))) (l_asked : K.lookup f_asked = some ⟨oc_asked, od_asked, .func (PySem.W.fnOf "asked" "asked" (defArgs s_asked) (defBody s_asked) (defScope s_asked) .none kV_asked dc_asked pm_asked an_asked cd_asked ct_asked), sl_asked⟩) (c_asked : PySem.W.codeIn K cd_asked "asked" = true) (k_asked : PySem.W.keepIn K (.ref f_asked) = true)
    (a_l_at : PySem.W.nsIn K mainGlobals "_law_at" = some (some (.ref f_l_at))) (l_l_at : K.lookup f_l_at = some ⟨oc_l_at, od_l_at, .func (PySem.W.fnOf "_law_at" "_law_at" (defArgs s_l_at) (defBody s_l_at) (defScope s_l_at) .none kV_l_at dc_l_at pm_l_at an_l_at cd_l_at ct_l_at), sl_l_at⟩) (c_l_at : PySem.W.codeIn K cd_l_at "_law_at" = true) (k_l_at : PySem.W.keepIn K (.ref f_l_at) = true)
    (a_l_pot : PySem.W.nsIn K mainGlobals "_law_pot" = some (some (.ref f_l_pot))) (l_l_pot : K.lookup f_l_pot = some ⟨oc_l_pot, od_l_pot, .func (PySem.W.fnOf "_law_pot" "_law_pot" (defArgs s_l_pot) (defBody s_l_pot) (defScope s_l_pot) .none kV_l_pot dc_l_pot pm_l_pot an_l_pot cd_l_pot ct_l_pot), sl_l_pot⟩) (c_l_pot : PySem.W.codeIn K cd_l_pot "_law_pot" = true) (k_l_pot : PySem.W.keepIn K (.ref f_l_pot) = true)
    (a_l_draw : PySem.W.nsIn K mainGlobals "_law_draw" = some (some (.ref f_l_draw))) (l_l_draw : K.lookup f_l_draw = some ⟨oc_l_draw, od_l_draw, .func (PySem.W.fnOf "_law_draw" "_law_draw" (defArgs s_l_draw) (defBody s_l_draw) (defScope s_l_draw) .none kV_l_draw dc_l_draw pm_l_draw an_l_draw cd_l_draw ct_l_draw), sl_l_draw⟩) (c_l_draw : PySem.W.codeIn K cd_l_draw "_law_draw" = true) (k_l_draw : PySem.W.keepIn K (.ref f_l_draw) = true)
    (a_l_name : PySem.W.nsIn K mainGlobals "_law_name" = some (some (.ref f_l_name))) (l_l_name : K.lookup f_l_name = some ⟨oc_l_name, od_l_name, .func (PySem.W.fnOf "_law_name" "_law_name" (defArgs s_l_name) (defBody s_l_name) (defScope s_l_name) .none kV_l_name dc_l_name pm_l_name an_l_name cd_l_name ct_l_name), sl_l_name⟩) (c_l_name : PySem.W.codeIn K cd_l_name "_law_name" = true) (k_l_name : PySem.W.keepIn K (.ref f_l_name) = true)
    (a_l_names : PySem.W.nsIn K mainGlobals "_law_names" = some (some (.ref f_l_names))) (l_l_names : K.lookup f_l_names = some ⟨oc_l_names, od_l_names, .func (PySem.W.fnOf "_law_names" "_law_names" (defArgs s_l_names) (defBody s_l_names) (defScope s_l_names) .none kV_l_names dc_l_names pm_l_names an_l_names cd_l_names ct_l_names), sl_l_names⟩) (c_l_names : PySem.W.codeIn K cd_l_names "_law_names" = true) (k_l_names : PySem.W.keepIn K (.ref f_l_names) = true)
    (a_l_number : PySem.W.nsIn K mainGlobals "_law_number" = some (some (.ref f_l_number))) (l_l_number : K.lookup f_l_number = some ⟨oc_l_number, od_l_number, .func (PySem.W.fnOf "_law_number" "_law_number" (defArgs s_l_number) (defBody s_l_number) (defScope s_l_number) .none kV_l_number dc_l_number pm_l_number an_l_number cd_l_number ct_l_number), sl_l_number⟩) (c_l_number : PySem.W.codeIn K cd_l_number "_law_number" = true) (k_l_number : PySem.W.keepIn K (.ref f_l_number) = true)
    (a_l_road : PySem.W.nsIn K mainGlobals "_law_road" = some (some (.ref f_l_road))) (l_l_road : K.lookup f_l_road = some ⟨oc_l_road, od_l_road, .func (PySem.W.fnOf "_law_road" "_law_road" (defArgs s_l_road) (defBody s_l_road) (defScope s_l_road) .none kV_l_road dc_l_road pm_l_road an_l_road cd_l_road ct_l_road), sl_l_road⟩) (c_l_road : PySem.W.codeIn K cd_l_road "_law_road" = true) (k_l_road : PySem.W.keepIn K (.ref f_l_road) = true)
    (a_l_facts : PySem.W.nsIn K mainGlobals "_law_facts" = some (some (.ref f_l_facts))) (l_l_facts : K.lookup f_l_facts = some ⟨oc_l_facts, od_l_facts, .func (PySem.W.fnOf "_law_facts" "_law_facts" (defArgs s_l_facts) (defBody s_l_facts) (defScope s_l_facts) .none kV_l_facts dc_l_facts pm_l_facts an_l_facts cd_l_facts ct_l_facts), sl_l_facts⟩) (c_l_facts : PySem.W.codeIn K cd_l_facts "_law_facts" = true) (k_l_facts : PySem.W.keepIn K (.ref f_l_facts) = true)
    (a_l_kind : PySem.W.nsIn K mainGlobals "_law_kind" = some (some (.ref f_l_kind))) (l_l_kind : K.lookup f_l_kind = some ⟨oc_l_kind, od_l_kind, .func (PySem.W.fnOf "_law_kind" "_law_kind" (defArgs s_l_kind) (defBody s_l_kind) (defScope s_l_kind) .none kV_l_kind dc_l_kind pm_l_kind an_l_kind cd_l_kind ct_l_kind), sl_l_kind⟩) (c_l_kind : PySem.W.codeIn K cd_l_kind "_law_kind" = true) (k_l_kind : PySem.W.keepIn K (.ref f_l_kind) = true)
    (a_l_bound : PySem.W.nsIn K mainGlobals "_law_bound" = some (some (.ref f_l_bound))) (l_l_bound : K.lookup f_l_bound = some ⟨oc_l_bound, od_l_bound, .func (PySem.W.fnOf "_law_bound" "_law_bound" (defArgs s_l_bound) (defBody s_l_bound) (defScope s_l_bound) .none kV_l_bound dc_l_bound pm_l_bound an_l_bound cd_l_bound ct_l_bound), sl_l_bound⟩) (c_l_bound : PySem.W.codeIn K cd_l_bound "_law_bound" = true) (k_l_bound : PySem.W.keepIn K (.ref f_l_bound) = true)
    (a_l_web : PySem.W.nsIn K mainGlobals "_law_web" = some (some (.ref f_l_web))) (l_l_web : K.lookup f_l_web = some ⟨oc_l_web, od_l_web, .func (PySem.W.fnOf "_law_web" "_law_web" (defArgs s_l_web) (defBody s_l_web) (defScope s_l_web) .none kV_l_web dc_l_web pm_l_web an_l_web cd_l_web ct_l_web), sl_l_web⟩) (c_l_web : PySem.W.codeIn K cd_l_web "_law_web" = true) (k_l_web : PySem.W.keepIn K (.ref f_l_web) = true)
    (a_l_told : PySem.W.nsIn K mainGlobals "_law_told" = some (some (.ref f_l_told))) (l_l_told : K.lookup f_l_told = some ⟨oc_l_told, od_l_told, .func (PySem.W.fnOf "_law_told" "_law_told" (defArgs s_l_told) (defBody s_l_told) (defScope s_l_told) .none kV_l_told dc_l_told pm_l_told an_l_told cd_l_told ct_l_told), sl_l_told⟩) (c_l_told : PySem.W.codeIn K cd_l_told "_law_told" = true) (k_l_told : PySem.W.keepIn K (.ref f_l_told) = true)
    (a_l_chain : PySem.W.nsIn K mainGlobals "_law_chain" = some (some (.ref f_l_chain))) (l_l_chain : K.lookup f_l_chain = some ⟨oc_l_chain, od_l_chain, .func (PySem.W.fnOf "_law_chain" "_law_chain" (defArgs s_l_chain) (defBody s_l_chain) (defScope s_l_chain) .none kV_l_chain dc_l_chain pm_l_chain an_l_chain cd_l_chain ct_l_chain), sl_l_chain⟩) (c_l_chain : PySem.W.codeIn K cd_l_chain "_law_chain" = true) (k_l_chain : PySem.W.keepIn K (.ref f_l_chain) = true)
    (a_l_fault : PySem.W.nsIn K mainGlobals "_law_fault" = some (some (.ref f_l_fault))) (l_l_fault : K.lookup f_l_fault = some ⟨oc_l_fault, od_l_fault, .func (PySem.W.fnOf "_law_fault" "_law_fault" (defArgs s_l_fault) (defBody s_l_fault) (defScope s_l_fault) .none kV_l_fault dc_l_fault pm_l_fault an_l_fault cd_l_fault ct_l_fault), sl_l_fault⟩) (c_l_fault : PySem.W.codeIn K cd_l_fault "_law_fault" = true) (k_l_fault : PySem.W.keepIn K (.ref f_l_fault) = true)
    (a_l_handed : PySem.W.nsIn K mainGlobals "_law_handed" = some (some (.ref f_l_handed))) (l_l_handed : K.lookup f_l_handed = some ⟨oc_l_handed, od_l_handed, .func (PySem.W.fnOf "_law_handed" "_law_handed" (defArgs s_l_handed) (defBody s_l_handed) (defScope s_l_handed) .none kV_l_handed dc_l_handed pm_l_handed an_l_handed cd_l_handed ct_l_handed), sl_l_handed⟩) (c_l_handed : PySem.W.codeIn K cd_l_handed "_law_handed" = true) (k_l_handed : PySem.W.keepIn K (.ref f_l_handed) = true)
    (a_l_is_the : PySem.W.nsIn K mainGlobals "_law_is_the" = some (some (.ref f_l_is_the))) (l_l_is_the : K.lookup f_l_is_the = some ⟨oc_l_is_the, od_l_is_the, .func (PySem.W.fnOf "_law_is_the" "_law_is_the" (defArgs s_l_is_the) (defBody s_l_is_the) (defScope s_l_is_the) .none kV_l_is_the dc_l_is_the pm_l_is_the an_l_is_the cd_l_is_the ct_l_is_the), sl_l_is_the⟩) (c_l_is_the : PySem.W.codeIn K cd_l_is_the "_law_is_the" = true) (k_l_is_the : PySem.W.keepIn K (.ref f_l_is_the) = true)
    (a_l_agrees : PySem.W.nsIn K mainGlobals "_law_agrees" = some (some (.ref f_l_agrees))) (l_l_agrees : K.lookup f_l_agrees = some ⟨oc_l_agrees, od_l_agrees, .func (PySem.W.fnOf "_law_agrees" "_law_agrees" (defArgs s_l_agrees) (defBody s_l_agrees) (defScope s_l_agrees) .none kV_l_agrees dc_l_agrees pm_l_agrees an_l_agrees cd_l_agrees ct_l_agrees), sl_l_agrees⟩) (c_l_agrees : PySem.W.codeIn K cd_l_agrees "_law_agrees" = true) (k_l_agrees : PySem.W.keepIn K (.ref f_l_agrees) = true)
    (a_l_due : PySem.W.nsIn K mainGlobals "_law_due" = some (some (.ref f_l_due))) (l_l_due : K.lookup f_l_due = some ⟨oc_l_due, od_l_due, .func (PySem.W.fnOf "_law_due" "_law_due" (defArgs s_l_due) (defBody s_l_due) (defScope s_l_due) .none kV_l_due dc_l_due pm_l_due an_l_due cd_l_due ct_l_due), sl_l_due⟩) (c_l_due : PySem.W.codeIn K cd_l_due "_law_due" = true) (k_l_due : PySem.W.keepIn K (.ref f_l_due) = true)
    (a_l_said : PySem.W.nsIn K mainGlobals "_law_said" = some (some (.ref f_l_said))) (l_l_said : K.lookup f_l_said = some ⟨oc_l_said, od_l_said, .func (PySem.W.fnOf "_law_said" "_law_said" (defArgs s_l_said) (defBody s_l_said) (defScope s_l_said) .none kV_l_said dc_l_said pm_l_said an_l_said cd_l_said ct_l_said), sl_l_said⟩) (c_l_said : PySem.W.codeIn K cd_l_said "_law_said" = true) (k_l_said : PySem.W.keepIn K (.ref f_l_said) = true)
    (a_l_functions : PySem.W.nsIn K mainGlobals "_law_functions" = some (some (.ref f_l_functions))) (l_l_functions : K.lookup f_l_functions = some ⟨oc_l_functions, od_l_functions, .func (PySem.W.fnOf "_law_functions" "_law_functions" (defArgs s_l_functions) (defBody s_l_functions) (defScope s_l_functions) .none kV_l_functions dc_l_functions pm_l_functions an_l_functions cd_l_functions ct_l_functions), sl_l_functions⟩) (c_l_functions : PySem.W.codeIn K cd_l_functions "_law_functions" = true) (k_l_functions : PySem.W.keepIn K (.ref f_l_functions) = true)
    (a_l_taken : PySem.W.nsIn K mainGlobals "_law_taken" = some (some (.ref f_l_taken))) (l_l_taken : K.lookup f_l_taken = some ⟨oc_l_taken, od_l_taken, .func (PySem.W.fnOf "_law_taken" "_law_taken" (defArgs s_l_taken) (defBody s_l_taken) (defScope s_l_taken) .none kV_l_taken dc_l_taken pm_l_taken an_l_taken cd_l_taken ct_l_taken), sl_l_taken⟩) (c_l_taken : PySem.W.codeIn K cd_l_taken "_law_taken" = true) (k_l_taken : PySem.W.keepIn K (.ref f_l_taken) = true)
    (a_l_right : PySem.W.nsIn K mainGlobals "_law_right" = some (some (.ref f_l_right))) (l_l_right : K.lookup f_l_right = some ⟨oc_l_right, od_l_right, .func (PySem.W.fnOf "_law_right" "_law_right" (defArgs s_l_right) (defBody s_l_right) (defScope s_l_right) .none kV_l_right dc_l_right pm_l_right an_l_right cd_l_right ct_l_right), sl_l_right⟩) (c_l_right : PySem.W.codeIn K cd_l_right "_law_right" = true) (k_l_right : PySem.W.keepIn K (.ref f_l_right) = true)
    (a_law : PySem.W.nsIn K mainGlobals "law" = some (some (.ref f_law))) (l_law : K.lookup f_law = some ⟨oc_law, od_law, .func (PySem.W.fnOf "law" "law" (defArgs s_law) (defBody s_law) (defScope s_law) .none kV_law dc_law pm_law an_law cd_law ct_law), sl_law⟩) (c_law : PySem.W.codeIn K cd_law "law" = true) (k_law : PySem.W.keepIn K (.ref f_law) = true)
    (z_sorted : PySem.W.nsIn K mainGlobals "sorted" = some none)
    (z_isinstance : PySem.W.nsIn K mainGlobals "isinstance" = some none)
    (z_tuple : PySem.W.nsIn K mainGlobals "tuple" = some none)
    (z_len : PySem.W.nsIn K mainGlobals "len" = some none)
    (z_max : PySem.W.nsIn K mainGlobals "max" = some none)
    (z_divmod : PySem.W.nsIn K mainGlobals "divmod" = some none)
    (z_range : PySem.W.nsIn K mainGlobals "range" = some none)
    (z_list : PySem.W.nsIn K mainGlobals "list" = some none)
    (z_repr : PySem.W.nsIn K mainGlobals "repr" = some none)
    (z_min : PySem.W.nsIn K mainGlobals "min" = some none) :
    ∃ fd : FuncData, (∀ (s : Shared) (v : Value), BindsTo s fd ⟨[v], []⟩ [("_law_script", v)]) ∧ ∀ base : Heap, K.In base → base.Ns mainGlobals mg → FnG l.prog w K mg base 9 fa fd ["_law_script"] (spLaw K) := by
  have e := hfa.symm.trans (PySem.W.mg_of X G a_law)
  cases e
  have F_Fault_init := fun_mk (st := s_Fault_init) l_Fault_init c_Fault_init k_Fault_init
  have b_Fault_init := F_Fault_init.binds (ps := ["self", "fault"]) fun _ _ _ _ _ _ us hl => match us, hl with | [_, _], _ => rfl
  have X_Fault : ExcC K C_Fault f_Fault_init := ⟨⟨⟨_, _, _, _, _, _, _, _, _, _, _, _, _, _, _, xL_Fault, by rfl⟩, sa_Fault, eC_Fault, tC_Fault, kc_Fault⟩, a_Fault_init, i_Fault_init⟩
  have F_Module_init := fun_mk (st := s_Module_init) l_Module_init c_Module_init k_Module_init
  have b_Module_init := F_Module_init.binds (ps := ["self", "number", "path"]) fun _ _ _ _ _ _ us hl => match us, hl with | [_, _, _], _ => rfl
  have M_Module : Mk K C_Module f_Module_init := ⟨mk_Module, a_Module_init, i_Module_init, kc_Module⟩
  have F_Module_bind := fun_mk (st := s_Module_bind) l_Module_bind c_Module_bind k_Module_bind
  have b_Module_bind := F_Module_bind.binds (ps := ["self", "name", "thing"]) fun _ _ _ _ _ _ us hl => match us, hl with | [_, _, _], _ => rfl
  have mt_Module_bind : Meth K C_Module "bind" f_Module_bind := ⟨a_Module_bind, i_Module_bind, k_Module_bind⟩
  have F_Module_has := fun_mk (st := s_Module_has) l_Module_has c_Module_has k_Module_has
  have b_Module_has := F_Module_has.binds (ps := ["self", "name"]) fun _ _ _ _ _ _ us hl => match us, hl with | [_, _], _ => rfl
  have mt_Module_has : Meth K C_Module "has" f_Module_has := ⟨a_Module_has, i_Module_has, k_Module_has⟩
  have F_Module_thing_of := fun_mk (st := s_Module_thing_of) l_Module_thing_of c_Module_thing_of k_Module_thing_of
  have b_Module_thing_of := F_Module_thing_of.binds (ps := ["self", "name"]) fun _ _ _ _ _ _ us hl => match us, hl with | [_, _], _ => rfl
  have mt_Module_thing_of : Meth K C_Module "thing_of" f_Module_thing_of := ⟨a_Module_thing_of, i_Module_thing_of, k_Module_thing_of⟩
  have F_Module_bound := fun_mk (st := s_Module_bound) l_Module_bound c_Module_bound k_Module_bound
  have b_Module_bound := F_Module_bound.binds (ps := ["self"]) fun _ _ _ _ _ _ us hl => match us, hl with | [_], _ => rfl
  have mt_Module_bound : Meth K C_Module "bound" f_Module_bound := ⟨a_Module_bound, i_Module_bound, k_Module_bound⟩
  have F_Late_init := fun_mk (st := s_Late_init) l_Late_init c_Late_init k_Late_init
  have b_Late_init := F_Late_init.binds (ps := ["self", "home", "road"]) fun _ _ _ _ _ _ us hl => match us, hl with | [_, _, _], _ => rfl
  have M_Late : Mk K C_Late f_Late_init := ⟨mk_Late, a_Late_init, i_Late_init, kc_Late⟩
  have F_told := fun_mk (st := s_told) l_told c_told k_told
  have b_told := F_told.binds (ps := ["thing"]) fun _ _ _ _ _ _ us hl => match us, hl with | [_], _ => rfl
  have m_told := PySem.W.mg_of X G a_told
  have F_ring_from := fun_mk (st := s_ring_from) l_ring_from c_ring_from k_ring_from
  have b_ring_from := F_ring_from.binds (ps := ["module", "chain"]) fun _ _ _ _ _ _ us hl => match us, hl with | [_, _], _ => rfl
  have m_ring_from := PySem.W.mg_of X G a_ring_from
  have F_look := fun_mk (st := s_look) l_look c_look k_look
  have b_look := F_look.binds (ps := ["module", "name", "chain"]) fun _ _ _ _ _ _ us hl => match us, hl with | [_, _, _], _ => rfl
  have m_look := PySem.W.mg_of X G a_look
  have F_place_of := fun_mk (st := s_place_of) l_place_of c_place_of k_place_of
  have b_place_of := F_place_of.binds (ps := ["module", "road", "chain"]) fun _ _ _ _ _ _ us hl => match us, hl with | [_, _, _], _ => rfl
  have m_place_of := PySem.W.mg_of X G a_place_of
  have F_follow := fun_mk (st := s_follow) l_follow c_follow k_follow
  have b_follow := F_follow.binds (ps := ["module", "road", "chain"]) fun _ _ _ _ _ _ us hl => match us, hl with | [_, _, _], _ => rfl
  have m_follow := PySem.W.mg_of X G a_follow
  have F_asked := fun_mk (st := s_asked) l_asked c_asked k_asked
  have b_asked := F_asked.binds (ps := ["late", "chain"]) fun _ _ _ _ _ _ us hl => match us, hl with | [_, _], _ => rfl
  have m_asked := PySem.W.mg_of X G a_asked
  have F_l_at := fun_mk (st := s_l_at) l_l_at c_l_at k_l_at
  have b_l_at := F_l_at.binds (ps := ["_law_script", "_law_k"]) fun _ _ _ _ _ _ us hl => match us, hl with | [_, _], _ => rfl
  have m_l_at := PySem.W.mg_of X G a_l_at
  have F_l_pot := fun_mk (st := s_l_pot) l_l_pot c_l_pot k_l_pot
  have b_l_pot := F_l_pot.binds (ps := ["_law_script", "_law_k"]) fun _ _ _ _ _ _ us hl => match us, hl with | [_, _], _ => rfl
  have m_l_pot := PySem.W.mg_of X G a_l_pot
  have F_l_draw := fun_mk (st := s_l_draw) l_l_draw c_l_draw k_l_draw
  have b_l_draw := F_l_draw.binds (ps := ["_law_pot_here", "_law_room"]) fun _ _ _ _ _ _ us hl => match us, hl with | [_, _], _ => rfl
  have m_l_draw := PySem.W.mg_of X G a_l_draw
  have F_l_name := fun_mk (st := s_l_name) l_l_name c_l_name k_l_name
  have b_l_name := F_l_name.binds (ps := ["_law_pot_here", "_law_taken_here"]) fun _ _ _ _ _ _ us hl => match us, hl with | [_, _], _ => rfl
  have m_l_name := PySem.W.mg_of X G a_l_name
  have F_l_names := fun_mk (st := s_l_names) l_l_names c_l_names k_l_names
  have b_l_names := F_l_names.binds (ps := ["_law_pot_here", "_law_room"]) fun _ _ _ _ _ _ us hl => match us, hl with | [_, _], _ => rfl
  have m_l_names := PySem.W.mg_of X G a_l_names
  have F_l_number := fun_mk (st := s_l_number) l_l_number c_l_number k_l_number
  have b_l_number := F_l_number.binds (ps := ["_law_pot_here"]) fun _ _ _ _ _ _ us hl => match us, hl with | [_], _ => rfl
  have m_l_number := PySem.W.mg_of X G a_l_number
  have F_l_road := fun_mk (st := s_l_road) l_l_road c_l_road k_l_road
  have b_l_road := F_l_road.binds (ps := ["_law_pot_here", "_law_names_here"]) fun _ _ _ _ _ _ us hl => match us, hl with | [_, _], _ => rfl
  have m_l_road := PySem.W.mg_of X G a_l_road
  have F_l_facts := fun_mk (st := s_l_facts) l_l_facts c_l_facts k_l_facts
  have b_l_facts := F_l_facts.binds (ps := ["_law_pot_here", "_law_room"]) fun _ _ _ _ _ _ us hl => match us, hl with | [_, _], _ => rfl
  have m_l_facts := PySem.W.mg_of X G a_l_facts
  have F_l_kind := fun_mk (st := s_l_kind) l_l_kind c_l_kind k_l_kind
  have b_l_kind := F_l_kind.binds (ps := ["_law_pot_here", "_law_facts_here", "_law_names_here"]) fun _ _ _ _ _ _ us hl => match us, hl with | [_, _, _], _ => rfl
  have m_l_kind := PySem.W.mg_of X G a_l_kind
  have F_l_bound := fun_mk (st := s_l_bound) l_l_bound c_l_bound k_l_bound
  have b_l_bound := F_l_bound.binds (ps := ["_law_modules", "_law_models", "_law_which", "_law_name_here", "_law_kind_here"]) fun _ _ _ _ _ _ us hl => match us, hl with | [_, _, _, _, _], _ => rfl
  have m_l_bound := PySem.W.mg_of X G a_l_bound
  have F_l_web := fun_mk (st := s_l_web) l_l_web c_l_web k_l_web
  have b_l_web := F_l_web.binds (ps := ["_law_pot_here", "_law_facts_here", "_law_names_here", "_law_modules"]) fun _ _ _ _ _ _ us hl => match us, hl with | [_, _, _, _], _ => rfl
  have m_l_web := PySem.W.mg_of X G a_l_web
  have F_l_told := fun_mk (st := s_l_told) l_l_told c_l_told k_l_told
  have b_l_told := F_l_told.binds (ps := ["_law_facts_here", "_law_kind_here"]) fun _ _ _ _ _ _ us hl => match us, hl with | [_, _], _ => rfl
  have m_l_told := PySem.W.mg_of X G a_l_told
  have F_l_chain := fun_mk (st := s_l_chain) l_l_chain c_l_chain k_l_chain
  have b_l_chain := F_l_chain.binds (ps := ["_law_pot_here", "_law_facts_here"]) fun _ _ _ _ _ _ us hl => match us, hl with | [_, _], _ => rfl
  have m_l_chain := PySem.W.mg_of X G a_l_chain
  have F_l_fault := fun_mk (st := s_l_fault) l_l_fault c_l_fault k_l_fault
  have b_l_fault := F_l_fault.binds (ps := ["_law_facts_here", "_law_chain_here", "_law_at_here", "_law_name_here"]) fun _ _ _ _ _ _ us hl => match us, hl with | [_, _, _, _], _ => rfl
  have m_l_fault := PySem.W.mg_of X G a_l_fault
  have F_l_handed := fun_mk (st := s_l_handed) l_l_handed c_l_handed k_l_handed
  have b_l_handed := F_l_handed.binds (ps := ["_law_modules", "_law_chain_here"]) fun _ _ _ _ _ _ us hl => match us, hl with | [_, _], _ => rfl
  have m_l_handed := PySem.W.mg_of X G a_l_handed
  have F_l_is_the := fun_mk (st := s_l_is_the) l_l_is_the c_l_is_the k_l_is_the
  have b_l_is_the := F_l_is_the.binds (ps := ["_law_thing", "_law_kind_here", "_law_facts_here", "_law_models"]) fun _ _ _ _ _ _ us hl => match us, hl with | [_, _, _, _], _ => rfl
  have m_l_is_the := PySem.W.mg_of X G a_l_is_the
  have F_l_agrees := fun_mk (st := s_l_agrees) l_l_agrees c_l_agrees k_l_agrees
  have b_l_agrees := F_l_agrees.binds (ps := ["_law_said_here", "_law_due_here", "_law_facts_here", "_law_models"]) fun _ _ _ _ _ _ us hl => match us, hl with | [_, _, _, _], _ => rfl
  have m_l_agrees := PySem.W.mg_of X G a_l_agrees
  have F_l_due := fun_mk (st := s_l_due) l_l_due c_l_due k_l_due
  have b_l_due := F_l_due.binds (ps := ["_law_facts_here", "_law_models", "_law_chain_here", "_law_at_here", "_law_road_here"]) fun _ _ _ _ _ _ us hl => match us, hl with | [_, _, _, _, _], _ => rfl
  have m_l_due := PySem.W.mg_of X G a_l_due
  have F_l_said := fun_mk (st := s_l_said) l_l_said c_l_said k_l_said
  have b_l_said := F_l_said.binds (ps := ["_law_late", "_law_handed_here"]) fun _ _ _ _ _ _ us hl => match us, hl with | [_, _], _ => rfl
  have m_l_said := PySem.W.mg_of X G a_l_said
  have F_l_functions := fun_mk (st := s_l_functions) l_l_functions c_l_functions k_l_functions
  have b_l_functions := F_l_functions.binds (ps := ["_law_pot_here", "_law_facts_here", "_law_names_here", "_law_modules", "_law_models"]) fun _ _ _ _ _ _ us hl => match us, hl with | [_, _, _, _, _], _ => rfl
  have m_l_functions := PySem.W.mg_of X G a_l_functions
  have F_l_taken := fun_mk (st := s_l_taken) l_l_taken c_l_taken k_l_taken
  have b_l_taken := F_l_taken.binds (ps := ["_law_pot_here", "_law_functions_here", "_law_modules", "_law_models"]) fun _ _ _ _ _ _ us hl => match us, hl with | [_, _, _, _], _ => rfl
  have m_l_taken := PySem.W.mg_of X G a_l_taken
  have F_l_right := fun_mk (st := s_l_right) l_l_right c_l_right k_l_right
  have b_l_right := F_l_right.binds (ps := ["_law_facts_here", "_law_models", "_law_modules", "_law_function", "_law_chain_here"]) fun _ _ _ _ _ _ us hl => match us, hl with | [_, _, _, _, _], _ => rfl
  have m_l_right := PySem.W.mg_of X G a_l_right
  have F_law := fun_mk (st := s_law) l_law c_law k_law
  have b_law := F_law.binds (ps := ["_law_script"]) fun _ _ _ _ _ _ us hl => match us, hl with | [_], _ => rfl
  have m_law := PySem.W.mg_of X G a_law
  have n_sorted := PySem.W.mg_none_of X G z_sorted
  have n_isinstance := PySem.W.mg_none_of X G z_isinstance
  have n_tuple := PySem.W.mg_none_of X G z_tuple
  have n_len := PySem.W.mg_none_of X G z_len
  have n_max := PySem.W.mg_none_of X G z_max
  have n_divmod := PySem.W.mg_none_of X G z_divmod
  have n_range := PySem.W.mg_none_of X G z_range
  have n_list := PySem.W.mg_none_of X G z_list
  have n_repr := PySem.W.mg_none_of X G z_repr
  have n_min := PySem.W.mg_none_of X G z_min
  refine ⟨PySem.W.fnOf "law" "law" (defArgs s_law) (defBody s_law) (defScope s_law) .none kV_law dc_law pm_law an_law cd_law ct_law, fun s v => .of_eq rfl, fun base _ _ => ?_⟩
  have T : Txt K mg C_MadeError C_Fault C_Module C_Late := ⟨PySem.W.mg_of X G aC_MadeError, ⟨tg_MadeError, tr_MadeError, tv_MadeError⟩, PySem.W.mg_of X G aC_Fault, ⟨ga_Fault, gg_Fault, eC_Fault, hC_Fault⟩, exm_sub eC_Fault iC_Fault tC_Fault sC_Fault, nb_Fault_fault, ⟨pg_Module, hd_Module, po_Module, sa_Module⟩, PySem.W.mg_of X G aC_Module, nA_Module_number, nA_Module_path, nA_Module_things, ⟨ic_Module, gn, gt, im_Module⟩, ⟨eo_Module, ee_Module⟩, ⟨pg_Late, hd_Late, po_Late, sa_Late⟩, PySem.W.mg_of X G aC_Late, nA_Late_home, nA_Late_road, ⟨ic_Late, gn, gt, im_Late⟩, kit_self _ _, kit_sub cx_Late ct_Late ss_Late sb_Module_Late, kit_sub cx_Module ct_Module ss_Module sb_Late_Module, kit_self _ _, kit_sub cx_Module ct_Module ss_Module (sub_bt (by decide +kernel)), kit_sub cx_Late ct_Late ss_Late (sub_bt (by decide +kernel)), n_sorted, n_isinstance, n_tuple, n_len, n_max, n_divmod, n_range, n_list, n_repr, n_min⟩
  have D_l_at : DnF l.prog w K mg base 1 "_law_at" ["_law_script", "_law_k"] (spAt K) := ⟨_, _, ok_at F_l_at T, m_l_at, k_l_at, b_l_at⟩
  have D_l_pot : DnF l.prog w K mg base 2 "_law_pot" ["_law_script", "_law_k"] (spPot K) := ⟨_, _, ok_pot F_l_pot T D_l_at, m_l_pot, k_l_pot, b_l_pot⟩
  have D_l_draw : DnF l.prog w K mg base 1 "_law_draw" ["_law_pot_here", "_law_room"] spDraw := ⟨_, _, ok_draw F_l_draw T, m_l_draw, k_l_draw, b_l_draw⟩
  have D_Module_init : DkF l.prog w K mg base 1 C_Module ["self", "number", "path"] (spMInit C_Module) := ⟨_, _, ok_m_init F_Module_init T, M_Module, b_Module_init⟩
  have D_Module_bind : DmF l.prog w K mg base 1 C_Module "bind" ["self", "name", "thing"] (spBind C_Module) := ⟨_, _, ok_bind F_Module_bind T, mt_Module_bind, b_Module_bind⟩
  have D_Module_has : DmF l.prog w K mg base 1 C_Module "has" ["self", "name"] (spHas C_Module) := ⟨_, _, ok_has F_Module_has T, mt_Module_has, b_Module_has⟩
  have D_Module_thing_of : DmF l.prog w K mg base 1 C_Module "thing_of" ["self", "name"] (spThing C_Module) := ⟨_, _, ok_thing_of F_Module_thing_of T, mt_Module_thing_of, b_Module_thing_of⟩
  have D_Module_bound : DmF l.prog w K mg base 1 C_Module "bound" ["self"] (spBound C_Module) := ⟨_, _, ok_bound F_Module_bound T, mt_Module_bound, b_Module_bound⟩
  have D_Late_init : DkF l.prog w K mg base 1 C_Late ["self", "home", "road"] (spLInit C_Late) := ⟨_, _, ok_late_init F_Late_init T, M_Late, b_Late_init⟩
  have D_Fault_init : DxF l.prog w K mg base 1 C_Fault ["self", "fault"] (spFInit C_Fault) := ⟨_, _, ok_f_init F_Fault_init T X_Fault.ox, X_Fault, b_Fault_init⟩
  have D_told : DnF l.prog w K mg base 1 "told" ["thing"] (spTold C_Module C_Late) := ⟨_, _, ok_told F_told T, m_told, k_told, b_told⟩
  have D_l_name : DnF l.prog w K mg base 2 "_law_name" ["_law_pot_here", "_law_taken_here"] spName := ⟨_, _, ok_name F_l_name T D_l_draw, m_l_name, k_l_name, b_l_name⟩
  have D_l_names : DnF l.prog w K mg base 3 "_law_names" ["_law_pot_here", "_law_room"] spNames := ⟨_, _, ok_names F_l_names T D_l_name, m_l_names, k_l_names, b_l_names⟩
  have D_l_number : DnF l.prog w K mg base 2 "_law_number" ["_law_pot_here"] spNumber := ⟨_, _, ok_number F_l_number D_l_draw, m_l_number, k_l_number, b_l_number⟩
  have D_l_road : DnF l.prog w K mg base 2 "_law_road" ["_law_pot_here", "_law_names_here"] spRoad := ⟨_, _, ok_road F_l_road T D_l_draw, m_l_road, k_l_road, b_l_road⟩
  have D_l_facts : DnF l.prog w K mg base 4 "_law_facts" ["_law_pot_here", "_law_room"] spFacts := ⟨_, _, ok_facts F_l_facts T D_l_draw D_l_names D_l_road, m_l_facts, k_l_facts, b_l_facts⟩
  have D_l_kind : DnF l.prog w K mg base 3 "_law_kind" ["_law_pot_here", "_law_facts_here", "_law_names_here"] spKind := ⟨_, _, ok_kind F_l_kind T D_l_draw D_l_road D_l_number, m_l_kind, k_l_kind, b_l_kind⟩
  have D_l_told : DnF l.prog w K mg base 1 "_law_told" ["_law_facts_here", "_law_kind_here"] spToldL := ⟨_, _, ok_toldL F_l_told, m_l_told, k_l_told, b_l_told⟩
  have D_l_bound : DnF l.prog w K mg base 3 "_law_bound" ["_law_modules", "_law_models", "_law_which", "_law_name_here", "_law_kind_here"] (spBoundL C_Module C_Late) := ⟨_, _, ok_boundL F_l_bound T D_Late_init D_Module_bind, m_l_bound, k_l_bound, b_l_bound⟩
  have D_l_chain : DnF l.prog w K mg base 2 "_law_chain" ["_law_pot_here", "_law_facts_here"] spChain := ⟨_, _, ok_chain F_l_chain T D_l_draw, m_l_chain, k_l_chain, b_l_chain⟩
  have D_l_handed : DnF l.prog w K mg base 1 "_law_handed" ["_law_modules", "_law_chain_here"] spHanded := ⟨_, _, ok_handed F_l_handed, m_l_handed, k_l_handed, b_l_handed⟩
  have D_ring_from : DnF l.prog w K mg base 1 "ring_from" ["module", "chain"] (spRing K C_Module C_Late) := ⟨_, _, ok_ring F_ring_from T, m_ring_from, k_ring_from, b_ring_from⟩
  have D_look : DnX l.prog w K mg base 3 "look" ["module", "name", "chain"] (spLook K C_Module C_Late C_Fault) := ⟨_, _, ok_look F_look T D_Module_has D_Module_thing_of D_ring_from D_Fault_init, m_look, k_look, b_look⟩
  have D_l_fault : DnF l.prog w K mg base 1 "_law_fault" ["_law_facts_here", "_law_chain_here", "_law_at_here", "_law_name_here"] (spFaultL K) := ⟨_, _, ok_faultL F_l_fault T, m_l_fault, k_l_fault, b_l_fault⟩
  have D_place_of : DnX l.prog w K mg base 4 "place_of" ["module", "road", "chain"] (spPlace K C_Module C_Late C_Fault) := ⟨_, _, ok_place_of F_place_of T D_look D_Fault_init, m_place_of, k_place_of, b_place_of⟩
  have D_follow : DnX l.prog w K mg base 5 "follow" ["module", "road", "chain"] (spFollow K C_Module C_Late C_Fault) := ⟨_, _, ok_follow F_follow T D_place_of D_look, m_follow, k_follow, b_follow⟩
  have D_asked : DnX l.prog w K mg base 6 "asked" ["late", "chain"] (spAsked K C_Module C_Late C_Fault) := ⟨_, _, ok_asked F_asked T D_follow, m_asked, k_asked, b_asked⟩
  have D_l_is_the : DnG l.prog w K mg base 2 "_law_is_the" ["_law_thing", "_law_kind_here", "_law_facts_here", "_law_models"] (spIsThe C_Module C_Late) := ⟨_, _, ok_is_the F_l_is_the T D_told D_l_told D_Module_bound, m_l_is_the, k_l_is_the, b_l_is_the⟩
  have D_l_agrees : DnG l.prog w K mg base 3 "_law_agrees" ["_law_said_here", "_law_due_here", "_law_facts_here", "_law_models"] (spAgrees K C_Module C_Late) := ⟨_, _, ok_agrees F_l_agrees T D_l_is_the, m_l_agrees, k_l_agrees, b_l_agrees⟩
  have D_l_web : DnF l.prog w K mg base 4 "_law_web" ["_law_pot_here", "_law_facts_here", "_law_names_here", "_law_modules"] (spWeb C_Module C_Late) := ⟨_, _, ok_web F_l_web T D_l_draw D_l_kind D_l_bound, m_l_web, k_l_web, b_l_web⟩
  have D_l_due : DnF l.prog w K mg base 2 "_law_due" ["_law_facts_here", "_law_models", "_law_chain_here", "_law_at_here", "_law_road_here"] (spDueL K C_Module C_Late) := ⟨_, _, ok_l_due F_l_due T D_l_fault, m_l_due, k_l_due, b_l_due⟩
  have D_l_said : DnF l.prog w K mg base 7 "_law_said" ["_law_late", "_law_handed_here"] (spSaid K C_Module C_Late) := ⟨_, _, ok_l_said F_l_said T D_asked, m_l_said, k_l_said, b_l_said⟩
  have D_l_functions : DnF l.prog w K mg base 3 "_law_functions" ["_law_pot_here", "_law_facts_here", "_law_names_here", "_law_modules", "_law_models"] (spFunctions C_Module C_Late) := ⟨_, _, ok_l_functions F_l_functions T D_l_draw D_l_road D_Late_init D_Module_bind, m_l_functions, k_l_functions, b_l_functions⟩
  have D_l_taken : DnF l.prog w K mg base 2 "_law_taken" ["_law_pot_here", "_law_functions_here", "_law_modules", "_law_models"] (spTaken C_Module C_Late) := ⟨_, _, ok_l_taken F_l_taken T D_l_draw D_Module_thing_of, m_l_taken, k_l_taken, b_l_taken⟩
  have D_l_right : DnG l.prog w K mg base 8 "_law_right" ["_law_facts_here", "_law_models", "_law_modules", "_law_function", "_law_chain_here"] (spRight K C_Module C_Late) := ⟨_, _, ok_l_right F_l_right T D_l_handed D_l_due D_told D_l_agrees D_l_said, m_l_right, k_l_right, b_l_right⟩
  exact ok_law F_law T D_l_pot D_l_facts D_l_draw D_l_names D_l_web D_l_functions D_l_taken D_l_chain D_l_right D_l_bound D_l_kind D_Module_init
end K24
open PySem PySem.W PyProof.Rows in
set_option maxRecDepth 100000 in
set_option maxHeartbeats 0 in
theorem PySem.Challenge.cw_halfmade_k24_whole_asked_late_holds : PySem.Challenge.rw_halfmade_k24_whole_asked_late.Holds := by
  w_on; o_law; k_head; (case hw => w_witness2)
  k_fill
  refine HL.walk_ofG (l := PySem.Challenge.rw_halfmade_k24_whole_asked_late) (n := 63) (k := 9) (x := "_law_script") (sp := fun w => K24.spLaw _) rfl (by decide) rfl ⟨rfl, by decide, by decide⟩ (fun w h Y => PySem.W.kIn_of Y) ?F (fun _ _ a ns hl _ hS => ⟨a, ns, rfl, hS, hl, fun _ => rfl⟩)
  case F =>
    intro w mg fa h KX G hmg
    refine' K24.all_mk KX G hmg ?aC_MadeError ?tg_MadeError ?tr_MadeError ?tv_MadeError ?aC_Fault ?xL_Fault ?sa_Fault ?ga_Fault ?gg_Fault ?nb_Fault_fault ?kc_Fault ?eC_Fault ?tC_Fault ?hC_Fault ?iC_Fault ?sC_Fault ?aC_Module ?pg_Module ?hd_Module ?po_Module ?sa_Module ?mk_Module ?kc_Module ?nA_Module_number ?nA_Module_path ?nA_Module_things ?ic_Module ?im_Module ?aC_Late ?pg_Late ?hd_Late ?po_Late ?sa_Late ?mk_Late ?kc_Late ?nA_Late_home ?nA_Late_road ?ic_Late ?im_Late ?eo_Module ?ee_Module ?gn ?gt ?cx_Module ?ct_Module ?ss_Module ?cx_Late ?ct_Late ?ss_Late ?sb_Module_Late ?sb_Late_Module ?a_Fault_init ?l_Fault_init ?c_Fault_init ?k_Fault_init ?i_Fault_init ?a_Module_init ?l_Module_init ?c_Module_init ?k_Module_init ?i_Module_init ?a_Module_bind ?l_Module_bind ?c_Module_bind ?k_Module_bind ?i_Module_bind ?a_Module_has ?l_Module_has ?c_Module_has ?k_Module_has ?i_Module_has ?a_Module_thing_of ?l_Module_thing_of ?c_Module_thing_of ?k_Module_thing_of ?i_Module_thing_of ?a_Module_bound ?l_Module_bound ?c_Module_bound ?k_Module_bound ?i_Module_bound ?a_Late_init ?l_Late_init ?c_Late_init ?k_Late_init ?i_Late_init ?a_told ?l_told ?c_told ?k_told ?a_ring_from ?l_ring_from ?c_ring_from ?k_ring_from ?a_look ?l_look ?c_look ?k_look ?a_place_of ?l_place_of ?c_place_of ?k_place_of ?a_follow ?l_follow ?c_follow ?k_follow ?a_asked ?l_asked ?c_asked ?k_asked ?a_l_at ?l_l_at ?c_l_at ?k_l_at ?a_l_pot ?l_l_pot ?c_l_pot ?k_l_pot ?a_l_draw ?l_l_draw ?c_l_draw ?k_l_draw ?a_l_name ?l_l_name ?c_l_name ?k_l_name ?a_l_names ?l_l_names ?c_l_names ?k_l_names ?a_l_number ?l_l_number ?c_l_number ?k_l_number ?a_l_road ?l_l_road ?c_l_road ?k_l_road ?a_l_facts ?l_l_facts ?c_l_facts ?k_l_facts ?a_l_kind ?l_l_kind ?c_l_kind ?k_l_kind ?a_l_bound ?l_l_bound ?c_l_bound ?k_l_bound ?a_l_web ?l_l_web ?c_l_web ?k_l_web ?a_l_told ?l_l_told ?c_l_told ?k_l_told ?a_l_chain ?l_l_chain ?c_l_chain ?k_l_chain ?a_l_fault ?l_l_fault ?c_l_fault ?k_l_fault ?a_l_handed ?l_l_handed ?c_l_handed ?k_l_handed ?a_l_is_the ?l_l_is_the ?c_l_is_the ?k_l_is_the ?a_l_agrees ?l_l_agrees ?c_l_agrees ?k_l_agrees ?a_l_due ?l_l_due ?c_l_due ?k_l_due ?a_l_said ?l_l_said ?c_l_said ?k_l_said ?a_l_functions ?l_l_functions ?c_l_functions ?k_l_functions ?a_l_taken ?l_l_taken ?c_l_taken ?k_l_taken ?a_l_right ?l_l_right ?c_l_right ?k_l_right ?a_law ?l_law ?c_law ?k_law ?z_sorted ?z_isinstance ?z_tuple ?z_len ?z_max ?z_divmod ?z_range ?z_list ?z_repr ?z_min
    (case aC_MadeError => k_is)
    (case tg_MadeError => k_is)
    (case tr_MadeError => k_is)
    (case tv_MadeError => k_is)
    (case aC_Fault => k_is)
    (case xL_Fault => k_is)
    (case sa_Fault => k_is)
    (case ga_Fault => k_is)
    (case gg_Fault => k_is)
    (case nb_Fault_fault => k_is)
    (case kc_Fault => k_is)
    (case eC_Fault => k_is)
    (case tC_Fault => k_is)
    (case hC_Fault => k_is)
    (case iC_Fault => k_is)
    (case sC_Fault => first | rfl | k_is)
    (case aC_Module => k_is)
    (case pg_Module => k_is)
    (case hd_Module => k_is)
    (case po_Module => k_is)
    (case sa_Module => k_is)
    (case mk_Module => k_is)
    (case kc_Module => k_is)
    (case nA_Module_number => k_is)
    (case nA_Module_path => k_is)
    (case nA_Module_things => k_is)
    (case ic_Module => k_is)
    (case im_Module => k_is)
    (case aC_Late => k_is)
    (case pg_Late => k_is)
    (case hd_Late => k_is)
    (case po_Late => k_is)
    (case sa_Late => k_is)
    (case mk_Late => k_is)
    (case kc_Late => k_is)
    (case nA_Late_home => k_is)
    (case nA_Late_road => k_is)
    (case ic_Late => k_is)
    (case im_Late => k_is)
    (case eo_Module => k_is)
    (case ee_Module => k_is)
    (case gn => k_is)
    (case gt => k_is)
    (case cx_Module => k_is)
    (case ct_Module => k_is)
    (case ss_Module => k_is)
    (case cx_Late => k_is)
    (case ct_Late => k_is)
    (case ss_Late => k_is)
    (case sb_Module_Late => k_is)
    (case sb_Late_Module => k_is)
    (case a_Fault_init => k_is)
    (case l_Fault_init => k_is)
    (case c_Fault_init => k_is)
    (case k_Fault_init => k_is)
    (case i_Fault_init => k_is)
    (case a_Module_init => k_is)
    (case l_Module_init => k_is)
    (case c_Module_init => k_is)
    (case k_Module_init => k_is)
    (case i_Module_init => k_is)
    (case a_Module_bind => k_is)
    (case l_Module_bind => k_is)
    (case c_Module_bind => k_is)
    (case k_Module_bind => k_is)
    (case i_Module_bind => k_is)
    (case a_Module_has => k_is)
    (case l_Module_has => k_is)
    (case c_Module_has => k_is)
    (case k_Module_has => k_is)
    (case i_Module_has => k_is)
    (case a_Module_thing_of => k_is)
    (case l_Module_thing_of => k_is)
    (case c_Module_thing_of => k_is)
    (case k_Module_thing_of => k_is)
    (case i_Module_thing_of => k_is)
    (case a_Module_bound => k_is)
    (case l_Module_bound => k_is)
    (case c_Module_bound => k_is)
    (case k_Module_bound => k_is)
    (case i_Module_bound => k_is)
    (case a_Late_init => k_is)
    (case l_Late_init => k_is)
    (case c_Late_init => k_is)
    (case k_Late_init => k_is)
    (case i_Late_init => k_is)
    (case a_told => k_is)
    (case l_told => k_is)
    (case c_told => k_is)
    (case k_told => k_is)
    (case a_ring_from => k_is)
    (case l_ring_from => k_is)
    (case c_ring_from => k_is)
    (case k_ring_from => k_is)
    (case a_look => k_is)
    (case l_look => k_is)
    (case c_look => k_is)
    (case k_look => k_is)
    (case a_place_of => k_is)
    (case l_place_of => k_is)
    (case c_place_of => k_is)
    (case k_place_of => k_is)
    (case a_follow => k_is)
    (case l_follow => k_is)
    (case c_follow => k_is)
    (case k_follow => k_is)
    (case a_asked => k_is)
    (case l_asked => k_is)
    (case c_asked => k_is)
    (case k_asked => k_is)
    (case a_l_at => k_is)
    (case l_l_at => k_is)
    (case c_l_at => k_is)
    (case k_l_at => k_is)
    (case a_l_pot => k_is)
    (case l_l_pot => k_is)
    (case c_l_pot => k_is)
    (case k_l_pot => k_is)
    (case a_l_draw => k_is)
    (case l_l_draw => k_is)
    (case c_l_draw => k_is)
    (case k_l_draw => k_is)
    (case a_l_name => k_is)
    (case l_l_name => k_is)
    (case c_l_name => k_is)
    (case k_l_name => k_is)
    (case a_l_names => k_is)
    (case l_l_names => k_is)
    (case c_l_names => k_is)
    (case k_l_names => k_is)
    (case a_l_number => k_is)
    (case l_l_number => k_is)
    (case c_l_number => k_is)
    (case k_l_number => k_is)
    (case a_l_road => k_is)
    (case l_l_road => k_is)
    (case c_l_road => k_is)
    (case k_l_road => k_is)
    (case a_l_facts => k_is)
    (case l_l_facts => k_is)
    (case c_l_facts => k_is)
    (case k_l_facts => k_is)
    (case a_l_kind => k_is)
    (case l_l_kind => k_is)
    (case c_l_kind => k_is)
    (case k_l_kind => k_is)
    (case a_l_bound => k_is)
    (case l_l_bound => k_is)
    (case c_l_bound => k_is)
    (case k_l_bound => k_is)
    (case a_l_web => k_is)
    (case l_l_web => k_is)
    (case c_l_web => k_is)
    (case k_l_web => k_is)
    (case a_l_told => k_is)
    (case l_l_told => k_is)
    (case c_l_told => k_is)
    (case k_l_told => k_is)
    (case a_l_chain => k_is)
    (case l_l_chain => k_is)
    (case c_l_chain => k_is)
    (case k_l_chain => k_is)
    (case a_l_fault => k_is)
    (case l_l_fault => k_is)
    (case c_l_fault => k_is)
    (case k_l_fault => k_is)
    (case a_l_handed => k_is)
    (case l_l_handed => k_is)
    (case c_l_handed => k_is)
    (case k_l_handed => k_is)
    (case a_l_is_the => k_is)
    (case l_l_is_the => k_is)
    (case c_l_is_the => k_is)
    (case k_l_is_the => k_is)
    (case a_l_agrees => k_is)
    (case l_l_agrees => k_is)
    (case c_l_agrees => k_is)
    (case k_l_agrees => k_is)
    (case a_l_due => k_is)
    (case l_l_due => k_is)
    (case c_l_due => k_is)
    (case k_l_due => k_is)
    (case a_l_said => k_is)
    (case l_l_said => k_is)
    (case c_l_said => k_is)
    (case k_l_said => k_is)
    (case a_l_functions => k_is)
    (case l_l_functions => k_is)
    (case c_l_functions => k_is)
    (case k_l_functions => k_is)
    (case a_l_taken => k_is)
    (case l_l_taken => k_is)
    (case c_l_taken => k_is)
    (case k_l_taken => k_is)
    (case a_l_right => k_is)
    (case l_l_right => k_is)
    (case c_l_right => k_is)
    (case k_l_right => k_is)
    (case a_law => k_is)
    (case l_law => k_is)
    (case c_law => k_is)
    (case k_law => k_is)
    (case z_sorted => k_is)
    (case z_isinstance => k_is)
    (case z_tuple => k_is)
    (case z_len => k_is)
    (case z_max => k_is)
    (case z_divmod => k_is)
    (case z_range => k_is)
    (case z_list => k_is)
    (case z_repr => k_is)
    (case z_min => k_is)

