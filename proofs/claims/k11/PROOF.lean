import PyProof.Rows.All
import Wide.All
import OpenK.AllK
import Wide.FinOn
import PyProof.ReprNest
import HandS.ForMost
import HandS.IsInst
import HandS.Style
import HandS.Walk
import PySem.Challenge.RW_halfmade_k11_names_and_paths
set_option Elab.async false
set_option linter.all false
set_option maxRecDepth 100000
set_option maxHeartbeats 4000000
/-! HLa: promises of defs that are called where no repr is under way (guards known), and repr of plain data. -/
namespace HL
open PySem PySem.Spec PyProof.Rows L2

/-- a def that keeps its promise where no built-in of the guarded kind is under way -/
structure FnG (P : Program) (w : World) (K : PySem.W.Frag) (mg : Str → Option Value) (base : Heap)
    (k : Nat) (f : Addr) (fd : FuncData) (ps : List Str) (sp : Sp) : Prop where
  len : ∀ vs H Q E, sp vs H Q E → vs.length = ps.length
  run : ∀ (A : Around) (outer : List Env) (s : Shared) (H : Hp) (args : Args) (us : List Value) (vs : List V)
    (Q : VK) (E : XK), A.guards = some [] → Room k A → Env0 P w K mg base A outer s H →
    BindsTo s fd args (ps.zip us) → Vals vs us → sp vs H Q E →
    codeAny (model P w) A (.call (.ref f) args) (CR CX0 outer P w H s Q E) s

theorem FnG.ofOk {P : Program} {w : World} {K : PySem.W.Frag} {mg : Str → Option Value} {base : Heap}
    {k : Nat} {f : Addr} {fd : FuncData} {ps : List Str} {sp : Sp}
    (F : FnOk P w K mg base CX0 k f fd ps sp) : FnG P w K mg base k f fd ps sp :=
  ⟨F.len, fun A outer s H args us vs Q E _ => F.run A outer s H args us vs Q E⟩
theorem FnG.mono {P : Program} {w : World} {K : PySem.W.Frag} {mg : Str → Option Value} {base : Heap}
    {j k : Nat} {f : Addr} {fd : FuncData} {ps : List Str} {sp : Sp}
    (F : FnG P w K mg base j f fd ps sp) (h : j ≤ k) : FnG P w K mg base k f fd ps sp :=
  ⟨F.len, fun A outer s H args us vs Q E g hr => F.run A outer s H args us vs Q E g (hr.mono h)⟩

theorem guards_deeper {A : Around} (env : Env) (h : A.guards = some []) : (A.deeper env).guards = some [] := h

/-- what a body's end says of the call's end -/
theorem bodyEnd {X : Cx} {ps : List (Addr × Obj)} {outer : List Env} {P : Program} {w : World} {H H' : Hp} {s s' : Shared} {σ' : L2.St}
    {Q : VK} {v : V} {u : Value} (J : Inv X ps σ' H' s') (rv : RelV v u) (q : Q v H')
    (hX : Inv X ps σ' H' s' → s'.os = s.os ∧ AllBare s'.gens ∧ Un (frs outer) [] H H' s.heap s'.heap ∧ HOk P w H' s'.heap) :
    CE outer P w H s Q u s' :=
  ⟨v, H', (hX J).1, (hX J).2.1, (hX J).2.2.1, (hX J).2.2.2, rv, q⟩
/-- a def, by its body: as Fun.ok, with the guards handed on -/
theorem fnG_of {P : Program} {w : World} {K : PySem.W.Frag} {mg : Str → Option Value} {base : Heap}
    {x qual : Str} {st : Stmt} {f : Addr} {fd : FuncData} {N ps : List Str} {k : Nat} {sp : Sp}
    (F : Fun K x qual st f fd) (S : FnScope N ps (defScope st))
    (len : ∀ vs H Q E, sp vs H Q E → vs.length = ps.length)
    (hbody : ∀ (cdv : Value) (A : Around) (outer : List Env) (s : Shared) (H : Hp) (vs : List V) (Q : VK) (E : XK),
      (A.deeper (envOfC qual (defScope st) s.heap.objs.size f cdv)).guards = some [] →
      Room k (A.deeper (envOfC qual (defScope st) s.heap.objs.size f cdv)) → sp vs H Q E →
      ∃ t, PSs (cxOf CX0 P w K mg base N qual (defScope st) f cdv A outer s H E).nox (defBody st) t ∧
        t { nx := fun _ H' => Q .non H', rt := Q } (start N vs) H) :
    FnG P w K mg base (k + 1) f fd ps sp where
  len := len
  run := by
    intro A outer s H args us vs Q E known room ent bnd rel prm
    rcases F.ex with ⟨_, _, _, _, _, _, cdv, _, _, e, at_, code⟩
    subst e
    have old := ent.mod.kin.keeps fun b o z => (ent.bs b o z).1
    have free := ent.mod.nolimit.keeps fun b o z => (ent.bs b o z).1
    have fits : vs.length = ps.length := len _ _ _ _ prm
    have places : ∀ y ∈ ps.zip us, (defScope st).names.lookup y.1 = some .local ∨
        ((defScope st).names.lookup y.1 = some .cell ∧
          ((cellsFrom (s.heap.objs.size + 1) (defScope st).names []).lookup y.1).isSome = true) := by
      rintro ⟨n, v⟩ hy
      exact (S.par n (List.of_mem_zip hy).1).imp id fun c => ⟨c, PySem.W.cellsFrom_some _ _ _ (Or.inl c)⟩
    apply codeAny_call_function room.depth (old _ _ at_) rfl S.co S.gen rfl (PySem.W.codeRec_of old code)
    apply bnd
    apply wpAny_newFunctionEnv_cells S.kind places
    rintro env rfl s1 made
    refine ⟨free.keeps made.toInCall.keep, codeAny_func ?_⟩
    rcases hbody cdv A outer s H vs Q E (guards_deeper _ known) (room.deeper _) prm with ⟨t, ht, hq⟩
    have I : Inv (cxOf CX0 P w K mg base N qual (defScope st) f cdv A outer s H E) [] (start N vs) H s1 :=
      inv_start S room.hd ent fits rel made
    apply wpAny_mono (ht.nox.run [] s1 (start N vs) H _ I hq) _ fun _ _ z => z
    intro fl s' hs
    match fl, hs with
    | .ret u, ⟨v, σ', H', J, rv, q⟩ => exact bodyEnd J rv q fun J => ⟨J.os, J.bare, J.base, J.hok⟩
    | .next, ⟨σ', H', J, q⟩ => exact bodyEnd (v := V.non) J rfl q fun J => ⟨J.os, J.bare, J.base, J.hok⟩
    | .brk, ⟨_, _, _, q⟩ => exact q.elim
    | .cont, ⟨_, _, _, q⟩ => exact q.elim

/-- a call by name of such a def -/
theorem pe_callG {X : Cx} {k : Nat} {f : Addr} {fd : FuncData} {ps : List Str} {sp : Sp} {dvs : List V} {ds : List Value}
    {x : Str} {p pos : Pos} {e : Expr} {es : List Expr} {t : TA}
    (F : FnG X.prog X.w X.K X.mg X.base k f fd ps sp) (known : X.A.guards = some []) (room : Room k X.A)
    (hg : Gl X x) (hm : X.mg x = some (.ref f)) (hk : PySem.W.keepIn X.K (.ref f) = true)
    (hb : Binds X.K fd ps ds) (hd : Vals dvs ds) (ha : PA X (e :: es) t)
    (hdb : (x == ("__debug__" : Str)) = false := by decide)
    (he : starEach (e :: es) X.env = (false, eval e X.env) :: starEach es X.env := by rfl)
    (hpl : (backTo pos (starEach es X.env)).any (·.1) = false := by rfl) :
    PE X (.Call (.Name x p) (e :: es) [] pos) (tCall sp dvs E0 t) where
  run := by
    intro pins s σ H Q I h
    apply wpAny_Call_Name_kw (ld_glob I hg hm ?_ hdb)
    apply PySem.W.callWith_K (h₀ := X.base) I.ok.mod.kin hk ?_ he hpl
    refine thn (ha.run pos pins s σ H _ I h) ?_
    rintro us s1 ⟨vs, H1, J, r, q⟩
    have both : Vals (vs ++ dvs) (us ++ ds) := r.append hd
    have many : (us ++ ds).length = ps.length := both.length ▸ F.len _ _ _ _ q
    refine ⟨J.kIn, wpAny_call (codeAny_mono (F.run X.A X.stack s1 H1 ⟨us, []⟩ _ _ Q E0 known room J.env0 (hb s1 us J.kIn many) both q) ?_)⟩
    intro res s' hq
    match res, hq with
    | .error _, z => exact z.elim
    | .ok (.ret _), z => exact J.after z
    | .ok .next, z => exact z.elim
    | .ok .brk, z => exact z.elim
    | .ok .cont, z => exact z.elim

/-! ### repr of plain data -/
section
variable {X : Cx}
def rReprD (K : PySem.W.Frag) : List V → Hp → VK → Prop := fun xs H Q =>
  ∃ (x : V) (d : PyData), xs = [x] ∧ Dp K H x d ∧ isDisplay d = true ∧ d.showable = true ∧ d.hasDict = false ∧
    d.depth ≤ 60 ∧ d.shown.length ≤ sizeLine ∧ Q (.str d.shown) H
theorem call_reprD (hg : X.A.guards = some []) (hu : X.A.units + 64 < cLine) : CallR X (.builtin "repr") (rReprD X.K) := by
  intro pins s σ H xs us Q I r h
  obtain ⟨x, d, rfl, hd, h1, h2, h3, h4, h5, q⟩ := h
  cases r with
  | cons rx rn =>
    cases rn
    rename_i u
    obtain ⟨as, rd⟩ := Dp.reads I d x u hd rx
    obtain ⟨a, rfl⟩ := isRef_of_reads rd h1
    refine repr_of_reads' rd h2 (PyData.noDict_hsm h3) hg (by omega) (fun _ _ e => e) (fun h' u tk hk => ?_) h5
    exact ⟨.str d.shown, H, I.kept hk, ⟨u, rfl⟩, q⟩
end
end HL

/-! HLb: what stays (Kp), readings step by step. -/
namespace HL
open PySem PySem.Spec PyProof.Rows L2

def Nin (q : Addr) : List Addr → Prop
  | [] => True
  | x :: r => q ≠ x ∧ Nin q r
/-- all that was tracked stands, but what is in W -/
def Kp (W : List Addr) (H H' : Hp) : Prop := ∀ q o, Nin q W → H q = some o → H' q = some o
theorem Kp.refl {W : List Addr} {H : Hp} : Kp W H H := fun _ _ _ h => h
theorem Kp.get {W : List Addr} {H H' : Hp} {q : Addr} {o : HO} (k : Kp W H H') (n : Nin q W) (h : H q = some o) : H' q = some o := k q o n h
theorem Nin.of_mem {q x : Addr} : ∀ {W : List Addr}, Nin q W → x ∈ W → q ≠ x
  | [], _, h => nomatch h
  | y :: r, ⟨a, b⟩, h => by
    rcases List.mem_cons.mp h with rfl | h
    · exact a
    · exact Nin.of_mem b h
theorem Nin.intro {q : Addr} : ∀ {W : List Addr}, (∀ x ∈ W, q ≠ x) → Nin q W
  | [], _ => trivial
  | y :: r, h => ⟨h y List.mem_cons_self, Nin.intro fun x hx => h x (List.mem_cons_of_mem _ hx)⟩
theorem Kp.upd_mem {W : List Addr} {H H' : Hp} {a : Addr} {o : HO} (k : Kp W H H') (m : a ∈ W) : Kp W H (upd H' a o) := fun q u n h => by
  rw [upd_ne (n.of_mem m)]
  exact k q u n h
theorem Kp.upd_new {W : List Addr} {H H' : Hp} {a : Addr} {o : HO} (k : Kp W H H') (m : H' a = none) : Kp W H (upd H' a o) := fun q u n h => by
  have e := k q u n h
  rw [upd_ne (ne_of_none e m)]
  exact e
theorem Kp.upd_loc {W : List Addr} {H H' : Hp} {a : Addr} {o : HO} (k : Kp W H H') (m : H a = none) : Kp W H (upd H' a o) := fun q u n h => by
  rw [upd_ne (ne_of_none h m)]
  exact k q u n h
/-- a step that changes what is in W, or what was not there ahead -/
theorem Kp.step {W W' : List Addr} {H H1 H2 : Hp} (k : Kp W H H1) (l : Kp W' H1 H2) (m : ∀ x ∈ W', x ∈ W ∨ H x = none) : Kp W H H2 := fun q u n h =>
  l q u (Nin.intro fun x hx => (m x hx).elim (fun z => n.of_mem z) fun z => ne_of_none h z) (k q u n h)
theorem Kp.free {W : List Addr} {H H' : Hp} {a : Addr} (k : Kp W H H') (n : Nin a W) (h : H' a = none) : H a = none := by
  cases e : H a with
  | none => rfl
  | some o =>
    rw [k a o n e] at h
    cases h
theorem Kp.same {H H' : Hp} (k : Kp [] H H') : Same H H' := fun b o h => k b o trivial h
theorem Kp.of_same {W : List Addr} {H H' : Hp} (k : Same H H') : Kp W H H' := fun b o _ h => k b o h
theorem Kp.weak {W W' : List Addr} {H H' : Hp} (k : Kp W H H') (m : ∀ x ∈ W, x ∈ W') : Kp W' H H' := fun q o n h => k q o (Nin.intro fun x hx => n.of_mem (m x hx)) h

/-! ### steps of readings -/
section
variable {σ : L2.St} {H : Hp} {Q : VK} {ta tb te : TE} {tt tu : TT} {i : Nat} {v x y : V} {K : PySem.W.Frag} {D : Ends} {t u : TS}
theorem s_var (h : σ[i]? = some (some v)) (q : Q v H) : tVar i σ H Q := ⟨v, h, q⟩
theorem s_c (q : Q v H) : tC v σ H Q := q
theorem s_op {r : R2} (h : ta σ H fun x H1 => tb σ H1 fun y H2 => r x y H2 Q) : tOp r ta tb σ H Q := h
theorem s_un {r : V → Hp → VK → Prop} (h : ta σ H fun x H1 => r x H1 Q) : tUn r ta σ H Q := h
theorem s_nil {Q : List V → Hp → Prop} (q : Q [] H) : tNil σ H Q := q
theorem s_cons {tr : TA} {Q : List V → Hp → Prop} (h : ta σ H fun x H1 => tr σ H1 fun xs H2 => Q (x :: xs) H2) : tCons ta tr σ H Q := h
theorem s_cb {r : List V → Hp → VK → Prop} {tl : TA} (h : tl σ H fun vs H1 => r vs H1 Q) : tCB r tl σ H Q := h
theorem s_call {sp : Sp} {dvs : List V} {E : XK} {tl : TA} (h : tl σ H fun vs H1 => sp (vs ++ dvs) H1 Q E) : tCall sp dvs E tl σ H Q := h
theorem s_test {Q : Bool → Hp → Prop} (h : te σ H fun x H1 => ∃ k, x = .bl k ∧ Q k H1) : tTest te σ H Q := h
theorem s_B {Q : Bool → Hp → Prop} (h : te σ H fun x H1 => ∃ k, x = .bl k ∧ Q k H1) : tB te σ H Q := h
theorem s_bl {R : Bool → Prop} {k : Bool} (q : R k) : ∃ k', V.bl k = .bl k' ∧ R k' := ⟨k, rfl, q⟩
theorem s_and {Q : Bool → Hp → Prop} (h : tt σ H fun c H1 => if c = true then tu σ H1 Q else Q false H1) : tAnd tt tu σ H Q := h
theorem s_or {Q : Bool → Hp → Prop} (h : tt σ H fun c H1 => if c = true then Q true H1 else tu σ H1 Q) : tOr tt tu σ H Q := h
theorem s_not {Q : Bool → Hp → Prop} (h : tt σ H fun c H1 => Q (!c) H1) : tNot tt σ H Q := h
theorem s_andV (h : ta σ H fun x H1 => ∃ c, x = .bl c ∧ if c = true then tb σ H1 Q else Q (.bl false) H1) : tAndV ta tb σ H Q := h
theorem s_orV (h : ta σ H fun x H1 => ∃ c, x = .bl c ∧ if c = true then Q (.bl true) H1 else tb σ H1 Q) : tOrV ta tb σ H Q := h
theorem s_notV (h : ta σ H fun x H1 => ∃ c, x = .bl c ∧ Q (.bl (!c)) H1) : tNotV ta σ H Q := h
theorem s_ifE (h : tt σ H fun c H1 => if c = true then ta σ H1 Q else tb σ H1 Q) : tIf tt ta tb σ H Q := h
theorem s_chain {r r' : R2} {tc : TE} (h : ta σ H fun x H1 => tb σ H1 fun y H2 => r x y H2 fun z H3 => ∃ k, z = .bl k ∧ (if k = true then tc σ H3 fun w' H4 => r' y w' H4 Q else Q (.bl false) H3)) : tChain r r' ta tb tc σ H Q := h
theorem s_tup {tl : TA} (h : tl σ H fun xs H1 => xs.length ≤ sizeLine ∧ ∀ p, H1 p = none → Q (.ref p) (upd H1 p (.tup xs))) : tTup tl σ H Q := h
theorem s_lst {tl : TA} (h : tl σ H fun xs H1 => xs.length ≤ sizeLine ∧ ∀ p, H1 p = none → Q (.ref p) (upd H1 p (.lst xs))) : tLst tl σ H Q := h
theorem s_sl {r : V → Option Int → Option Int → Hp → VK → Prop} {tl th : TO} (h : te σ H fun x H1 => tl σ H1 fun l H2 => th σ H2 fun u H3 => r x l u H3 Q) : tSl r te tl th σ H Q := h
theorem s_noPart {Q : Option Int → Hp → Prop} (q : Q none H) : tNoPart σ H Q := q
theorem s_part {Q : Option Int → Hp → Prop} (h : te σ H fun x H1 => ∃ i, x = .int i ∧ Q (some i) H1) : tPart te σ H Q := h
theorem s_int {R : Int → Prop} {k : Int} (q : R k) : ∃ i, V.int k = .int i ∧ R i := ⟨k, rfl, q⟩
theorem s_ints2 {R : Int → Int → Prop} {a b : Int} (q : R a b) : ∃ i j, [V.int a, V.int b] = [V.int i, V.int j] ∧ R i j := ⟨a, b, rfl, q⟩
theorem s_ints1 {R : Int → Prop} {a : Int} (q : R a) : ∃ i, [V.int a] = [V.int i] ∧ R i := ⟨a, rfl, q⟩
theorem s_strs1 {R : Str → Prop} {a : Str} (q : R a) : ∃ i, [V.str a] = [V.str i] ∧ R i := ⟨a, rfl, q⟩
theorem s_vals2 {R : V → V → Prop} {a b : V} (q : R a b) : ∃ i j, [a, b] = [i, j] ∧ R i j := ⟨a, b, rfl, q⟩
theorem s_vals3 {R : V → V → V → Prop} {a b c : V} (q : R a b c) : ∃ i j k, [a, b, c] = [i, j, k] ∧ R i j k := ⟨a, b, c, rfl, q⟩
theorem s_fld {f : Str} (h : ta σ H fun x H1 => ∃ a C dx fs v, x = .ref a ∧ H1 a = some (.ins C dx fs) ∧ Cls K C ∧ NoAttr K C f ∧ fs.lookup f = some v ∧ Q v H1) : tFld K ta f σ H Q := h
theorem s_bm {T : String} {r : V → List V → Hp → VK → Prop} {tl : TA} (h : ta σ H fun x H1 => tyV K T x H1 ∧ tl σ H1 fun xs H2 => r x xs H2 Q) : tBM K T r ta tl σ H Q := h
theorem s_bm0 {T : String} {r : V → List V → Hp → VK → Prop} (h : ta σ H fun x H1 => tyV K T x H1 ∧ r x [] H1 Q) : tBM0 K T r ta σ H Q := h
theorem s_m1 {r : V → List V → Hp → VK → Prop} (h : ta σ H fun x H1 => (∃ a, x = .str a) ∧ te σ H1 fun y H2 => r x [y] H2 Q) : tM1 r ta te σ H Q := h
theorem s_m0 {r : V → List V → Hp → VK → Prop} (h : ta σ H fun x H1 => (∃ a, x = .str a) ∧ r x [] H1 Q) : tM0 r ta σ H Q := h
theorem s_ex {a : Str} {P : Prop} (h : P) : (∃ b, V.str a = .str b) ∧ P := ⟨⟨a, rfl⟩, h⟩
/-! statements -/
theorem s_seq (h : t { D with nx := u D } σ H) : tSeq t u D σ H := h
theorem s_next (h : D.nx σ H) : tNext D σ H := h
theorem s_asg {g : TG} (h : te σ H fun x H1 => g x σ H1 D.nx) : tAsg te g D σ H := h
theorem s_gname {Q : L2.St → Hp → Prop} (q : Q (σ.set i (some v)) H) : gName i v σ H Q := q
theorem s_drop (h : te σ H fun _ H1 => D.nx σ H1) : tDrop te D σ H := h
theorem s_ret (h : te σ H D.rt) : tRet te D σ H := h
theorem s_retN (h : D.rt .non H) : tRetN D σ H := h
theorem s_ifS (h : tt σ H fun b H1 => if b = true then t D σ H1 else u D σ H1) : tIfS tt t u D σ H := h
theorem s_gsub {to ti : TE} {ts : TSet} {Q : L2.St → Hp → Prop} (h : to σ H fun o H1 => ti σ H1 fun i H2 => ts o i v H2 fun H3 => Q σ H3) : gSub to ti ts v σ H Q := h
theorem s_gtup {n : Nat} {g : TGs} {a : Addr} {xs : List V} {Q : L2.St → Hp → Prop} (h : SqT K H a xs) (l : xs.length = n) (q : g xs σ H Q) : gTup K n g (.ref a) σ H Q := ⟨a, xs, rfl, h, l, q⟩
theorem s_gcons {g : TG} {u : TGs} {r : List V} {Q : L2.St → Hp → Prop} (q : g v σ H fun σ' H' => u r σ' H' Q) : gCons g u (v :: r) σ H Q := ⟨v, r, rfl, q⟩
theorem s_gnil {Q : L2.St → Hp → Prop} (q : Q σ H) : gNil [] σ H Q := ⟨rfl, q⟩
theorem s_par3 {i j l : Nat} {tl : TA} (h : tl σ H fun vs H1 => ∃ u v w, vs = [u, v, w] ∧ D.nx (((σ.set i (some u)).set j (some v)).set l (some w)) H1) : tPar3 i j l tl D σ H := h
theorem s_par {i j : Nat} {tl : TA} (h : tl σ H fun vs H1 => ∃ v w, vs = [v, w] ∧ D.nx ((σ.set i (some v)).set j (some w)) H1) : tPar i j tl D σ H := h
/-! operators -/
theorem s_I0 {g : Int → Int → V} {a b : Int} (q : Q (g a b) H) : rI0 g (.int a) (.int b) H Q := ⟨a, b, rfl, rfl, q⟩
theorem s_I {C : Int → Int → Prop} {g : Int → Int → V} {a b : Int} (c : C a b) (q : Q (g a b) H) : rI C g (.int a) (.int b) H Q := ⟨a, b, rfl, rfl, c, q⟩
theorem s_eq (h : scal x y = true) (q : Q (.bl (decide (x = y))) H) : rEq x y H Q := ⟨h, q⟩
theorem s_ne (h : scal x y = true) (q : Q (.bl (!decide (x = y))) H) : rNe x y H Q := ⟨h, q⟩
theorem s_ixL {p : Addr} {xs : List V} {k : Int} (h : SqL K H p xs) (a : atI xs k = some v) (q : Q v H) : rIxL K (.ref p) (.int k) H Q := ⟨p, xs, k, v, rfl, rfl, h, a, q⟩
theorem s_ixT {p : Addr} {xs : List V} {k : Int} (h : SqT K H p xs) (a : atI xs k = some v) (q : Q v H) : rIxT K (.ref p) (.int k) H Q := ⟨p, xs, k, v, rfl, rfl, h, a, q⟩
theorem s_setL {p : Addr} {xs : List V} {k : Int} {j : Nat} {Q : Hp → Prop} (h : H p = some (.lst xs)) (a : ixN xs.length k = some j) (q : Q (upd H p (.lst (xs.set j v)))) : rSetL (.ref p) (.int k) v H Q := ⟨p, xs, k, j, rfl, rfl, h, a, q⟩
theorem s_append {p : Addr} {xs : List V} (h : H p = some (.lst xs)) (l : xs.length < sizeLine) (q : Q .non (upd H p (.lst (xs ++ [v])))) : rAppend (.ref p) [v] H Q := ⟨p, xs, v, rfl, rfl, h, l, q⟩
/-! what a test decides -/
theorem s_dec {c A B : Prop} [Decidable c] (h1 : c → A) (h2 : ¬ c → B) : if decide c = true then A else B := by
  by_cases h : c
  · rw [if_pos (decide_eq_true h)]; exact h1 h
  · rw [if_neg (by simpa using h)]; exact h2 h
theorem s_ndec {c A B : Prop} [Decidable c] (h1 : ¬ c → A) (h2 : c → B) : if (!decide c) = true then A else B := by
  by_cases h : c
  · rw [if_neg (by simpa using h)]; exact h2 h
  · rw [if_pos (by simpa using h)]; exact h1 h
theorem s_bool {c : Bool} {A B : Prop} (h1 : c = true → A) (h2 : c = false → B) : if c = true then A else B := by
  cases c with
  | true => rw [if_pos rfl]; exact h1 rfl
  | false => rw [if_neg Bool.false_ne_true]; exact h2 rfl
end
theorem st_start {t : TS} {D : Ends} {σ σ' : L2.St} {H : Hp} (e : σ = σ') (h : t D σ' H) : t D σ H := e ▸ h
theorem sq_l {K : PySem.W.Frag} {H : Hp} {a : Addr} {xs : List V} (h : H a = some (.lst xs)) : SqL K H a xs := .inl (.inl h)
theorem sq_t {K : PySem.W.Frag} {H : Hp} {a : Addr} {xs : List V} (h : H a = some (.tup xs)) : SqT K H a xs := .inl (.inl h)
theorem Kp.seqL {W : List Addr} {K : PySem.W.Frag} {H H' : Hp} {a : Addr} {xs : List V} (k : Kp W H H') (n : Nin a W) (h : SqL K H a xs) : SqL K H' a xs := by
  rcases h with (h | ⟨o, h⟩) | h
  · exact .inl (.inl (k _ _ n h))
  · exact .inl (.inr ⟨o, k _ _ n h⟩)
  · exact .inr h
end HL

/-! HLc: comprehensions by what they have made, isinstance, facts of the text's defs. -/
namespace HL
open PySem PySem.Spec PyProof.Rows L2

/-- a def of the text, called by its name: its promise -/
def DnF (P : Program) (w : World) (K : PySem.W.Frag) (mg : Str → Option Value) (base : Heap) (k : Nat) (x : Str) (ps : List Str) (sp : Sp) : Prop :=
  ∃ (f : Addr) (fd : FuncData), FnOk P w K mg base CX0 k f fd ps sp ∧ mg x = some (.ref f) ∧ PySem.W.keepIn K (.ref f) = true ∧ Binds K fd ps []
def DnG (P : Program) (w : World) (K : PySem.W.Frag) (mg : Str → Option Value) (base : Heap) (k : Nat) (x : Str) (ps : List Str) (sp : Sp) : Prop :=
  ∃ (f : Addr) (fd : FuncData), FnG P w K mg base k f fd ps sp ∧ mg x = some (.ref f) ∧ PySem.W.keepIn K (.ref f) = true ∧ Binds K fd ps []

/-! ### comprehensions: acc i is what is made behind i turns; W what the parts may change, R what is known of that -/
structure LcOk (D : Addr) (n : Nat) (acc : Nat → List V) (W : List Addr) (H1 : Hp) (R : Nat → Hp → Prop) : Prop where
  sz : n ≤ sizeLine
  a0 : acc 0 = []
  al : ∀ i, i ≤ n → (acc i).length ≤ i
  nD : H1 D = none
  nW : Nin D W
  st : ∀ i H o, R i H → R i (upd H D o)
def LcInv (D : Addr) (acc : Nat → List V) (W : List Addr) (H1 : Hp) (R : Nat → Hp → Prop) (i : Nat) (H : Hp) : Prop := H D = some (.lst (acc i)) ∧ Kp W H1 H ∧ R i H
section
variable {J : It} {n : Nat} {G : Hp → Prop} {Y : Nat → Hp → V → Hp → Prop} {D : Addr} {acc : Nat → List V} {W : List Addr} {H1 H H4 : Hp} {R : Nat → Hp → Prop} {i : Nat} {y : V}
theorem LcInv.put (I : LcInv D acc W H1 R i H) (L : LcOk D n acc W H1 R) (hi : i < n) (e : acc (i + 1) = acc i ++ [y]) (k : Kp W H H4) (r : R (i + 1) H4) :
    ∃ a, H4 D = some (.lst a) ∧ a.length < sizeLine ∧ LcInv D acc W H1 R (i + 1) (upd H4 D (.lst (a ++ [y]))) := by
  obtain ⟨p1, p2, p3⟩ := I
  refine ⟨acc i, k.get L.nW p1, ?_, by rw [upd_same, e], ?_, L.st _ _ _ r⟩
  · have h1 := L.al i (Nat.le_of_lt hi)
    have h2 := L.sz
    omega
  · exact (p2.step k (fun x hx => .inl hx)).upd_loc L.nD
theorem LcInv.skip (I : LcInv D acc W H1 R i H) (L : LcOk D n acc W H1 R) (e : acc (i + 1) = acc i) (k : Kp W H H4) (r : R (i + 1) H4) : LcInv D acc W H1 R (i + 1) H4 :=
  ⟨by rw [e]; exact k.get L.nW I.1, I.2.1.step k (fun x hx => .inl hx), r⟩
theorem lc_go (w : Walk J n G Y) (L : LcOk D n acc W H1 R) {g : TG} {tt : TT} {te : TE} {vs : List Nat} {σ : L2.St} {Qd : Hp → Prop} (r0 : R 0 H1) (hG : ∀ H, Kp W H1 H → G H)
    (hs : ∀ i x H H', i < n → LcInv D acc W H1 R i H → Y i H x H' → g x (wipe σ vs) H' fun σ2 H2 => wipe σ2 vs = wipe σ vs ∧ tt σ2 H2 fun b H3 =>
      if b = true then te σ2 H3 fun y H4 => ∃ a, H4 D = some (.lst a) ∧ a.length < sizeLine ∧ LcInv D acc W H1 R (i + 1) (upd H4 D (.lst (a ++ [y]))) else LcInv D acc W H1 R (i + 1) H3)
    (hd : ∀ H, LcInv D acc W H1 R n H → Qd H) :
    ∃ W : Nat → Nat → Hp → Prop, (∃ m, W 0 m (upd H1 D (.lst []))) ∧ ∀ i m H, W i m H →
      (J.stop i H ∧ Qd H) ∨ (J.go i H ∧ ∃ Nx : Hp → Prop, (∀ H', Nx H' → ∃ m', m' < m ∧ W (i + 1) m' H') ∧ ∀ x H', J.yld i H x H' → g x (wipe σ vs) H' fun σ2 H2 => wipe σ2 vs = wipe σ vs ∧ tt σ2 H2 fun b H3 =>
        if b = true then te σ2 H3 fun y H4 => ∃ acc, H4 D = some (.lst acc) ∧ acc.length < sizeLine ∧ Nx (upd H4 D (.lst (acc ++ [y]))) else Nx H3) :=
  lc_it w (LcInv D acc W H1 R) ⟨by rw [upd_same, L.a0], Kp.refl.upd_new L.nD, L.st _ _ _ r0⟩ (fun i H _ p => hG H p.2.1) hs hd
end
theorem LcOk.ofTake {D : Addr} {n : Nat} {ys : List V} {W : List Addr} {H1 : Hp} {R : Nat → Hp → Prop} (sz : n ≤ sizeLine) (nD : H1 D = none) (nW : Nin D W) (st : ∀ i H o, R i H → R i (upd H D o)) : LcOk D n (fun i => ys.take i) W H1 R :=
  ⟨sz, List.take_zero, fun i _ => by rw [List.length_take]; omega, nD, nW, st⟩
theorem take_put {α : Type} {l : List α} {i : Nat} {x : α} (h : l[i]? = some x) : l.take (i + 1) = l.take i ++ [x] := by
  rw [List.take_add_one, h]
  rfl
/-! ### comprehensions whose values are not told ahead: PL i xs of what is made behind i turns -/
structure LcOkP (D : Addr) (n : Nat) (PL : Nat → List V → Prop) (W : List Addr) (H1 : Hp) (R : Nat → Hp → Prop) : Prop where
  sz : n ≤ sizeLine
  a0 : PL 0 []
  nD : H1 D = none
  nW : Nin D W
  st : ∀ i H o, R i H → R i (upd H D o)
def LcInvP (D : Addr) (PL : Nat → List V → Prop) (W : List Addr) (H1 : Hp) (R : Nat → Hp → Prop) (i : Nat) (H : Hp) : Prop :=
  (∃ xs, H D = some (.lst xs) ∧ PL i xs ∧ xs.length ≤ i) ∧ Kp W H1 H ∧ R i H
section
variable {J : It} {n : Nat} {G : Hp → Prop} {Y : Nat → Hp → V → Hp → Prop} {D : Addr} {PL : Nat → List V → Prop} {W : List Addr} {H1 H H4 : Hp} {R : Nat → Hp → Prop} {i : Nat} {y : V}
theorem LcInvP.put (I : LcInvP D PL W H1 R i H) (L : LcOkP D n PL W H1 R) (hi : i < n) (e : ∀ xs, PL i xs → PL (i + 1) (xs ++ [y])) (k : Kp W H H4) (r : R (i + 1) H4) :
    ∃ a, H4 D = some (.lst a) ∧ a.length < sizeLine ∧ LcInvP D PL W H1 R (i + 1) (upd H4 D (.lst (a ++ [y]))) := by
  obtain ⟨⟨xs, p0, p1, pl⟩, p2, p3⟩ := I
  have h2 := L.sz
  refine ⟨xs, k.get L.nW p0, by omega, ⟨xs ++ [y], upd_same, e xs p1, by simp; exact pl⟩, ?_, L.st _ _ _ r⟩
  exact (p2.step k (fun x hx => .inl hx)).upd_loc L.nD
theorem lc_goP (w : Walk J n G Y) (L : LcOkP D n PL W H1 R) {g : TG} {tt : TT} {te : TE} {vs : List Nat} {σ : L2.St} {Qd : Hp → Prop} (r0 : R 0 H1) (hG : ∀ H, Kp W H1 H → G H)
    (hs : ∀ i x H H', i < n → LcInvP D PL W H1 R i H → Y i H x H' → g x (wipe σ vs) H' fun σ2 H2 => wipe σ2 vs = wipe σ vs ∧ tt σ2 H2 fun b H3 =>
      if b = true then te σ2 H3 fun y H4 => ∃ a, H4 D = some (.lst a) ∧ a.length < sizeLine ∧ LcInvP D PL W H1 R (i + 1) (upd H4 D (.lst (a ++ [y]))) else LcInvP D PL W H1 R (i + 1) H3)
    (hd : ∀ H, LcInvP D PL W H1 R n H → Qd H) :
    ∃ W : Nat → Nat → Hp → Prop, (∃ m, W 0 m (upd H1 D (.lst []))) ∧ ∀ i m H, W i m H →
      (J.stop i H ∧ Qd H) ∨ (J.go i H ∧ ∃ Nx : Hp → Prop, (∀ H', Nx H' → ∃ m', m' < m ∧ W (i + 1) m' H') ∧ ∀ x H', J.yld i H x H' → g x (wipe σ vs) H' fun σ2 H2 => wipe σ2 vs = wipe σ vs ∧ tt σ2 H2 fun b H3 =>
        if b = true then te σ2 H3 fun y H4 => ∃ acc, H4 D = some (.lst acc) ∧ acc.length < sizeLine ∧ Nx (upd H4 D (.lst (acc ++ [y]))) else Nx H3) :=
  lc_it w (LcInvP D PL W H1 R) ⟨⟨[], upd_same, L.a0, Nat.le_refl _⟩, Kp.refl.upd_new L.nD, L.st _ _ _ r0⟩ (fun i H _ p => hG H p.2.1) hs hd
end
/-! ### small steps more -/
section
variable {σ : L2.St} {H : Hp} {Q : VK} {K : PySem.W.Frag} {A B : Prop}
theorem s_lc {wi : TI} {g : TG} {tt : TT} {te : TE} {vs : List Nat} (h : wi σ H fun J H1 => ∀ D, H1 D = none → ∃ W : Nat → Nat → Hp → Prop, (∃ m, W 0 m (upd H1 D (.lst []))) ∧ ∀ i m H, W i m H →
  (J.stop i H ∧ Q (.ref D) H) ∨ (J.go i H ∧ ∃ Nx : Hp → Prop, (∀ H', Nx H' → ∃ m', m' < m ∧ W (i + 1) m' H') ∧ ∀ x H', J.yld i H x H' → g x (wipe σ vs) H' fun σ2 H2 => wipe σ2 vs = wipe σ vs ∧ tt σ2 H2 fun b H3 =>
    if b = true then te σ2 H3 fun y H4 => ∃ acc, H4 D = some (.lst acc) ∧ acc.length < sizeLine ∧ Nx (upd H4 D (.lst (acc ++ [y]))) else Nx H3)) : tLc wi g tt te vs σ H Q := h
theorem s_iStr {te : TE} {R : It → Hp → Prop} (h : te σ H fun v H1 => ∃ x, v = .str x ∧ R (Its x) H1) : iStr te σ H R := h
theorem s_iList {te : TE} {R : It → Hp → Prop} (h : te σ H fun x H1 => ∃ a, x = .ref a ∧ (∃ xs, SqL K H1 a xs) ∧ R (Itl K a) H1) : iList K te σ H R := h
theorem s_iTup {te : TE} {R : It → Hp → Prop} (h : te σ H fun x H1 => ∃ a, x = .ref a ∧ (∃ xs, SqT K H1 a xs) ∧ R (Itt K a) H1) : iTup K te σ H R := h
theorem s_iRng1 {ta : TA} {R : It → Hp → Prop} (h : ta σ H fun vs H1 => ∃ j : Int, vs = [.int j] ∧ -(2 ^ 62) ≤ j ∧ j < 2 ^ 62 ∧ R (Itr 0 j.toNat) H1) : iRng1 ta σ H R := h
theorem s_str {R : Str → Prop} {a : Str} (q : R a) : ∃ x, V.str a = .str x ∧ R x := ⟨a, rfl, q⟩
theorem s_ref {R : Addr → Prop} {a : Addr} (q : R a) : ∃ x, V.ref a = .ref x ∧ R x := ⟨a, rfl, q⟩
theorem s_yes {R : Bool → Hp → Prop} (q : R true H) : tYes σ H R := q
theorem s_for {wi : TI} {g : TG} {tb : TS} {E : Ends} (h : wi σ H fun J H1 => ∃ W : Nat → Nat → L2.St → Hp → Prop, (∃ m, W 0 m σ H1) ∧ ∀ i m σ H, W i m σ H →
      (J.stop i H ∧ E.nx σ H) ∨ (J.go i H ∧ ∃ N : L2.St → Hp → Prop, (∀ σ' H', N σ' H' → ∃ m', m' < m ∧ W (i + 1) m' σ' H') ∧ ∀ x H', J.yld i H x H' → g x σ H' fun σ2 H2 => tb { E with nx := N, ct := N, bk := E.nx } σ2 H2)) : tFor wi g tb E σ H := h
theorem i_T (h : A) : if true = true then A else B := by rw [if_pos rfl]; exact h
theorem i_F (h : B) : if false = true then A else B := by rw [if_neg Bool.false_ne_true]; exact h
theorem i_nT (h : B) : if (!true) = true then A else B := by rw [if_neg (by decide)]; exact h
theorem i_nF (h : A) : if (!false) = true then A else B := by rw [if_pos (by decide)]; exact h
theorem isi_ty {x : V} {t T : String} {b : Bool} (ht : TyX K H x (.type t)) (hk : kitB t T = some b) (q : Q (.bl b) H) : rIsi K [x, .ty T] H Q := ⟨x, .ty T, .type t, .type T, b, rfl, .ty T, ht, kit_ty hk, q⟩
theorem s_lenS {z : Str} (l : z.length ≤ sizeLine) (q : Q (.int z.length) H) : (fun (xs : List V) (H : Hp) (Q : VK) => ∃ z, xs = [.str z] ∧ z.length ≤ sizeLine ∧ Q (.int z.length) H) [.str z] H Q := ⟨z, rfl, l, q⟩
end
end HL

/-! HLm: words between dots, in plain Lean. -/
namespace HL
open PySem PySem.Spec PyProof.Rows L2 TL
def mkS (l : List Nat) : Str := ⟨l.toArray⟩
theorem tl_mkS (l : List Nat) : tl (mkS l) = l := rfl
theorem mkS_tl (z : Str) : mkS (tl z) = z := mk_tl z
theorem mkS_inj {a b : List Nat} (h : mkS a = mkS b) : a = b := by
  have := congrArg tl h
  exact this
theorem mkS_len (l : List Nat) : (mkS l).length = l.length := by rw [len_tl, tl_mkS]
theorem mkS_app (a b : List Nat) : mkS a ++ mkS b = mkS (a ++ b) := ext_tl (by rw [tl_append, tl_mkS, tl_mkS, tl_mkS])
/-- the words between dots; acc what the first one has already -/
def wds : List Nat → List Nat → List (List Nat)
  | acc, [] => [acc]
  | acc, c :: r => if c = 46 then acc :: wds [] r else wds (acc ++ [c]) r
theorem wds_spl : ∀ (l acc : List Nat), spl [46] 0 acc l = wds acc l
  | [], acc => by rw [spl_nil]; rfl
  | c :: r, acc => by
    by_cases h : c = 46
    · subst h
      rw [spl_hit (by simp [pre])]
      show acc :: spl [46] 0 [] r = _
      rw [wds_spl r]
      simp [wds]
    · rw [spl_miss (pre_of_head _ _ h), wds_spl r]
      simp [wds, h]
theorem map_mkS_tl (ys : List Str) : (ys.map tl).map mkS = ys := by
  rw [List.map_map]
  conv => rhs; rw [← List.map_id ys]
  exact List.map_congr_left fun a _ => mkS_tl a
/-- z.split('.') -/
theorem split_dot (z : Str) : Txt.split z "." = (wds [] (tl z)).map mkS := by
  have h := split_spl z "." (by decide +kernel) (kind_ok (by decide +kernel))
  rw [show tl "." = [46] from by decide +kernel, wds_spl] at h
  rw [← h, map_mkS_tl]
theorem wds_ne : ∀ (l acc : List Nat), wds acc l ≠ []
  | [], acc => by simp [wds]
  | c :: r, acc => by
    unfold wds
    split
    · simp
    · exact wds_ne r _
theorem wds_mem : ∀ (l acc p : List Nat), p ∈ wds acc l → p.length ≤ acc.length + l.length
  | [], acc, p, h => by simp [wds] at h; subst h; simp
  | c :: r, acc, p, h => by
    unfold wds at h
    split at h
    · rcases List.mem_cons.mp h with rfl | h
      · simp
      · have := wds_mem r [] p h
        simp at this ⊢
        omega
    · have := wds_mem r _ p h
      simp at this ⊢
      omega
theorem wds_length : ∀ (l acc : List Nat), (wds acc l).length ≤ l.length + 1
  | [], acc => by simp [wds]
  | c :: r, acc => by
    unfold wds
    split
    · have := wds_length r []
      simp
      omega
    · have := wds_length r (acc ++ [c])
      simp
      omega
theorem wds_sum : ∀ (l acc : List Nat), ((wds acc l).map List.length).sum ≤ acc.length + l.length
  | [], acc => by simp [wds]
  | c :: r, acc => by
    unfold wds
    split
    · have := wds_sum r []
      simp at this ⊢
      omega
    · have := wds_sum r (acc ++ [c])
      simp at this ⊢
      omega
/-- one sign more -/
def wst (s : List (List Nat) × List Nat) (c : Nat) : List (List Nat) × List Nat := if c = 46 then (s.1 ++ [s.2], []) else (s.1, s.2 ++ [c])
theorem wst_run : ∀ (l : List Nat) (p : List (List Nat)) (acc : List Nat), (l.foldl wst (p, acc)).1 ++ [(l.foldl wst (p, acc)).2] = p ++ wds acc l
  | [], p, acc => rfl
  | c :: r, p, acc => by
    rw [List.foldl_cons]
    by_cases h : c = 46
    · rw [show wst (p, acc) c = (p ++ [acc], []) by unfold wst; rw [if_pos h]]
      rw [wst_run r, List.append_assoc]
      simp [wds, h]
    · rw [show wst (p, acc) c = (p, acc ++ [c]) by unfold wst; rw [if_neg h]]
      rw [wst_run r]
      simp [wds, h]
theorem joinL_dot : ∀ {ps : List (List Nat)}, ps ≠ [] → (∀ p ∈ ps, 46 ∉ p) → wds [] (joinL [46] ps) = ps := fun hne h => by
  rw [← wds_spl]
  exact spl_join hne h
theorem wds_free : ∀ (l acc : List Nat), 46 ∉ acc → ∀ p ∈ wds acc l, 46 ∉ p
  | [], acc, h, p, hp => by simp [wds] at hp; subst hp; exact h
  | c :: r, acc, h, p, hp => by
    unfold wds at hp
    split at hp
    · rcases List.mem_cons.mp hp with rfl | hp
      · exact h
      · exact wds_free r [] (by simp) p hp
    · rename_i hc
      exact wds_free r _ (by simp [h]; exact fun e => hc e.symm) p hp
theorem sum_take_le (f : List Nat → Nat) : ∀ (l : List (List Nat)) (k : Nat), ((l.take k).map f).sum ≤ (l.map f).sum
  | [], k => by simp
  | a :: r, 0 => by simp
  | a :: r, k + 1 => by
    have := sum_take_le f r k
    rw [List.take_succ_cons, List.map_cons, List.sum_cons, List.map_cons, List.sum_cons]
    omega
theorem joinS (ps : List (List Nat)) : Txt.join "." (ps.map mkS) = mkS (joinL [46] ps) := ext_tl (by
  rw [join_eq, tl_join, List.map_map, show tl "." = [46] from by decide +kernel, tl_mkS]
  congr 1
  conv => rhs; rw [← List.map_id ps]
  exact List.map_congr_left fun a _ => tl_mkS a)
theorem eqvAll_strs : ∀ xs ys : List Str, PyData.eqvAll (xs.map PyData.str) (ys.map PyData.str) = decide (xs = ys)
  | [], [] => by simp [PyData.eqvAll]
  | [], _ :: _ => by simp [PyData.eqvAll]
  | _ :: _, [] => by simp [PyData.eqvAll]
  | x :: xs, y :: ys => by
    have ih := eqvAll_strs xs ys
    simp only [List.map_cons, PyData.eqvAll, ih, PyData.eqv]
    by_cases h : x = y
    · subst h; simp
    · simp [h]
theorem dpAll_strs {K : PySem.W.Frag} {H : Hp} : ∀ xs : List Str, DpAll K H (xs.map V.str) (xs.map PyData.str)
  | [] => .nil
  | x :: xs => .cons (.str x) (dpAll_strs xs)
theorem joinL_len (S : List Nat) : ∀ ps : List (List Nat), (joinL S ps).length ≤ (ps.map List.length).sum + ps.length * S.length
  | [] => by simp [joinL]
  | [p] => by simp [joinL]
  | p :: q :: r => by
    have ih := joinL_len S (q :: r)
    have e : joinL S (p :: q :: r) = p ++ S ++ joinL S (q :: r) := by simp [joinL]
    rw [e, List.length_append, List.length_append, List.map_cons, List.sum_cons, List.length_cons, Nat.add_mul]
    omega
theorem join_len (y : Str) (ps : List Str) : (Txt.join y ps).length ≤ (ps.map (·.length)).sum + ps.length * y.length := by
  have h := joinL_len (tl y) (ps.map tl)
  rw [len_tl, join_eq, tl_join]
  rw [List.length_map, List.map_map, ← len_tl] at h
  have e : (List.map (List.length ∘ tl) ps) = ps.map (·.length) := List.map_congr_left fun a _ => (len_tl a).symm
  rw [e] at h
  exact h
theorem sum_le_of {l : List Str} {m : Nat} (h : ∀ y ∈ l, y.length ≤ m) : (l.map (·.length)).sum ≤ l.length * m := by
  induction l with
  | nil => simp
  | cons a r ih =>
    have h1 := h a List.mem_cons_self
    have h2 := ih fun y hy => h y (List.mem_cons_of_mem _ hy)
    rw [List.map_cons, List.sum_cons, List.length_cons, Nat.add_mul]
    omega
/-- codes that a text may have -/
def OkL (l : List Nat) : Prop := ∀ c ∈ l, c < 1114112
theorem OkL.app {a b : List Nat} (h : OkL a) (g : OkL b) : OkL (a ++ b) := fun c hc => (List.mem_append.mp hc).elim (h c) (g c)
theorem OkL.str {l : List Nat} (h : OkL l) : PyData.strOk (mkS l) = true := by
  unfold PyData.strOk mkS
  simp only [List.all_toArray, List.all_eq_true]
  intro c hc
  simpa using h c hc
theorem OkL.strT {z : Str} (h : OkL (tl z)) : PyData.strOk z = true := by
  have := OkL.str h
  rw [mkS_tl] at this
  exact this
theorem atI_mem {α : Type} {xs : List α} {i : Int} {v : α} (h : atI xs i = some v) : v ∈ xs := by
  unfold atI at h
  cases e : ixN xs.length i with
  | none => rw [e] at h; cases h
  | some j => rw [e] at h; exact List.mem_of_getElem? h
theorem joinL_mem {S : List Nat} {c : Nat} : ∀ ps : List (List Nat), c ∈ joinL S ps → c ∈ S ∨ ∃ p ∈ ps, c ∈ p
  | [], h => by simp [joinL] at h
  | [p], h => .inr ⟨p, by simp, by simpa [joinL] using h⟩
  | p :: q :: r, h => by
    have e : joinL S (p :: q :: r) = p ++ (S ++ joinL S (q :: r)) := rfl
    rw [e] at h
    rcases List.mem_append.mp h with h | h
    · exact .inr ⟨p, by simp, h⟩
    rcases List.mem_append.mp h with h | h
    · exact .inl h
    rcases joinL_mem (q :: r) h with h | ⟨y, hy, hc⟩
    · exact .inl h
    · exact .inr ⟨y, List.mem_cons_of_mem _ hy, hc⟩
theorem OkL.join {s : Str} {ys : List Str} (h : OkL (tl s)) (g : ∀ y ∈ ys, OkL (tl y)) : OkL (tl (Txt.join s ys)) := fun c hc => by
  rw [join_eq, tl_join] at hc
  rcases joinL_mem _ hc with e | ⟨p, hp, e⟩
  · exact h c e
  · obtain ⟨y, hy, rfl⟩ := List.mem_map.mp hp
    exact g y hy c e
theorem wds_sub : ∀ (l acc p : List Nat), p ∈ wds acc l → ∀ c ∈ p, c ∈ acc ∨ c ∈ l
  | [], acc, p, h, c, hc => by simp [wds] at h; subst h; exact .inl hc
  | a :: r, acc, p, h, c, hc => by
    unfold wds at h
    split at h
    · rcases List.mem_cons.mp h with rfl | h
      · exact .inl hc
      · rcases wds_sub r [] p h c hc with e | e
        · cases e
        · exact .inr (List.mem_cons_of_mem _ e)
    · rcases wds_sub r _ p h c hc with e | e
      · rcases List.mem_append.mp e with e | e
        · exact .inl e
        · rw [List.mem_singleton.mp e]
          exact .inr List.mem_cons_self
      · exact .inr (List.mem_cons_of_mem _ e)
theorem OkL.wds {l : List Nat} (h : OkL l) : ∀ p ∈ wds [] l, OkL p := fun p hp c hc => by
  rcases wds_sub l [] p hp c hc with e | e
  · cases e
  · exact h c e
theorem OkL.cut {z : Str} (h : OkL (tl z)) (lo hi : Option Int) : OkL (tl (cutS z lo hi)) := fun c hc => by
  apply h
  have hc2 : c ∈ List.take (HT.sIx z.length z.length hi - HT.sIx z.length 0 lo) (List.drop (HT.sIx z.length 0 lo) z.cps.toList) := hc
  exact List.mem_of_mem_drop (List.mem_of_mem_take hc2)
theorem shaped_strs {xs : List Str} (h : ∀ x ∈ xs, PyData.strOk x = true) : SeqAt.shaped (.list (xs.map PyData.str)) = true := by
  have e : ∀ ys : List Str, (∀ x ∈ ys, PyData.strOk x = true) → PyData.canLayAll0 (ys.map PyData.str) = true ∧ PyData.depthAll (ys.map PyData.str) = 0 := by
    intro ys
    induction ys with
    | nil => intro _; simp [PyData.canLayAll0, PyData.depthAll]
    | cons a r ih =>
      intro g
      obtain ⟨h1, h2⟩ := ih fun x hx => g x (List.mem_cons_of_mem _ hx)
      simp [PyData.canLayAll0, PyData.depthAll, PyData.canLay0, PyData.depth, h1, h2, g a List.mem_cons_self]
  obtain ⟨h1, h2⟩ := e xs h
  unfold SeqAt.shaped
  simp [PyData.canLay0, PyData.depth, h1, h2]
/-- what a name is -/
def lets : List Nat := tl "abcdefghijklmnopqrstuvwxyz"
def isNameL (l : List Nat) : Bool := decide (1 ≤ l.length) && decide (l.length ≤ 8) && l.all fun c => decide (c ∈ lets)
def isPathL (l : List Nat) : Bool := decide ((wds [] l).length ≤ 4) && (wds [] l).all isNameL
theorem joinL_cons (S p : List Nat) {ps : List (List Nat)} (h : ps ≠ []) : joinL S (p :: ps) = p ++ (S ++ joinL S ps) := by
  cases ps with
  | nil => exact absurd rfl h
  | cons a r => rfl
theorem joinL_wds : ∀ (l acc : List Nat), joinL [46] (wds acc l) = acc ++ l
  | [], acc => by simp [wds, joinL]
  | c :: r, acc => by
    unfold wds
    split
    · rename_i h
      rw [joinL_cons _ _ (wds_ne _ _), joinL_wds r []]
      simp [h]
    · rw [joinL_wds r _]
      simp
theorem wds_one : ∀ (l acc : List Nat), (wds acc l).length = 1 → wds acc l = [acc ++ l]
  | [], acc, _ => by simp [wds]
  | c :: r, acc, h => by
    unfold wds at h ⊢
    split at h
    · have := List.length_pos_iff.mpr (wds_ne r [])
      simp at h
      exact absurd h (wds_ne r [])
    · rename_i hc
      rw [if_neg hc, wds_one r _ h]
      simp
theorem wds_nodot : ∀ (l acc : List Nat), 46 ∉ l → wds acc l = [acc ++ l]
  | [], acc, _ => by simp [wds]
  | c :: r, acc, h => by
    have hc : c ≠ 46 := fun e => h (by simp [e])
    unfold wds
    rw [if_neg hc, wds_nodot r _ fun q => h (List.mem_cons_of_mem _ q)]
    simp
theorem name_nodot {l : List Nat} (h : isNameL l = true) : 46 ∉ l := fun hm => by
  unfold isNameL at h
  simp only [Bool.and_eq_true, List.all_eq_true, decide_eq_true_eq] at h
  have := h.2 46 hm
  revert this
  decide +kernel
theorem name_words (l : List Nat) : isNameL l = (decide ((wds [] l).length = 1) && (wds [] l).all isNameL) := by
  by_cases h1 : (wds [] l).length = 1
  · rw [wds_one l [] h1]
    simp
  · rw [decide_eq_false h1, Bool.false_and]
    cases h : isNameL l with
    | false => rfl
    | true => exact absurd (by rw [wds_nodot l [] (name_nodot h)]; rfl) h1
end HL

/-! HLk: the rules with the written part K named, for use within a comprehension's block too. -/
namespace HL
open PySem PySem.Spec PyProof.Rows L2 TL
def rLen (K : PySem.W.Frag) : List V → Hp → VK → Prop := fun vs H Q =>
  ∃ p ys, vs = [.ref p] ∧ (SqL K H p ys ∨ SqT K H p ys) ∧ Q (.int ys.length) H
def rLenS : List V → Hp → VK → Prop := fun vs H Q =>
  ∃ z : Str, vs = [.str z] ∧ z.length ≤ sizeLine ∧ Q (.int z.length) H
def rListOf (K : PySem.W.Frag) : List V → Hp → VK → Prop := fun vs H Q =>
  ∃ p ys, vs = [.ref p] ∧ (SqL K H p ys ∨ SqT K H p ys) ∧ ∀ l, H l = none → Q (.ref l) (upd H l (.lst ys))
def rTupleOf (K : PySem.W.Frag) : List V → Hp → VK → Prop := fun vs H Q =>
  ∃ p ys, vs = [.ref p] ∧ ((SqL K H p ys ∧ ∀ l, H l = none → Q (.ref l) (upd H l (.tup ys))) ∨ (SqT K H p ys ∧ Q (.ref p) H))
def rJoin (K : PySem.W.Frag) : V → List V → Hp → VK → Prop := fun x vs H Q =>
  ∃ a p, ∃ ys : List Str, x = .str a ∧ vs = [.ref p] ∧ (SqL K H p (ys.map V.str) ∨ SqT K H p (ys.map V.str)) ∧
    (ys.map (·.length)).sum + ys.length * a.length ≤ 16777216 ∧ Q (.str (Txt.join a ys)) H
def rSplit : V → List V → Hp → VK → Prop := fun x vs H Q =>
  ∃ a b, x = .str a ∧ vs = [.str b] ∧ (b.length == 0) = false ∧ a.length + 2 ≤ sizeLine ∧ rNewStrs (Txt.split a b) H Q
def rAddS : R2 := fun x y H Q => ∃ i j, x = .str i ∧ y = .str j ∧ i.length + j.length ≤ sizeLine ∧ Q (.str (i ++ j)) H
def rInSg : R2 := fun x y H Q => ∃ (c : Nat) (z : Str), x = .str ⟨#[c]⟩ ∧ y = .str z ∧ Q (.bl (decide (c ∈ z.cps.toList))) H
def rDivmod : List V → Hp → VK → Prop := fun vs H Q => ∃ i j, vs = [.int i, .int j] ∧ CDiv i j ∧ ∀ p, H p = none → Q (.ref p) (upd H p (.tup [.int (i / j), .int (i % j)]))
section
variable {X : Cx} {K : PySem.W.Frag} {e tg : Expr} {to : TE} {tl : TA} {T : String} {r : V → List V → Hp → VK → Prop}
theorem addS : OpR X (binaryOp .Add) rAddS := op_add_str
theorem inSg : OpR X (compareOp .In) rInSg := op_in_sign
theorem divmodR : CallR X (.builtin "divmod") rDivmod := call_divmod
theorem ixLK (h : X.K = K) : IxR X (rIxL K) := h ▸ ix_list
theorem ixTK (h : X.K = K) : IxR X (rIxT K) := h ▸ ix_tup
theorem slLK (h : X.K = K) : SlR X (rSlL K) := h ▸ sl_list
theorem slTK (h : X.K = K) : SlR X (rSlT K) := h ▸ sl_tup
theorem inK (h : X.K = K) : OpR X (compareOp .In) (rIn K false) := h ▸ op_in_seq
theorem ninK (h : X.K = K) : OpR X (compareOp .NotIn) (rIn K true) := h ▸ op_notIn_seq
theorem eqDK (h : X.K = K) (hu : X.A.units + 64 < cLine) : OpR X (compareOp .Eq) (rEqD K) := h ▸ op_eqD hu
theorem neDK (h : X.K = K) (hu : X.A.units + 64 < cLine) : OpR X (compareOp .NotEq) (rNeD K) := h ▸ op_neD hu
theorem lenK (h : X.K = K) : CallR X (.builtin "len") (rLen K) := h ▸ call_len_seq
theorem lenS : CallR X (.builtin "len") rLenS := call_len_str
theorem listK (h : X.K = K) : CallR X (.type "list") (rListOf K) := h ▸ call_list_of
theorem tupleK (h : X.K = K) : CallR X (.type "tuple") (rTupleOf K) := h ▸ call_tuple_of
theorem joinK (h : X.K = K) : MtR X "str.join" (rJoin K) := h ▸ mt_join
theorem splitR : MtR X "str.split" rSplit := mt_split
theorem isiK (h : X.K = K) : CallR X (.builtin "isinstance") (rIsi K) := h ▸ call_isi
theorem allK (h : X.K = K) (hc : X.calm = true) : CallR X (.builtin "all") (rAll K) := h ▸ cr_all hc
theorem anyK (h : X.K = K) (hc : X.calm = true) : CallR X (.builtin "any") (rAny K) := h ▸ cr_any hc
theorem reprK (h : X.K = K) (hg : X.A.guards = some []) (hu : X.A.units + 64 < cLine) : CallR X (.builtin "repr") (rReprD K) := h ▸ call_reprD hg hu
theorem kBM (h : X.K = K) (p : PE X e (tBM X.K T r to tl)) : PE X e (tBM K T r to tl) := h ▸ p
theorem kBM0 (h : X.K = K) (p : PE X e (tBM0 X.K T r to)) : PE X e (tBM0 K T r to) := h ▸ p
theorem kFld {f : Str} (h : X.K = K) (p : PE X e (tFld X.K to f)) : PE X e (tFld K to f) := h ▸ p
theorem kiL (h : X.K = K) (p : PI X tg e (iList X.K to)) : PI X tg e (iList K to) := h ▸ p
theorem kiT (h : X.K = K) (p : PI X tg e (iTup X.K to)) : PI X tg e (iTup K to) := h ▸ p
theorem kiE (h : X.K = K) (p : PI X tg e (iEnum X.K tl)) : PI X tg e (iEnum K tl) := h ▸ p
theorem kgT {n : Nat} {g : TGs} (h : X.K = K) (p : PG X e (gTup X.K n g)) : PG X e (gTup K n g) := h ▸ p
end
/-- a statement, what follows behind it: stopped at by the steps, to be cut by an invariant -/
def tCut (t u : TS) : TS := tSeq t u
theorem pss_cut2 {X : Cx} {st : Stmt} {rest : List Stmt} {t u : TS} (h1 : PS X st t) (h2 : PSs X rest u) : PSs X (st :: rest) (tCut t u) := pss_cons h1 h2
theorem s_cut {t u : TS} {D : Ends} {σ : L2.St} {H : Hp} (Iv : L2.St → Hp → Prop) (h1 : ∀ J : L2.St → Hp → Prop, (∀ σ H, Iv σ H → J σ H) → t { D with nx := J } σ H) (h2 : ∀ σ H, Iv σ H → u D σ H) : tCut t u D σ H := h1 (u D) h2
/-- a for over a walk: Pv by the turn, the slots, the heap -/
theorem for_go {J : It} {n : Nat} {G : Hp → Prop} {Y : Nat → Hp → V → Hp → Prop} (w : Walk J n G Y) {g : TG} {tb : TS} {nx : L2.St → Hp → Prop} {rt : VK} {σ : L2.St} {H : Hp}
    (Pv : Nat → L2.St → Hp → Prop) (h0 : Pv 0 σ H) (hG : ∀ i σ H, i ≤ n → Pv i σ H → G H)
    (hs : ∀ i x σ H H', i < n → Pv i σ H → Y i H x H' → g x σ H' fun σ2 H2 => tb { nx := Pv (i + 1), rt := rt, bk := nx, ct := Pv (i + 1) } σ2 H2) (hd : ∀ σ H, Pv n σ H → nx σ H) :
    ∃ W : Nat → Nat → L2.St → Hp → Prop, (∃ m, W 0 m σ H) ∧ ∀ i m σ H, W i m σ H → (J.stop i H ∧ nx σ H) ∨
      (J.go i H ∧ ∃ N : L2.St → Hp → Prop, (∀ σ' H', N σ' H' → ∃ m', m' < m ∧ W (i + 1) m' σ' H') ∧
        ∀ x H', J.yld i H x H' → g x σ H' fun σ2 H2 => tb { nx := N, rt := rt, bk := nx, ct := N } σ2 H2) :=
  for_it w (D := { nx := nx, rt := rt }) Pv h0 hG hs hd
/-! ### steps of these -/
section
variable {σ : L2.St} {H : Hp} {Q : VK} {K : PySem.W.Frag} {p : Addr} {ys : List V}
theorem s_lenL (h : SqL K H p ys) (q : Q (.int ys.length) H) : rLen K [.ref p] H Q := ⟨p, ys, rfl, .inl h, q⟩
theorem s_lenT (h : SqT K H p ys) (q : Q (.int ys.length) H) : rLen K [.ref p] H Q := ⟨p, ys, rfl, .inr h, q⟩
theorem s_lenStr {z : Str} (h : z.length ≤ sizeLine) (q : Q (.int z.length) H) : rLenS [.str z] H Q := ⟨z, rfl, h, q⟩
theorem s_listL (h : SqL K H p ys) (q : ∀ l, H l = none → Q (.ref l) (upd H l (.lst ys))) : rListOf K [.ref p] H Q := ⟨p, ys, rfl, .inl h, q⟩
theorem s_tupL (h : SqL K H p ys) (q : ∀ l, H l = none → Q (.ref l) (upd H l (.tup ys))) : rTupleOf K [.ref p] H Q := ⟨p, ys, rfl, .inl ⟨h, q⟩⟩
theorem s_joinL {a : Str} {zs : List Str} (h : SqL K H p (zs.map V.str)) (l : (zs.map (·.length)).sum + zs.length * a.length ≤ 16777216) (q : Q (.str (Txt.join a zs)) H) : rJoin K (.str a) [.ref p] H Q := ⟨a, p, zs, rfl, rfl, .inl h, l, q⟩
theorem s_splitS {a b : Str} (h1 : (b.length == 0) = false) (h2 : a.length + 2 ≤ sizeLine) (q : ∀ p, H p = none → Q (.ref p) (upd H p (.lst ((Txt.split a b).map V.str)))) : rSplit (.str a) [.str b] H Q := ⟨a, b, rfl, rfl, h1, h2, q⟩
theorem s_slL {lo hi : Option Int} (h : SqL K H p ys) (q : ∀ l, H l = none → Q (.ref l) (upd H l (.lst (cutV ys lo hi)))) : rSlL K (.ref p) lo hi H Q := ⟨p, ys, rfl, h, q⟩
theorem s_slS {z : Str} {lo hi : Option Int} (h : z.length ≤ sizeLine) (q : Q (.str (cutS z lo hi)) H) : rSlS (.str z) lo hi H Q := ⟨z, rfl, h, q⟩
theorem s_ixS {z : Str} {k : Int} {c : Nat} (h : z.length ≤ sizeLine) (a : atI z.cps.toList k = some c) (q : Q (.str ⟨#[c]⟩) H) : rIxS (.str z) (.int k) H Q := ⟨z, k, c, rfl, rfl, h, a, q⟩
theorem s_addS {a b : Str} (l : a.length + b.length ≤ sizeLine) (q : Q (.str (a ++ b)) H) : rAddS (.str a) (.str b) H Q := ⟨a, b, rfl, rfl, l, q⟩
theorem s_inSg {c : Nat} {z : Str} (q : Q (.bl (decide (c ∈ z.cps.toList))) H) : rInSg (.str ⟨#[c]⟩) (.str z) H Q := ⟨c, z, rfl, rfl, q⟩
theorem s_divmod {a b : Int} (c : CDiv a b) (q : ∀ p, H p = none → Q (.ref p) (upd H p (.tup [.int (a / b), .int (a % b)]))) : rDivmod [.int a, .int b] H Q := ⟨a, b, rfl, c, q⟩
theorem s_U {g : Int → V} {i : Int} (q : Q (g i) H) : rU g (.int i) H Q := ⟨i, rfl, q⟩
theorem s_nn {P : Prop} (q : P) : V.non = V.non ∧ P := ⟨rfl, q⟩
theorem s_tyL {P : Prop} (h : H p = some (.lst ys)) (q : P) : tyV K "list" (.ref p) H ∧ P := ⟨.inl ⟨rfl, _, sq_l h⟩, q⟩
theorem s_all {bs : List Bool} (h : SqL K H p (bs.map V.bl)) (q : Q (.bl (bs.all id)) H) : rAll K [.ref p] H Q := ⟨p, bs, rfl, h, q⟩
theorem s_any {bs : List Bool} (h : SqL K H p (bs.map V.bl)) (q : Q (.bl (bs.any id)) H) : rAny K [.ref p] H Q := ⟨p, bs, rfl, h, q⟩
theorem s_eqD {x y : V} {d e : PyData} (hd : Dp K H x d) (he : Dp K H y e) (sd : SeqAt.shaped d = true) (se : SeqAt.shaped e = true) (q : Q (.bl (PyData.eqv d e)) H) : rEqD K x y H Q := ⟨d, e, hd, he, sd, se, q⟩
theorem s_neD {x y : V} {d e : PyData} (hd : Dp K H x d) (he : Dp K H y e) (sd : SeqAt.shaped d = true) (se : SeqAt.shaped e = true) (q : Q (.bl (!PyData.eqv d e)) H) : rNeD K x y H Q := ⟨d, e, hd, he, sd, se, q⟩
end
end HL

/-! HLg: the end of a law whose defs ask that no repr is under way. -/
namespace HL
open PySem PySem.Spec PyProof.Rows L2
/-- the script's object -/
abbrev scObj (vs : List Value) : Obj := { cls := .type "list", data := .seq vs.toArray }
/-- the heap in which the script alone is tracked, or nothing, where it is an object of the module -/
def scT (K : PySem.W.Frag) (a : Addr) (vs : List Value) (ns : List Int) : Hp := fun b =>
  if b = a ∧ K.lookup a = none then some (.frz (scObj vs) (.lst (ns.map V.int))) else none
theorem scT_some {K : PySem.W.Frag} {a b : Addr} {vs : List Value} {ns : List Int} {u : HO} (h : scT K a vs ns b = some u) :
    b = a ∧ K.lookup a = none ∧ u = .frz (scObj vs) (.lst (ns.map V.int)) := by
  unfold scT at h
  split at h
  · rename_i c
    exact ⟨c.1, c.2, (Option.some.inj h).symm⟩
  · cases h
theorem scT_ne {K : PySem.W.Frag} {a b : Addr} {vs : List Value} {ns : List Int} (h : b ≠ a) : scT K a vs ns b = none :=
  if_neg fun c => h c.1
theorem scT_own {K : PySem.W.Frag} {a b : Addr} {vs : List Value} {ns : List Int} {o : Obj} (h : K.lookup b = some o) : scT K a vs ns b = none :=
  if_neg fun c => by
    rw [c.1, c.2] at h
    exact absurd h (by simp)
theorem scT_only (K : PySem.W.Frag) (a : Addr) (vs : List Value) (ns : List Int) : Only (scT K a vs ns) := fun b => by
  cases e : scT K a vs ns b with
  | none => exact Or.inl rfl
  | some u => exact Or.inr ⟨_, _, congrArg some (scT_some e).2.2⟩
/-- a law's call, from the promise of its def -/
theorem law_callG {P : Program} {w : World} {K : PySem.W.Frag} {mg mb : Str → Option Value} {k : Nat} {fa a : Addr}
    {fd : FuncData} {x : Str} {sp : Sp} {t : Shared} {vs : List Value} {ns : List Int}
    (inK : K.In t.heap) (glob : t.heap.Ns mainGlobals mg) (blt : t.heap.Ns builtinsNs mb)
    (bltq : ∀ x : Str, x ≠ "__name__" → mb x = bootBuiltins x) (lim : t.heap.NoLimit) (gens : t.gens = #[])
    (ob : t.heap.get? a = some (scObj vs)) (hints : IntsAre vs ns)
    (size : ns.length ≤ sizeLine) (room : Room k callerA)
    (F : ∀ base : Heap, K.In base → base.Ns mainGlobals mg → FnG P w K mg base k fa fd [x] sp)
    (bind : ∀ (s : Shared) (u : Value), BindsTo s fd ⟨[u], []⟩ [(x, u)])
    (prm : ∀ H : Hp, Only H → SqL K H a (ns.map V.int) → sp [.ref a] H (fun v _ => v = .bl true) fun _ _ _ => False) :
    codeAny (model P w) callerA (.call (.ref fa) ⟨[.ref a], []⟩)
      (fun r s' => r = .ok (.ret (.bool true)) ∧ OldK t.heap s'.heap ∧ s'.os = t.os ∧ AllBare s'.gens) t := by
  generalize hT : scT K a vs ns = T
  have visK : K.In (hidT t.heap T) := fun b o e => hidT_get (inK b o e) (hT ▸ scT_own e)
  have visN : ∀ b m, t.heap.Ns b m → (hidT t.heap T).Ns b m := by
    rintro b m ⟨o, es, ep, e, d, r⟩
    refine ⟨o, es, ep, hidT_get e ?_, d, r⟩
    rw [← hT]
    apply scT_ne
    rintro rfl
    rw [← Option.some.inj (ob.symm.trans e)] at d
    exact Data.noConfusion d
  have held : HOk P w T t.heap := by
    intro b u e
    rw [← hT] at e
    obtain ⟨rfl, _, rfl⟩ := scT_some e
    exact ⟨ob, by rw [List.length_map]; exact size, vs, _, vals_ints hints, ob⟩
  have seq : SqL K T a (ns.map V.int) := by
    cases e : K.lookup a with
    | none => exact .inl (.inr ⟨scObj vs, hT ▸ if_pos ⟨rfl, e⟩⟩)
    | some o =>
      rw [← Option.some.inj (ob.symm.trans (inK a o e))] at e
      exact .inr ⟨_, vs.toArray, _, e, rfl, rfl, rfl, by rw [List.size_toArray, hints.length]; exact size, by simpa using vals_ints hints⟩
  have around : Env0 P w K mg (hidT t.heap T) callerA [] t T :=
    { frames := rfl
      mod := ⟨visK, visN _ _ glob, ⟨mb, visN _ _ blt, bltq⟩, lim.imp fun mc h => ⟨visN _ _ h.1, h.2⟩⟩
      bs := fun _ _ e => of_hidT e
      bsz := Nat.le_of_eq (hidT_size _ _)
      funs := trivial
      frf := fun _ hb => (List.not_mem_nil hb).elim
      hok := held
      bare := .of_eq gens }
  apply codeAny_mono ((F _ visK (visN _ _ glob)).run callerA [] t T ⟨[.ref a], []⟩ [.ref a] [.ref a] _ _ rfl room around (bind t (.ref a)) (.cons rfl .nil) (prm T (hT ▸ scT_only K a vs ns) seq))
  intro r s' h
  match r, h with
  | .error _, z => exact z.elim
  | .ok .next, z => exact z.elim
  | .ok .brk, z => exact z.elim
  | .ok .cont, z => exact z.elim
  | .ok (.ret u), ⟨v, H', os, bare, un, held', rel, q⟩ =>
    cases q
    cases (show u = Value.bool true from rel)
    refine ⟨rfl, .of_keep ?_, os, bare⟩
    intro b o e
    by_cases c : T b = none
    · exact un.keep b o e c List.not_mem_nil List.not_mem_nil
    · obtain ⟨y, hy⟩ := Option.ne_none_iff_exists'.mp c
      have z := scT_some (hT ▸ hy)
      have hy2 : T b = some (.frz (scObj vs) (.lst (ns.map V.int))) := z.2.2 ▸ hy
      have same : some o = some (scObj vs) := e.symm.trans (held b _ hy2).1
      exact same ▸ (held' b _ (un.frzs b _ _ hy2)).1
/-- the goal that the head leaves, from the promise of the law's def -/
theorem walk_ofG {l : PySem.W.OpenLaw} {n k : Nat} {q : Program} {loose : List Str}
    {XP : (Str → Option Value) → Heap → Prop} {YP : World → Heap → Prop} {d : DefRec} {K : Params → PySem.W.Frag}
    {sp : World → Sp} {x : Str} (hn : l.most = some n) (hn2 : n ≤ sizeLine) (hdf : d.params.defaults = [])
    (room : Room k callerA) (hY : ∀ (w : World) (h : Heap), YP w h → (K w.params).In h)
    (F : ∀ (w : World) (mg : Str → Option Value) (fa : Addr) (h : Heap), (K w.params).In h → h.Ns mainGlobals mg →
      mg d.name = some (.ref fa) → ∃ fd : FuncData, (∀ (s : Shared) (u : Value), BindsTo s fd ⟨[u], []⟩ [(x, u)]) ∧
        ∀ base : Heap, (K w.params).In base → base.Ns mainGlobals mg →
          FnG l.prog w (K w.params) mg base k fa fd [x] (sp w))
    (prm : ∀ (w : World) (H : Hp) (a : Addr) (ns : List Int), ns.length ≤ n → Only H →
      SqL (K w.params) H a (ns.map V.int) → sp w [.ref a] H (fun v _ => v = .bl true) fun _ _ _ => False) :
    PySem.W.WalkO q loose XP YP
      l.row.toRowW d [] (fun f vs => PySem.call f vs) :=
  Att.attach_call hn hdf fun w _ _ _ _ fa _ _ _ _ a _ ns G Y _ _ _ hmg hobj hints hlen hg =>
    have inK := hY w _ Y
    let ⟨_, hb, hF⟩ := F w _ fa _ inK G.T.g hmg
    law_callG inK G.T.g G.T.b G.T.builtins G.T.nolimit hg hobj hints (Nat.le_trans hlen hn2) room hF hb
      fun H hO hS => prm w H a ns hlen hO hS
end HL

namespace K11
open PySem PySem.Spec PyProof.Rows L2 HL TL
local macro_rules | `(tactic| walk_at "N") => `(tactic| first
  | with_reducible assumption
  | (apply Ne.symm; with_reducible assumption)
  | (refine' ne_of_none (H := ?H0) ?h1 ?h2; (case h2 => with_reducible assumption); (case h1 => walk_at "L"))
  | (apply Ne.symm; refine' ne_of_none (H := ?H0) ?h1 ?h2; (case h2 => with_reducible assumption); (case h1 => walk_at "L"))
  | fail "no")
local macro_rules | `(tactic| walk_at "M") => `(tactic| first
  | exact trivial
  | exact True.intro
  | (refine ⟨?_, ?_⟩; (walk_at "N"); (walk_at "M"))
  | fail "no")
local macro_rules | `(tactic| walk_at "L") => `(tactic| first
  | with_reducible assumption
  | with_reducible exact upd_same
  | ((with_reducible refine' (upd_ne ?n1).trans ?l1); (case n1 => walk_at "N"); (case l1 => walk_at "L"))
  | ((with_reducible refine' Kp.get ?k1 ?m1 ?l1); (case k1 => with_reducible assumption); (case l1 => walk_at "L"); (case m1 => walk_at "M"))
  | fail "no")
local macro_rules | `(tactic| walk_at "Q") => `(tactic| first
  | with_reducible assumption
  | ((with_reducible refine' sq_l ?e1); (case e1 => walk_at "L"))
  | ((with_reducible refine' sq_t ?e1); (case e1 => walk_at "L"))
  | ((with_reducible refine' Kp.seqL ?k1 ?m1 ?l1); (case k1 => with_reducible assumption); (case l1 => walk_at "Q"); (case m1 => walk_at "M"))
  | fail "no")
local macro_rules | `(tactic| walk_at "K") => `(tactic| first
  | with_reducible assumption
  | with_reducible exact Kp.refl
  | ((with_reducible refine' Kp.upd_mem ?k1 ?m1); (case m1 => simp only [List.mem_cons, true_or, or_true]); (case k1 => walk_at "K"))
  | ((with_reducible refine' Kp.upd_new ?k1 ?m1); (case m1 => with_reducible assumption); (case k1 => walk_at "K"))
  | ((with_reducible refine' Kp.upd_loc ?k1 ?m1); (case m1 => with_reducible assumption); (case k1 => walk_at "K"))
  | ((with_reducible refine' Kp.step ?k1 ?k2 ?m1); (case k2 => with_reducible assumption); (case m1 => (intro z hz; first | exact (List.not_mem_nil hz).elim | exact .inl hz | (simp only [List.mem_cons, List.not_mem_nil, or_false] at hz ⊢; first | (left; assumption) | (subst hz; first | (left; rfl) | (right; assumption))))); (case k1 => walk_at "K"))
  | fail "no")
local macro_rules | `(tactic| walk_at "C") => `(tactic| first | decide | assumption | omega | (show (0 : Int) < _; omega) | exact ⟨by decide, by decide⟩ | exact ⟨by omega, by omega⟩ | (left; exact ⟨by omega, by omega⟩) | (right; exact ⟨by omega, by omega⟩) | fail "no")
local macro_rules | `(tactic| walk_at "S1") => `(tactic| first
  | ((with_reducible refine' s_var ?h1 ?_); (case h1 => exact rfl))
  | with_reducible refine' s_c ?_
  | with_reducible refine' s_op ?_
  | with_reducible refine' s_un ?_
  | with_reducible refine' s_nil ?_
  | with_reducible refine' s_cons ?_
  | with_reducible refine' s_cb ?_
  | with_reducible refine' s_call ?_
  | with_reducible refine' s_test ?_
  | with_reducible refine' s_B ?_
  | with_reducible refine' s_and ?_
  | with_reducible refine' s_or ?_
  | with_reducible refine' s_not ?_
  | with_reducible refine' s_andV ?_
  | with_reducible refine' s_orV ?_
  | with_reducible refine' s_notV ?_
  | with_reducible refine' s_ifE ?_
  | with_reducible refine' s_chain ?_
  | with_reducible refine' s_tup ?_
  | with_reducible refine' s_lst ?_
  | with_reducible refine' s_sl ?_
  | with_reducible refine' s_noPart ?_
  | with_reducible refine' s_part ?_
  | with_reducible refine' s_fld ?_
  | with_reducible refine' s_bm ?_
  | with_reducible refine' s_bm0 ?_
  | with_reducible refine' s_m1 ?_
  | with_reducible refine' s_m0 ?_
  | with_reducible refine' s_seq ?_
  | with_reducible refine' s_next ?_
  | with_reducible refine' s_asg ?_
  | with_reducible refine' s_gname ?_
  | with_reducible refine' s_drop ?_
  | with_reducible refine' s_ret ?_
  | with_reducible refine' s_retN ?_
  | with_reducible refine' s_ifS ?_
  | with_reducible refine' s_gsub ?_
  | with_reducible refine' s_par ?_
  | with_reducible refine' s_bl ?_
  | with_reducible refine' s_iStr ?_
  | with_reducible refine' s_iList ?_
  | with_reducible refine' s_iTup ?_
  | with_reducible refine' s_iRng1 ?_
  | with_reducible refine' s_str ?_
  | with_reducible refine' s_ref ?_
  | with_reducible refine' s_yes ?_
  | with_reducible refine' s_for ?_
  | with_reducible refine' s_lc ?_
  | with_reducible refine' i_T ?_
  | with_reducible refine' i_F ?_
  | with_reducible refine' i_nT ?_
  | with_reducible refine' i_nF ?_
  | with_reducible refine' s_int ?_
  | with_reducible refine' s_ints2 ?_
  | with_reducible refine' s_ints1 ?_
  | with_reducible refine' s_strs1 ?_
  | with_reducible refine' s_vals2 ?_
  | with_reducible refine' s_vals3 ?_
  | ((with_reducible refine' s_gtup ?h1 ?l1 ?_); (case h1 => walk_at "Q"); (case l1 => exact rfl))
  | with_reducible refine' s_gcons ?_
  | with_reducible refine' s_gnil ?_
  | with_reducible refine' s_par3 ?_
  | with_reducible refine' s_ex ?_
  | with_reducible refine' s_I0 ?_
  | ((with_reducible refine' s_I ?c1 ?_); (case c1 => walk_at "C"))
  | ((with_reducible refine' s_eq ?h1 ?_); (case h1 => exact rfl))
  | ((with_reducible refine' s_ne ?h1 ?_); (case h1 => exact rfl))
  | ((with_reducible refine' s_ixL ?h1 ?a1 ?_); (case h1 => walk_at "Q"); (case a1 => exact rfl))
  | ((with_reducible refine' s_ixT ?h1 ?a1 ?_); (case h1 => walk_at "Q"); (case a1 => exact rfl))
  | ((with_reducible refine' s_setL ?h1 ?a1 ?_); (case h1 => walk_at "L"); (case a1 => exact rfl))
  | ((with_reducible refine' s_lenL ?h1 ?_); (case h1 => walk_at "Q"))
  | ((with_reducible refine' s_lenT ?h1 ?_); (case h1 => walk_at "Q"))
  | ((with_reducible refine' s_lenStr ?h1 ?_); (case h1 => assumption))
  | ((with_reducible refine' s_slL ?h1 ?_); (case h1 => walk_at "Q"))
  | ((with_reducible refine' s_slS ?h1 ?_); (case h1 => assumption))
  | with_reducible refine' s_U ?_
  | ((with_reducible refine' s_tyL ?h1 ?_); (case h1 => walk_at "L"))
  | with_reducible refine' s_inSg ?_
  | with_reducible refine' s_nn ?_
  | with_reducible refine' s_meth ?_
  | with_reducible refine' s_make ?_
  | with_reducible refine' s_dnew ?_
  | with_reducible refine' s_dget ?_
  | with_reducible refine' s_din ?_
  | with_reducible refine' s_dnotin ?_
  | with_reducible refine' s_dput ?_
  | with_reducible refine' s_dget1 ?_
  | with_reducible refine' s_sfld ?_
  | with_reducible refine' s_revL ?_
  | with_reducible refine' s_iZip3 ?_
  | with_reducible refine' s_iRng2 ?_
  | dsimp only
  | fail "no")
local macro_rules | `(tactic| walk_at "S") => `(tactic| repeat walk_at "S1")

def topS (i : Nat) : Stmt := PySem.Challenge.pw_halfmade_k11_names_and_paths.main.body.getD i (.Pass ⟨0, 0, 0, 0⟩)
abbrev s_l_at : Stmt := topS 10
abbrev N_l_at : List Str := ["_law_script", "_law_k"]
theorem sc_l_at : FnScope ["_law_script", "_law_k"] ["_law_script", "_law_k"] (defScope s_l_at) := ⟨rfl, rfl, rfl, by decide +kernel, rfl, by decide +kernel, by decide +kernel⟩
abbrev s_l_draw : Stmt := topS 12
abbrev N_l_draw : List Str := ["_law_pot_here", "_law_many", "_law_digit"]
theorem sc_l_draw : FnScope ["_law_pot_here", "_law_many", "_law_digit"] ["_law_pot_here", "_law_many"] (defScope s_l_draw) := ⟨rfl, rfl, rfl, by decide +kernel, rfl, by decide +kernel, by decide +kernel⟩
/-- what the top has: the names that are still the built-ins' own, the constants -/
structure Txt (mg : Str → Option Value) : Prop where
  n_len : mg "len" = none
  n_divmod : mg "divmod" = none
/-! the pot -/
abbrev Pot := Int × Int
def nb (b : Int) : Int := (b * 39373 + 7919) % 2147483629
def dV (s : Pot) (m : Int) : Int := if 0 < s.1 then s.1 % m else (nb s.2 * nb s.2) % 2147483587 / 7 % m
def dS (s : Pot) (m : Int) : Pot := if 0 < s.1 then (s.1 / m, s.2) else (s.1, nb s.2)
def PotAt (H : Hp) (p : Addr) (s : Pot) : Prop := H p = some (.lst [.int s.1, .int s.2])
def spDraw : Sp := fun vs H Q _ => ∃ (p : Addr) (s : Pot) (m : Int), vs = [.ref p, .int m] ∧ PotAt H p s ∧ 0 < m ∧ m < 1073741824 ∧
  ∀ H', Kp [p] H H' → PotAt H' p (dS s m) → Q (.int (dV s m)) H'
section
variable {P : Program} {w : World} {K : PySem.W.Frag} {mg : Str → Option Value} {base : Heap}
theorem ok_draw {f : Addr} {fd : FuncData} (F : Fun K "_law_draw" "_law_draw" s_l_draw f fd) (T : Txt mg) : FnOk P w K mg base CX0 1 f fd ["_law_pot_here", "_law_many"] spDraw := by
  refine F.ok sc_l_draw (fun vs H Q E h => ?_) (fun cdv A outer s H vs Q E hr h => ?_)
  · obtain ⟨p, s, m, rfl, _⟩ := h
    rfl
  · obtain ⟨p, ⟨a, b⟩, m, rfl, hp, m0, m1, k⟩ := h
    unfold PotAt at hp; dsimp only at hp
    refine ⟨_, (pss_cons (ps_if (pt_cmpR op_gt (pe_ix (ixLK (K := K) rfl) (pv 0) pe_int (fun _ _ => rfl)) pe_int (nomark _)) (pss_cons (ps_asg (pe_callB divmodR (by rfl) T.n_divmod (by decide +kernel) (pa_cons (pe_ix (ixLK (K := K) rfl) (pv 0) pe_int (fun _ _ => rfl)) (pa_cons (pv 1) pa_nil))) (kgT (K := K) rfl (pg_tup rfl (pgs_cons (pg_sub (pv 0) pe_int set_list) (pgs_cons (pg_name (i := 2) sc_l_draw.nd rfl (Or.inl rfl)) pgs_nil)))))
      (pss_one (ps_ret (pv 2)))) pss_nil)
      (pss_cons (ps_asg (pe_op op_mod (pe_op op_add (pe_op op_mul (pe_ix (ixLK (K := K) rfl) (pv 0) pe_int (fun _ _ => rfl)) pe_int) pe_int) pe_int) (pg_sub (pv 0) pe_int set_list))
      (pss_one (ps_ret (pe_op op_mod (pe_op op_fdiv (pe_op op_mod (pe_op op_mul (pe_ix (ixLK (K := K) rfl) (pv 0) pe_int (fun _ _ => rfl)) (pe_ix (ixLK (K := K) rfl) (pv 0) pe_int (fun _ _ => rfl))) pe_int) pe_int) (pv 1)))))), ?_⟩
    refine st_start (σ' := [some (.ref p), some (.int m), none]) rfl ?_
    walk_at "S"
    refine s_dec (fun h => ?_) (fun h => ?_)
    · walk_at "S"
      refine s_divmod ⟨m0, m1⟩ fun t ht => ?_
      walk_at "S"
      have e1 : dV (a, b) m = a % m := if_pos h
      have e2 : dS (a, b) m = (a / m, b) := if_pos h
      rw [e1, e2] at k
      exact k _ (by walk_at "K") upd_same
    · walk_at "S"
      have e1 : dV (a, b) m = (nb b * nb b) % 2147483587 / 7 % m := if_neg h
      have e2 : dS (a, b) m = (a, nb b) := if_neg h
      rw [e1, e2] at k
      exact k _ (by walk_at "K") upd_same
end

abbrev s_is_name : Stmt := topS 5
abbrev N_is_name : List Str := ["thing", "sign"]
theorem sc_is_name : FnScope ["thing", "sign"] ["thing"] (defScope s_is_name) := ⟨rfl, rfl, rfl, by decide +kernel, rfl, by decide +kernel, by decide +kernel⟩
structure Txt2 (mg : Str → Option Value) : Prop where
  n_len : mg "len" = none
  n_isinstance : mg "isinstance" = none
  n_str : mg "str" = none
  n_all : mg "all" = none
  c_MOST_LETTERS : ∃ t, mg "MOST_LETTERS" = some (.int 8 t)
  c_LETTERS : ∃ t, mg "LETTERS" = some (.str "abcdefghijklmnopqrstuvwxyz" t)
def isNameS (z : Str) : Bool := decide (1 ≤ z.length) && decide (z.length ≤ 8) && (tl z).all fun c => decide (c ∈ lets)
theorem isNameS_eq (z : Str) : isNameS z = isNameL (tl z) := by
  unfold isNameS isNameL
  rw [len_tl]
def spIsName (K : PySem.W.Frag) : Sp := fun vs H Q _ =>
  (∃ z : Str, vs = [.str z] ∧ z.length ≤ sizeLine ∧ ∀ H', Kp [] H H' → Q (.bl (isNameS z)) H') ∨
  (∃ (x : V) (t : String), vs = [x] ∧ TyX K H x (.type t) ∧ kitB t "str" = some false ∧ Q (.bl false) H)
section
variable {P : Program} {w : World} {K : PySem.W.Frag} {mg : Str → Option Value} {base : Heap}
theorem ok_is_name {f : Addr} {fd : FuncData} (F : Fun K "is_name" "is_name" s_is_name f fd) (T : Txt2 mg) : FnOk P w K mg base CX0 1 f fd ["thing"] (spIsName K) := by
  refine F.ok sc_is_name (fun vs H Q E h => ?_) (fun cdv A outer s H vs Q E hr h => ?_)
  · rcases h with ⟨z, rfl, _⟩ | ⟨x, t, rfl, _⟩ <;> rfl
  · obtain ⟨t_MOST_LETTERS, hc_MOST_LETTERS⟩ := T.c_MOST_LETTERS; obtain ⟨t_LETTERS, hc_LETTERS⟩ := T.c_LETTERS
    rcases h with ⟨z, rfl, hz, k⟩ | ⟨x, t, rfl, ht, hk, q⟩
    · refine ⟨_, (pss_cons (ps_if (PW.pt (pw_or (pt_not (pt_val (pe_callB (isiK (K := K) rfl) (by rfl) T.n_isinstance (by decide +kernel) (pa_cons (pv 0) (pa_cons (pe_bltn (v := .ty "str") (by rfl) T.n_str (by decide +kernel) rfl) pa_nil))))) (pw_or (pt_cmpR op_lt (pe_callB lenS (by rfl) T.n_len (by decide +kernel) (pa_cons (pv 0) pa_nil)) pe_int (nomark _)) (pw_or1 (pt_cmpR op_gt (pe_callB lenS (by rfl) T.n_len (by decide +kernel) (pa_cons (pv 0) pa_nil)) (pe_glob (v := .int 8) rfl hc_MOST_LETTERS ⟨_, rfl⟩) (nomark _)))))) (pss_one (ps_ret pe_bl)) pss_nil)
      (pss_one (ps_ret (pe_callB (allK (K := K) rfl rfl) (by rfl) T.n_all (by decide +kernel) (pa_cons (pe_lc (own := [("sign", 1)]) (g := gName 1) (tt := tYes) rfl sc_is_name.nd (pi_str (pv 0)) (blkOk_by (own := [("sign", 1)]) (N := N_is_name) (sc := (defScope s_is_name)) (by decide +kernel)) (fun _ _ _ _ _ => (pg_name (i := 1) sc_is_name.nd rfl (Or.inl rfl))) (fun _ _ _ _ _ => pts_nil) (fun _ _ _ _ _ => (pe_cmpR inSg (pv 1) (pe_glob (v := .str "abcdefghijklmnopqrstuvwxyz") rfl hc_LETTERS ⟨_, rfl⟩) rfl))) pa_nil))))), ?_⟩
      refine st_start (σ' := [some (.str z), none]) rfl ?_
      walk_at "S"
      refine isi_ty (.base (.str z)) (b := true) (by decide +kernel) ?_
      walk_at "S"
      refine s_dec (fun h1 => ?_) (fun h1 => ?_)
      · walk_at "S"
        have e : isNameS z = false := by
          unfold isNameS
          rw [decide_eq_false (by omega)]
          rfl
        rw [e] at k
        exact k _ Kp.refl
      walk_at "S"
      refine s_dec (fun h2 => ?_) (fun h2 => ?_)
      · walk_at "S"
        have e : isNameS z = false := by
          unfold isNameS
          rw [decide_eq_false (p := z.length ≤ 8) (by omega), Bool.and_false]
          rfl
        rw [e] at k
        exact k _ Kp.refl
      walk_at "S"
      intro D hD
      have L : LcOk D z.cps.size (fun i => (((tl z).map fun c => decide (c ∈ lets)).take i).map V.bl) [] H (fun _ _ => True) :=
        ⟨by have := hz; unfold Str.length at this; exact this, rfl, fun i hi => by rw [List.length_map, List.length_take]; omega, hD, trivial, fun _ _ _ h => h⟩
      refine lc_go walk_str L trivial (fun _ _ => trivial) (fun i x H2 H' hi I y => ?_) fun H2 I => ?_
      · obtain ⟨rfl, c, hc, rfl⟩ := y
        walk_at "S"
        refine ⟨rfl, ?_⟩
        walk_at "S"
        refine I.put L hi ?_ Kp.refl trivial
        have e1 : ((tl z).map fun c => decide (c ∈ lets))[i]? = some (decide (c ∈ lets)) := by
          rw [List.getElem?_map, show (tl z)[i]? = some c by simpa using hc]
          rfl
        show List.map V.bl (List.take (i + 1) _) = _
        rw [take_put e1, List.map_append]
        rfl
      · obtain ⟨p1, p2, _⟩ := I
        walk_at "S"
        refine s_all (sq_l p1) ?_
        have e : isNameS z = ((tl z).map fun c => decide (c ∈ lets)).all id := by
          unfold isNameS
          rw [decide_eq_true (p := 1 ≤ z.length) (by omega), decide_eq_true (p := z.length ≤ 8) (by omega), List.all_map]
          rfl
        rw [e] at k
        rw [List.take_of_length_le (by simp)]
        exact k _ p2
    · refine ⟨_, (pss_cons (ps_if (PW.pt (pw_or (pt_not (pt_val (pe_callB (isiK (K := K) rfl) (by rfl) T.n_isinstance (by decide +kernel) (pa_cons (pv 0) (pa_cons (pe_bltn (v := .ty "str") (by rfl) T.n_str (by decide +kernel) rfl) pa_nil))))) (pw_or (pt_cmpR op_lt (pe_callB lenS (by rfl) T.n_len (by decide +kernel) (pa_cons (pv 0) pa_nil)) pe_int (nomark _)) (pw_or1 (pt_cmpR op_gt (pe_callB lenS (by rfl) T.n_len (by decide +kernel) (pa_cons (pv 0) pa_nil)) (pe_glob (v := .int 8) rfl hc_MOST_LETTERS ⟨_, rfl⟩) (nomark _)))))) (pss_one (ps_ret pe_bl)) pss_nil)
      (pss_one (ps_ret (pe_callB (allK (K := K) rfl rfl) (by rfl) T.n_all (by decide +kernel) (pa_cons (pe_lc (own := [("sign", 1)]) (g := gName 1) (tt := tYes) rfl sc_is_name.nd (pi_str (pv 0)) (blkOk_by (own := [("sign", 1)]) (N := N_is_name) (sc := (defScope s_is_name)) (by decide +kernel)) (fun _ _ _ _ _ => (pg_name (i := 1) sc_is_name.nd rfl (Or.inl rfl))) (fun _ _ _ _ _ => pts_nil) (fun _ _ _ _ _ => (pe_cmpR inSg (pv 1) (pe_glob (v := .str "abcdefghijklmnopqrstuvwxyz") rfl hc_LETTERS ⟨_, rfl⟩) rfl))) pa_nil))))), ?_⟩
      refine st_start (σ' := [some x, none]) rfl ?_
      walk_at "S"
      refine isi_ty ht hk ?_
      walk_at "S"
      exact q
end

abbrev s_is_path : Stmt := topS 6
abbrev N_is_path : List Str := ["thing", "names", "name"]
theorem sc_is_path : FnScope ["thing", "names", "name"] ["thing"] (defScope s_is_path) := ⟨rfl, rfl, rfl, by decide +kernel, rfl, by decide +kernel, by decide +kernel⟩
abbrev s_beginnings : Stmt := topS 7
abbrev N_beginnings : List Str := ["path", "names", "k"]
theorem sc_beginnings : FnScope ["path", "names", "k"] ["path"] (defScope s_beginnings) := ⟨rfl, rfl, rfl, by decide +kernel, rfl, by decide +kernel, by decide +kernel⟩
abbrev s_parent : Stmt := topS 8
abbrev N_parent : List Str := ["path", "names"]
theorem sc_parent : FnScope ["path", "names"] ["path"] (defScope s_parent) := ⟨rfl, rfl, rfl, by decide +kernel, rfl, by decide +kernel, by decide +kernel⟩
structure Txt3 (mg : Str → Option Value) : Prop where
  n_len : mg "len" = none
  n_isinstance : mg "isinstance" = none
  n_str : mg "str" = none
  n_all : mg "all" = none
  n_range : mg "range" = none
  c_DOT : ∃ t, mg "DOT" = some (.str "." t)
  c_MOST_NAMES : ∃ t, mg "MOST_NAMES" = some (.int 4 t)
def spIsPath (K : PySem.W.Frag) : Sp := fun vs H Q _ =>
  (∃ z : Str, vs = [.str z] ∧ z.length ≤ 100000 ∧ ∀ H', Kp [] H H' → Q (.bl (isPathL (tl z))) H') ∨
  (∃ (x : V) (t : String), vs = [x] ∧ TyX K H x (.type t) ∧ kitB t "str" = some false ∧ Q (.bl false) H)
theorem small_le {n : Nat} (h : n ≤ 100010) : n ≤ sizeLine := Nat.le_trans h (by decide)
section
variable {P : Program} {w : World} {K : PySem.W.Frag} {mg : Str → Option Value} {base : Heap}
theorem ok_is_path {f : Addr} {fd : FuncData} (F : Fun K "is_path" "is_path" s_is_path f fd) (T : Txt3 mg)
    (D_is_name : DnF P w K mg base 1 "is_name" ["thing"] (spIsName K)) : FnOk P w K mg base CX0 2 f fd ["thing"] (spIsPath K) := by
  refine F.ok sc_is_path (fun vs H Q E h => ?_) (fun cdv A outer s H vs Q E hr h => ?_)
  · rcases h with ⟨z, rfl, _⟩ | ⟨x, t, rfl, _⟩ <;> rfl
  · obtain ⟨f_is_name, fd_is_name, G_is_name, m_is_name, k_is_name, b_is_name⟩ := D_is_name; obtain ⟨t_DOT, hc_DOT⟩ := T.c_DOT; obtain ⟨t_MOST_NAMES, hc_MOST_NAMES⟩ := T.c_MOST_NAMES
    rcases h with ⟨z, rfl, hz, k⟩ | ⟨x, t, rfl, ht, hk, q⟩
    · have hzl : (tl z).length ≤ 100000 := by rw [← len_tl]; exact hz
      have hwl := wds_length (tl z) []
      refine ⟨_, (pss_cons (ps_if (pt_not (pt_val (pe_callB (isiK (K := K) rfl) (by rfl) T.n_isinstance (by decide +kernel) (pa_cons (pv 0) (pa_cons (pe_bltn (v := .ty "str") (by rfl) T.n_str (by decide +kernel) rfl) pa_nil))))) (pss_one (ps_ret pe_bl)) pss_nil)
      (pss_cons (ps_set (i := 1) sc_is_path.nd rfl (Or.inl rfl) (pe_m1 PySem.F.slot_str_split PySem.F.type_str_split splitR (pv 0) (pe_glob (v := .str ".") rfl hc_DOT ⟨_, rfl⟩)))
      (pss_one (ps_ret (pe_and (pe_cmpR op_le (pe_callB (lenK (K := K) rfl) (by rfl) T.n_len (by decide +kernel) (pa_cons (pv 1) pa_nil)) (pe_glob (v := .int 4) rfl hc_MOST_NAMES ⟨_, rfl⟩) (nomark _)) (pe_one (pe_callB (allK (K := K) rfl rfl) (by rfl) T.n_all (by decide +kernel) (pa_cons (pe_lc (own := [("name", 2)]) (g := gName 2) (tt := tYes) rfl sc_is_path.nd (kiL (K := K) rfl (pi_list (pv 1))) (blkOk_by (own := [("name", 2)]) (N := N_is_path) (sc := (defScope s_is_path)) (by decide +kernel)) (fun _ _ _ _ _ => (pg_name (i := 2) sc_is_path.nd rfl (Or.inl rfl))) (fun _ _ _ _ _ => pts_nil) (fun _ _ _ _ _ => (pe_call G_is_name (hr.mono (by first | decide | omega)) (by rfl) m_is_name k_is_name b_is_name .nil pass0 (pa_cons (pv 2) pa_nil)))) pa_nil)))))))), ?_⟩
      refine st_start (σ' := [some (.str z), none, none]) rfl ?_
      walk_at "S"
      refine isi_ty (.base (.str z)) (b := true) (by decide +kernel) ?_
      walk_at "S"
      refine s_splitS (by decide +kernel) (small_le (by omega)) fun a ha => ?_
      rw [split_dot]
      walk_at "S"
      generalize hN : wds [] (tl z) = ws at *
      have el : (((ws.map mkS).map V.str).length : Int) = (ws.length : Int) := by simp
      rw [el]
      have ep : isPathL (tl z) = (decide ((ws.length : Int) ≤ 4) && ws.all isNameL) := by
        unfold isPathL
        rw [hN]
        congr 1
        exact decide_eq_decide.mpr (by omega)
      rw [ep] at k
      by_cases h4 : (ws.length : Int) ≤ 4
      · rw [decide_eq_true h4] at k ⊢
        walk_at "S"
        refine ⟨⟨_, sq_l upd_same⟩, fun D hD => ?_⟩
        have na : a ≠ D := ne_of_none upd_same hD
        have L : LcOk D ((ws.map mkS).map V.str).length (fun i => ((ws.map isNameL).map V.bl).take i) [] (upd H a (.lst ((ws.map mkS).map V.str))) (fun _ _ => True) :=
          .ofTake (by simp; exact small_le (by omega)) hD trivial (fun _ _ _ h => h)
        refine lc_go (walk_list (K := K) (a := a) (xs := (ws.map mkS).map V.str)) L trivial (fun H2 k2 => k2.seqL trivial (sq_l upd_same)) (fun i x H2 H' hi I y => ?_) fun H2 I => ?_
        · obtain ⟨rfl, hx⟩ := y
          rw [List.getElem?_map, List.getElem?_map] at hx
          obtain ⟨p, hp, rfl⟩ : ∃ p, ws[i]? = some p ∧ x = V.str (mkS p) := by
            cases e : ws[i]? with
            | none => rw [e] at hx; cases hx
            | some p => rw [e] at hx; exact ⟨p, rfl, (Option.some.inj hx).symm⟩
          walk_at "S"
          refine ⟨rfl, ?_⟩
          walk_at "S"
          refine .inl ⟨mkS p, rfl, ?_, fun H3 K3 => ?_⟩
          · have := wds_mem (tl z) [] p (by rw [hN]; exact List.mem_of_getElem? hp)
            rw [mkS_len]
            rw [List.length_nil] at this
            exact small_le (by omega)
          · rw [isNameS_eq, tl_mkS]
            refine I.put L hi (take_put ?_) K3 trivial
            rw [List.getElem?_map, List.getElem?_map, hp]
            rfl
        · obtain ⟨p1, p2, _⟩ := I
          walk_at "S"
          dsimp only at p1
          rw [List.take_of_length_le (by simp)] at p1
          refine s_all (bs := ws.map isNameL) (sq_l p1) ?_
          rw [List.all_map]
          exact k H2 (by walk_at "K")
      · rw [decide_eq_false h4] at k ⊢
        walk_at "S"
        exact k _ (Kp.refl.upd_new ha)
    · refine ⟨_, (pss_cons (ps_if (pt_not (pt_val (pe_callB (isiK (K := K) rfl) (by rfl) T.n_isinstance (by decide +kernel) (pa_cons (pv 0) (pa_cons (pe_bltn (v := .ty "str") (by rfl) T.n_str (by decide +kernel) rfl) pa_nil))))) (pss_one (ps_ret pe_bl)) pss_nil)
      (pss_cons (ps_set (i := 1) sc_is_path.nd rfl (Or.inl rfl) (pe_m1 PySem.F.slot_str_split PySem.F.type_str_split splitR (pv 0) (pe_glob (v := .str ".") rfl hc_DOT ⟨_, rfl⟩)))
      (pss_one (ps_ret (pe_and (pe_cmpR op_le (pe_callB (lenK (K := K) rfl) (by rfl) T.n_len (by decide +kernel) (pa_cons (pv 1) pa_nil)) (pe_glob (v := .int 4) rfl hc_MOST_NAMES ⟨_, rfl⟩) (nomark _)) (pe_one (pe_callB (allK (K := K) rfl rfl) (by rfl) T.n_all (by decide +kernel) (pa_cons (pe_lc (own := [("name", 2)]) (g := gName 2) (tt := tYes) rfl sc_is_path.nd (kiL (K := K) rfl (pi_list (pv 1))) (blkOk_by (own := [("name", 2)]) (N := N_is_path) (sc := (defScope s_is_path)) (by decide +kernel)) (fun _ _ _ _ _ => (pg_name (i := 2) sc_is_path.nd rfl (Or.inl rfl))) (fun _ _ _ _ _ => pts_nil) (fun _ _ _ _ _ => (pe_call G_is_name (hr.mono (by first | decide | omega)) (by rfl) m_is_name k_is_name b_is_name .nil pass0 (pa_cons (pv 2) pa_nil)))) pa_nil)))))))), ?_⟩
      refine st_start (σ' := [some x, none, none]) rfl ?_
      walk_at "S"
      refine isi_ty ht hk ?_
      walk_at "S"
      exact q
end

abbrev s_l_pot : Stmt := topS 11
abbrev N_l_pot : List Str := ["_law_script", "_law_k", "_law_cell"]
theorem sc_l_pot : FnScope ["_law_script", "_law_k", "_law_cell"] ["_law_script", "_law_k"] (defScope s_l_pot) := ⟨rfl, rfl, rfl, by decide +kernel, rfl, by decide +kernel, by decide +kernel⟩
/-- path.split('.') made texts again, k + 1 of them -/
def begL (l : List Nat) : List (List Nat) := (List.range (wds [] l).length).map fun k => joinL [46] ((wds [] l).take (k + 1))
def spBeg : Sp := fun vs H Q _ => ∃ z : Str, vs = [.str z] ∧ z.length ≤ 100000 ∧
  ∀ H' a, Kp [] H H' → H a = none → H' a = some (.lst (((begL (tl z)).map mkS).map V.str)) → Q (.ref a) H'
def parV (l : List Nat) : V := if (wds [] l).length = 1 then .non else .str (mkS (joinL [46] (wds [] l).dropLast))
def spPar : Sp := fun vs H Q _ => ∃ z : Str, vs = [.str z] ∧ z.length ≤ 100000 ∧ ∀ H', Kp [] H H' → Q (parV (tl z)) H'
theorem joins_fit {ws : List (List Nat)} {n : Nat} (h1 : (ws.map List.length).sum ≤ n) (h2 : ws.length ≤ n + 1) (hn : n ≤ 100000) (k : Nat) :
    (((ws.take k).map mkS).map (·.length)).sum + ((ws.take k).map mkS).length * ("." : Str).length ≤ 16777216 := by
  have e1 : (((ws.take k).map mkS).map (·.length)) = (ws.take k).map List.length := by
    rw [List.map_map]
    exact List.map_congr_left fun a _ => mkS_len a
  have e2 := sum_take_le List.length ws k
  rw [e1, List.length_map, List.length_take, show ("." : Str).length = 1 from by decide +kernel]
  omega
theorem cut_to (xs : List V) (k : Nat) : cutV xs none (some (k : Int)) = xs.take k := by
  unfold cutV
  rw [HT.sIx_none, HT.sIx_nat, List.drop_zero, Nat.sub_zero]
  exact List.take_eq_take_min.symm
theorem cut_neg1 (xs : List V) : cutV xs none (some (-1)) = xs.dropLast := by
  unfold cutV
  rw [HT.sIx_none, List.drop_zero, Nat.sub_zero, List.dropLast_eq_take]
  congr 1
  unfold HT.sIx
  simp
  omega
section
variable {P : Program} {w : World} {K : PySem.W.Frag} {mg : Str → Option Value} {base : Heap}
theorem ok_beginnings {f : Addr} {fd : FuncData} (F : Fun K "beginnings" "beginnings" s_beginnings f fd) (T : Txt3 mg) : FnOk P w K mg base CX0 1 f fd ["path"] spBeg := by
  refine F.ok sc_beginnings (fun vs H Q E h => ?_) (fun cdv A outer s H vs Q E hr h => ?_)
  · obtain ⟨z, rfl, _⟩ := h
    rfl
  · obtain ⟨t_DOT, hc_DOT⟩ := T.c_DOT
    obtain ⟨z, rfl, hz, k⟩ := h
    have hzl : (tl z).length ≤ 100000 := by rw [← len_tl]; exact hz
    have hwl := wds_length (tl z) []
    have hws := wds_sum (tl z) []
    refine ⟨_, (pss_cons (ps_set (i := 1) sc_beginnings.nd rfl (Or.inr rfl) (pe_m1 PySem.F.slot_str_split PySem.F.type_str_split splitR (pv 0) (pe_glob (v := .str ".") rfl hc_DOT ⟨_, rfl⟩)))
      (pss_one (ps_ret (pe_lc (own := [("k", 2)]) (g := gName 2) (tt := tYes) rfl sc_beginnings.nd (pi_range1 rfl T.n_range (pa_cons (pe_callB (lenK (K := K) rfl) (by rfl) T.n_len (by decide +kernel) (pa_cons (pv 1) pa_nil)) pa_nil)) (blkOk_by (own := [("k", 2)]) (N := N_beginnings) (sc := (defScope s_beginnings)) (by decide +kernel)) (fun _ _ _ _ _ => (pg_name (i := 2) sc_beginnings.nd rfl (Or.inl rfl))) (fun _ _ _ _ _ => pts_nil) (fun _ _ _ _ _ => (pe_m1 PySem.F.slot_str_join PySem.F.type_str_join (joinK (K := K) rfl) (pe_glob (v := .str ".") rfl hc_DOT ⟨_, rfl⟩) (pe_slice (slLK (K := K) rfl) (pv 1) po_none (po_some (pe_op op_add (pv 2) pe_int))))))))), ?_⟩
    refine st_start (σ' := [some (.str z), none, none]) rfl ?_
    walk_at "S"
    refine s_splitS (by decide +kernel) (small_le (by omega)) fun a ha => ?_
    rw [split_dot]
    walk_at "S"
    unfold begL at k
    generalize hN : wds [] (tl z) = ws at *
    have el : (((ws.map mkS).map V.str).length : Int) = (ws.length : Int) := by simp
    rw [el]
    refine ⟨by omega, by omega, fun D hD => ?_⟩
    have na : a ≠ D := ne_of_none upd_same hD
    have L : LcOk D ws.length (fun i => (((List.range ws.length).map fun k => joinL [46] (ws.take (k + 1))).map fun l => V.str (mkS l)).take i) [] (upd H a (.lst ((ws.map mkS).map V.str))) (fun _ _ => True) :=
      .ofTake (small_le (by omega)) hD trivial (fun _ _ _ h => h)
    rw [Int.toNat_natCast]
    refine lc_go walk_range L trivial (fun H2 k2 => trivial) (fun i x H2 H' hi I y => ?_) fun H2 I => ?_
    · obtain ⟨rfl, rfl⟩ := y
      obtain ⟨p1, p2, _⟩ := id I
      have ha2 : H' a = some (.lst ((ws.map mkS).map V.str)) := p2.get trivial upd_same
      walk_at "S"
      refine ⟨rfl, ?_⟩
      walk_at "S"
      intro c hc
      rw [show (0 : Int) + (i : Int) + 1 = ((i + 1 : Nat) : Int) from by omega, cut_to, ← List.map_take, ← List.map_take]
      walk_at "S"
      refine s_joinL (sq_l upd_same) (joins_fit (n := (tl z).length) (by simpa using hws) hwl hzl _) ?_
      rw [joinS]
      refine I.put L hi (take_put ?_) (Kp.refl.upd_new hc) trivial
      rw [List.getElem?_map, List.getElem?_map, List.getElem?_range hi]
      rfl
    · obtain ⟨p1, p2, _⟩ := I
      dsimp only at p1
      rw [List.take_of_length_le (by simp)] at p1
      refine k H2 D (by walk_at "K") (Kp.free (W := []) (Kp.refl.upd_new ha) trivial hD) ?_
      rw [p1]
      simp only [List.map_map]
      rfl
theorem ok_parent {f : Addr} {fd : FuncData} (F : Fun K "parent" "parent" s_parent f fd) (T : Txt3 mg) : FnOk P w K mg base CX0 1 f fd ["path"] spPar := by
  refine F.ok sc_parent (fun vs H Q E h => ?_) (fun cdv A outer s H vs Q E hr h => ?_)
  · obtain ⟨z, rfl, _⟩ := h
    rfl
  · obtain ⟨t_DOT, hc_DOT⟩ := T.c_DOT
    obtain ⟨z, rfl, hz, k⟩ := h
    have hzl : (tl z).length ≤ 100000 := by rw [← len_tl]; exact hz
    have hwl := wds_length (tl z) []
    have hws := wds_sum (tl z) []
    have hne := wds_ne (tl z) []
    refine ⟨_, (pss_cons (ps_set (i := 1) sc_parent.nd rfl (Or.inl rfl) (pe_m1 PySem.F.slot_str_split PySem.F.type_str_split splitR (pv 0) (pe_glob (v := .str ".") rfl hc_DOT ⟨_, rfl⟩)))
      (pss_cons (ps_if (pt_cmpR op_eq (pe_callB (lenK (K := K) rfl) (by rfl) T.n_len (by decide +kernel) (pa_cons (pv 1) pa_nil)) pe_int (nomark _)) (pss_one (ps_ret pe_non)) pss_nil)
      (pss_one (ps_ret (pe_m1 PySem.F.slot_str_join PySem.F.type_str_join (joinK (K := K) rfl) (pe_glob (v := .str ".") rfl hc_DOT ⟨_, rfl⟩) (pe_slice (slLK (K := K) rfl) (pv 1) po_none (po_some (pe_un un_neg pe_int)))))))), ?_⟩
    refine st_start (σ' := [some (.str z), none]) rfl ?_
    walk_at "S"
    refine s_splitS (by decide +kernel) (small_le (by omega)) fun a ha => ?_
    rw [split_dot]
    walk_at "S"
    unfold parV at k
    generalize hN : wds [] (tl z) = ws at *
    have el : (((ws.map mkS).map V.str).length : Int) = (ws.length : Int) := by simp
    rw [el]
    refine s_dec (fun h1 => ?_) (fun h1 => ?_)
    · have e1 : ws.length = 1 := by
        have := V.int.inj h1
        omega
      rw [if_pos e1] at k
      walk_at "S"
      exact k _ (Kp.refl.upd_new ha)
    · have e1 : ws.length ≠ 1 := fun e => h1 (by rw [e]; rfl)
      rw [if_neg e1] at k
      walk_at "S"
      intro c hc
      have e2 : cutV ((ws.map mkS).map V.str) none (some (-1)) = (ws.dropLast.map mkS).map V.str := by
        have hl : 0 < ws.length := List.length_pos_iff.mpr hne
        rw [cut_neg1, ← List.map_dropLast, ← List.map_dropLast]
      rw [e2]
      walk_at "S"
      have e3 : ws.dropLast = ws.take (ws.length - 1) := List.dropLast_eq_take
      refine s_joinL (sq_l upd_same) (by rw [e3]; exact joins_fit (n := (tl z).length) (by simpa using hws) hwl hzl _) ?_
      rw [joinS]
      exact k _ (by walk_at "K")
end

abbrev s_l_bent : Stmt := topS 13
abbrev N_l_bent : List Str := ["_law_pot_here", "_law_text_here", "_law_way", "_law_at_here", "_law_sign"]
theorem sc_l_bent : FnScope ["_law_pot_here", "_law_text_here", "_law_way", "_law_at_here", "_law_sign"] ["_law_pot_here", "_law_text_here", "_law_way"] (defScope s_l_bent) := ⟨rfl, rfl, rfl, by decide +kernel, rfl, by decide +kernel, by decide +kernel⟩
structure Txt4 (mg : Str → Option Value) : Prop where
  n_len : mg "len" = none
  n_max : mg "max" = none
def spAt (K : PySem.W.Frag) : Sp := fun vs H Q _ => ∃ (a : Addr) (ns : List Int) (k : Nat), vs = [.ref a, .int k] ∧ SqL K H a (ns.map V.int) ∧ Q (.int (ns.getD k 0)) H
def PotOk (H : Hp) (p : Addr) : Prop := ∃ s : Pot, PotAt H p s
def spPot (K : PySem.W.Frag) : Sp := fun vs H Q _ => ∃ (a : Addr) (ns : List Int) (k : Nat), vs = [.ref a, .int k] ∧ SqL K H a (ns.map V.int) ∧ k ≤ 1000 ∧
  ∀ H' p, Kp [] H H' → H p = none → PotOk H' p → Q (.ref p) H'
/-- a draw: some number below m -/
def spDrawW : Sp := fun vs H Q _ => ∃ (p : Addr) (m : Int), vs = [.ref p, .int m] ∧ PotOk H p ∧ 0 < m ∧ m < 1073741824 ∧
  ∀ H' v, Kp [p] H H' → PotOk H' p → 0 ≤ v → v < m → Q (.int v) H'
def spBent : Sp := fun vs H Q _ => ∃ (p : Addr) (z : Str) (wy : Int), vs = [.ref p, .str z, .int wy] ∧ PotOk H p ∧ z.length ≤ 1000 ∧ OkL (tl z) ∧
  ∀ H' (y : Str), Kp [p] H H' → PotOk H' p → y.length ≤ 2 * z.length + 1 → OkL (tl y) → Q (.str y) H'
theorem dV_bounds (s : Pot) {m : Int} (h : 0 < m) : 0 ≤ dV s m ∧ dV s m < m := by
  unfold dV
  split
  · exact ⟨Int.emod_nonneg _ (by omega), Int.emod_lt_of_pos _ h⟩
  · exact ⟨Int.emod_nonneg _ (by omega), Int.emod_lt_of_pos _ h⟩
theorem signs_ok : ∀ c ∈ ("az.. .AZ09_-\t\n" : Str).cps.toList, c < 1114112 := by decide +kernel
theorem signs_len : ("az.. .AZ09_-\t\n" : Str).cps.toList.length = 14 := by decide +kernel
section
variable {P : Program} {w : World} {K : PySem.W.Frag} {mg : Str → Option Value} {base : Heap}
theorem ok_drawW {k : Nat} {f : Addr} {fd : FuncData} {ps : List Str} (F : FnOk P w K mg base CX0 k f fd ps spDraw) : FnOk P w K mg base CX0 k f fd ps spDrawW :=
  F.imp fun vs H Q E h => by
    obtain ⟨p, m, rfl, ⟨s, hp⟩, m0, m1, q⟩ := h
    exact ⟨p, s, m, rfl, hp, m0, m1, fun H' k hp' => q H' _ k ⟨_, hp'⟩ (dV_bounds s m0).1 (dV_bounds s m0).2⟩
theorem ok_at {f : Addr} {fd : FuncData} (F : Fun K "_law_at" "_law_at" s_l_at f fd) (T : Txt4 mg) : FnOk P w K mg base CX0 1 f fd ["_law_script", "_law_k"] (spAt K) := by
  refine F.ok sc_l_at (fun vs H Q E h => ?_) (fun cdv A outer s H vs Q E hr h => ?_)
  · obtain ⟨a, ns, j, rfl, _⟩ := h
    rfl
  · obtain ⟨a, ns, j, rfl, hs, q⟩ := h
    refine ⟨_, (pss_one (ps_ret (pe_ifExp (pt_cmpR op_lt (pv 1) (pe_callB (lenK (K := K) rfl) (by rfl) T.n_len (by decide +kernel) (pa_cons (pv 0) pa_nil)) (nomark _)) (pe_ix (ixLK (K := K) rfl) (pv 0) (pv 1) (fun _ _ => rfl)) pe_int))), ?_⟩
    refine st_start (σ' := [some (.ref a), some (.int j)]) rfl ?_
    walk_at "S"
    rw [List.length_map]
    refine s_dec (fun h1 => ?_) (fun h1 => ?_)
    · walk_at "S"
      have hj : j < ns.length := by omega
      have e : (ns.map V.int)[j]? = some (.int (ns.getD j 0)) := by
        rw [List.getElem?_map, List.getD_eq_getElem?_getD, List.getElem?_eq_getElem hj]
        rfl
      exact s_ixL hs (atI_nat e) q
    · walk_at "S"
      have e : ns.getD j 0 = 0 := by
        rw [List.getD_eq_getElem?_getD, List.getElem?_eq_none (by omega)]
        rfl
      rw [e] at q
      exact q
theorem ok_pot {f : Addr} {fd : FuncData} (F : Fun K "_law_pot" "_law_pot" s_l_pot f fd) (T : Txt4 mg)
    (D_l_at : DnF P w K mg base 1 "_law_at" ["_law_script", "_law_k"] (spAt K)) : FnOk P w K mg base CX0 2 f fd ["_law_script", "_law_k"] (spPot K) := by
  refine F.ok sc_l_pot (fun vs H Q E h => ?_) (fun cdv A outer s H vs Q E hr h => ?_)
  · obtain ⟨a, ns, j, rfl, _⟩ := h
    rfl
  · obtain ⟨f_l_at, fd_l_at, G_l_at, m_l_at, k_l_at, b_l_at⟩ := D_l_at
    obtain ⟨a, ns, j, rfl, hs, hj, q⟩ := h
    refine ⟨_, (pss_cons (ps_set (i := 2) sc_l_pot.nd rfl (Or.inl rfl) (pe_call G_l_at (hr.mono (by first | decide | omega)) (by rfl) m_l_at k_l_at b_l_at .nil pass0 (pa_cons (pv 0) (pa_cons (pv 1) pa_nil))))
      (pss_one (ps_ret (pe_lst (pa_cons (pe_callB (call_max2 rfl) (by rfl) T.n_max (by decide +kernel) (pa_cons pe_int (pa_cons (pe_op op_sub (pv 2) (pe_op op_pow pe_int pe_int)) pa_nil))) (pa_cons (pe_op op_add (pe_op op_mod (pe_op op_pow (pe_op op_add (pe_op op_mod (pv 2) pe_int) (pe_op op_mul pe_int (pe_op op_add (pv 1) pe_int))) pe_int) pe_int) pe_int) pa_nil)))))), ?_⟩
    refine st_start (σ' := [some (.ref a), some (.int j), none]) rfl ?_
    walk_at "S"
    refine ⟨a, ns, j, rfl, hs, ?_⟩
    walk_at "S"
    exact ⟨small_le (by simp), fun p hp => q _ _ (Kp.refl.upd_new hp) hp ⟨(_, _), upd_same⟩⟩
theorem ok_bent {f : Addr} {fd : FuncData} (F : Fun K "_law_bent" "_law_bent" s_l_bent f fd) (T : Txt4 mg)
    (D_l_draw : DnF P w K mg base 1 "_law_draw" ["_law_pot_here", "_law_many"] spDrawW) : FnOk P w K mg base CX0 2 f fd ["_law_pot_here", "_law_text_here", "_law_way"] spBent := by
  refine F.ok sc_l_bent (fun vs H Q E h => ?_) (fun cdv A outer s H vs Q E hr h => ?_)
  · obtain ⟨p, z, wy, rfl, _⟩ := h
    rfl
  · obtain ⟨f_l_draw, fd_l_draw, G_l_draw, m_l_draw, k_l_draw, b_l_draw⟩ := D_l_draw
    obtain ⟨p, z, wy, rfl, hp, hz, ho, q⟩ := h
    have hz2 : z.length ≤ sizeLine := small_le (by omega)
    refine ⟨_, (pss_cons (ps_set (i := 3) sc_l_bent.nd rfl (Or.inl rfl) (pe_call G_l_draw (hr.mono (by first | decide | omega)) (by rfl) m_l_draw k_l_draw b_l_draw .nil pass0 (pa_cons (pv 0) (pa_cons (pe_op op_add (pe_callB lenS (by rfl) T.n_len (by decide +kernel) (pa_cons (pv 1) pa_nil)) pe_int) pa_nil))))
      (pss_cons (ps_set (i := 4) sc_l_bent.nd rfl (Or.inl rfl) (pe_ix ix_str pe_str (pe_call G_l_draw (hr.mono (by first | decide | omega)) (by rfl) m_l_draw k_l_draw b_l_draw .nil pass0 (pa_cons (pv 0) (pa_cons pe_int pa_nil))) (fun _ _ => rfl)))
      (pss_cons (ps_if (pt_cmpR op_eq (pv 2) pe_int (nomark _)) (pss_one (ps_ret (pe_op addS (pe_op addS (pe_slice sl_str (pv 1) po_none (po_some (pv 3))) (pv 4)) (pe_slice sl_str (pv 1) (po_some (pv 3)) po_none)))) pss_nil)
      (pss_cons (ps_if (pt_cmpR op_eq (pv 2) pe_int (nomark _)) (pss_one (ps_ret (pe_op addS (pe_op addS (pe_slice sl_str (pv 1) po_none (po_some (pv 3))) (pv 4)) (pe_slice sl_str (pv 1) (po_some (pe_op op_add (pv 3) pe_int)) po_none)))) pss_nil)
      (pss_one (ps_ret (pe_op addS (pe_slice sl_str (pv 1) po_none (po_some (pv 3))) (pe_slice sl_str (pv 1) (po_some (pe_op op_add (pv 3) pe_int)) po_none)))))))), ?_⟩
    refine st_start (σ' := [some (.ref p), some (.str z), some (.int wy), none, none]) rfl ?_
    walk_at "S"
    refine ⟨p, _, rfl, hp, by omega, by omega, fun H1 v1 k1 hp1 v0 v1m => ?_⟩
    walk_at "S"
    refine ⟨p, _, rfl, hp1, by omega, by omega, fun H2 v2 k2 hp2 w0 w1 => ?_⟩
    have k3 : Kp [p] H H2 := k1.step k2 (fun x hx => .inl hx)
    obtain ⟨c, hc⟩ : ∃ c, atI ("az.. .AZ09_-\t\n" : Str).cps.toList v2 = some c := by
      obtain ⟨n, rfl⟩ := Int.eq_ofNat_of_zero_le w0
      have hn : n < ("az.. .AZ09_-\t\n" : Str).cps.toList.length := by rw [signs_len]; omega
      exact ⟨_, atI_nat (List.getElem?_eq_getElem hn)⟩
    refine s_ixS (by decide +kernel) hc ?_
    walk_at "S"
    have o1 : (⟨#[c]⟩ : Str).length = 1 := rfl
    have oc : OkL (tl (⟨#[c]⟩ : Str)) := fun d hd => by
      rw [show d = c by simpa using hd]
      exact signs_ok c (atI_mem hc)
    have c1 := cutS_length z none (some v1)
    have c2 := cutS_length z (some v1) none
    have c3 := cutS_length z (some (v1 + 1)) none
    refine s_dec (fun h1 => ?_) (fun h1 => ?_)
    · walk_at "S"
      refine s_addS (small_le (by omega)) ?_
      walk_at "S"
      refine s_addS (small_le (by rw [strLen_append]; omega)) ?_
      exact q _ _ k3 hp2 (by rw [strLen_append, strLen_append]; omega) (by rw [tl_append, tl_append]; exact ((ho.cut _ _).app oc).app (ho.cut _ _))
    walk_at "S"
    refine s_dec (fun h2 => ?_) (fun h2 => ?_)
    · walk_at "S"
      refine s_addS (small_le (by omega)) ?_
      walk_at "S"
      refine s_addS (small_le (by rw [strLen_append]; omega)) ?_
      exact q _ _ k3 hp2 (by rw [strLen_append, strLen_append]; omega) (by rw [tl_append, tl_append]; exact ((ho.cut _ _).app oc).app (ho.cut _ _))
    · walk_at "S"
      refine s_addS (small_le (by omega)) ?_
      exact q _ _ k3 hp2 (by rw [strLen_append]; omega) (by rw [tl_append]; exact (ho.cut _ _).app (ho.cut _ _))
end

abbrev s_l_text : Stmt := topS 14
abbrev N_l_text : List Str := ["_law_pot_here", "_law_letters", "_law_way", "_law_odd", "_law_spot", "_law_lengths", "_law_words_here", "_law_text_here", "_law_k", "_law_length", "_law_j"]
theorem sc_l_text : FnScope ["_law_pot_here", "_law_letters", "_law_way", "_law_odd", "_law_spot", "_law_lengths", "_law_words_here", "_law_text_here", "_law_k", "_law_length", "_law_j"] ["_law_pot_here"] (defScope s_l_text) := ⟨rfl, rfl, rfl, by decide +kernel, rfl, by decide +kernel, by decide +kernel⟩
structure Txt5 (mg : Str → Option Value) : Prop where
  n_len : mg "len" = none
  n_range : mg "range" = none
def spText : Sp := fun vs H Q _ => ∃ p : Addr, vs = [.ref p] ∧ PotOk H p ∧
  ∀ H' (y : Str), Kp [p] H H' → PotOk H' p → y.length ≤ 1000 → OkL (tl y) → Q (.str y) H'
theorem PotOk.upd {H : Hp} {p D : Addr} {o : HO} (h : PotOk H p) (n : p ≠ D) : PotOk (upd H D o) p := by
  obtain ⟨s, e⟩ := h
  exact ⟨s, (upd_ne n).trans e⟩
theorem PotOk.ne {H : Hp} {p D : Addr} (h : PotOk H p) (n : H D = none) : p ≠ D := by
  obtain ⟨s, e⟩ := h
  exact ne_of_none e n
theorem lets_ok : ∀ c ∈ ("abcdefghijklmnopqrstuvwxyz" : Str).cps.toList, c < 1114112 := by decide +kernel
theorem lets_len : ("abcdefghijklmnopqrstuvwxyz" : Str).cps.toList.length = 26 := by decide +kernel
section
variable {P : Program} {w : World} {K : PySem.W.Frag} {mg : Str → Option Value} {base : Heap}
theorem ok_text {f : Addr} {fd : FuncData} (F : Fun K "_law_text" "_law_text" s_l_text f fd) (T : Txt5 mg)
    (D_l_draw : DnF P w K mg base 1 "_law_draw" ["_law_pot_here", "_law_many"] spDrawW)
    (D_l_bent : DnF P w K mg base 2 "_law_bent" ["_law_pot_here", "_law_text_here", "_law_way"] spBent) : FnOk P w K mg base CX0 3 f fd ["_law_pot_here"] spText := by
  refine F.ok sc_l_text (fun vs H Q E h => ?_) (fun cdv A outer s H vs Q E hr h => ?_)
  · obtain ⟨p, rfl, _⟩ := h
    rfl
  · obtain ⟨f_l_draw, fd_l_draw, G_l_draw, m_l_draw, k_l_draw, b_l_draw⟩ := D_l_draw; obtain ⟨f_l_bent, fd_l_bent, G_l_bent, m_l_bent, k_l_bent, b_l_bent⟩ := D_l_bent
    obtain ⟨p, rfl, hp, q⟩ := h
    refine ⟨_, (pss_cons (ps_set (i := 1) sc_l_text.nd rfl (Or.inr rfl) pe_str)
      (pss_cons (ps_par3 (i := 2) (j := 3) (l := 4) rfl sc_l_text.nd rfl rfl rfl (by decide) (by decide) (by decide) rfl rfl rfl (pa_cons (pe_call G_l_draw (hr.mono (by first | decide | omega)) (by rfl) m_l_draw k_l_draw b_l_draw .nil pass0 (pa_cons (pv 0) (pa_cons pe_int pa_nil))) (pa_cons (pe_call G_l_draw (hr.mono (by first | decide | omega)) (by rfl) m_l_draw k_l_draw b_l_draw .nil pass0 (pa_cons (pv 0) (pa_cons pe_int pa_nil))) (pa_cons (pe_call G_l_draw (hr.mono (by first | decide | omega)) (by rfl) m_l_draw k_l_draw b_l_draw .nil pass0 (pa_cons (pv 0) (pa_cons pe_int pa_nil))) pa_nil))) (by rfl))
      (pss_cons (ps_setLc (i := 5) (own := [("_law_k", 8)]) (g := gName 8) (tt := tYes) rfl sc_l_text.nd rfl rfl (sw_true rfl rfl rfl (by decide +kernel)) (pi_range1 rfl T.n_range (pa_cons (pe_op op_add pe_int (pe_call G_l_draw (hr.mono (by first | decide | omega)) (by rfl) m_l_draw k_l_draw b_l_draw .nil pass0 (pa_cons (pv 0) (pa_cons pe_int pa_nil)))) pa_nil)) (blkOk_by (own := [("_law_k", 8)]) (N := N_l_text) (sc := (defScope s_l_text)) (by decide +kernel)) (fun _ _ _ _ _ => (pg_name (i := 8) sc_l_text.nd rfl (Or.inl rfl))) (fun _ _ _ _ _ => pts_nil) (fun _ _ _ _ _ => (pe_op op_add pe_int (pe_call G_l_draw (hr.mono (by first | decide | omega)) (by rfl) m_l_draw k_l_draw b_l_draw .nil pass0 (pa_cons (pv 0) (pa_cons pe_int pa_nil))))))
      (pss_cut2 (ps_if (pt_cmpR op_eq (pv 3) pe_int (nomark _)) (pss_one (ps_asg (pe_op op_mul pe_int (pe_call G_l_draw (hr.mono (by first | decide | omega)) (by rfl) m_l_draw k_l_draw b_l_draw .nil pass0 (pa_cons (pv 0) (pa_cons pe_int pa_nil)))) (pg_sub (pv 5) (pe_op op_mod (pv 4) (pe_callB (lenK (K := K) rfl) (by rfl) T.n_len (by decide +kernel) (pa_cons (pv 5) pa_nil))) set_list))) pss_nil)
      (pss_cons (ps_setLc (i := 6) (own := [("_law_length", 9)]) (g := gName 9) (tt := tYes) rfl sc_l_text.nd rfl rfl (sw_true rfl rfl rfl (by decide +kernel)) (kiL (K := K) rfl (pi_list (pv 5))) (blkOk_by (own := [("_law_length", 9)]) (N := N_l_text) (sc := (defScope s_l_text)) (by decide +kernel)) (fun _ _ _ _ _ => (pg_name (i := 9) sc_l_text.nd rfl (Or.inl rfl))) (fun _ _ _ _ _ => pts_nil) (fun _ _ _ _ _ => (pe_m1 PySem.F.slot_str_join PySem.F.type_str_join (joinK (K := K) rfl) pe_str (pe_lc (own := [("_law_j", 10)]) (g := gName 10) (tt := tYes) rfl sc_l_text.nd (pi_range1 rfl T.n_range (pa_cons (pv 9) pa_nil)) (blkOk_by (own := [("_law_j", 10)]) (by kernel_rfl)) (fun _ _ _ _ _ => (pg_name (i := 10) sc_l_text.nd rfl (Or.inl rfl))) (fun _ _ _ _ _ => pts_nil) (fun _ _ _ _ _ => (pe_ix ix_str (pv 1) (pe_call G_l_draw (hr.mono (by first | decide | omega)) (by rfl) m_l_draw k_l_draw b_l_draw .nil pass0 (pa_cons (pv 0) (pa_cons pe_int pa_nil))) (fun _ _ => rfl)))))))
      (pss_cons (ps_set (i := 7) sc_l_text.nd rfl (Or.inl rfl) (pe_m1 PySem.F.slot_str_join PySem.F.type_str_join (joinK (K := K) rfl) pe_str (pv 6)))
      (pss_cons (ps_if (pt_cmpR op_lt (pv 2) pe_int (nomark _)) (pss_one (ps_ret (pe_call G_l_bent (hr.mono (by first | decide | omega)) (by rfl) m_l_bent k_l_bent b_l_bent .nil pass0 (pa_cons (pv 0) (pa_cons (pv 7) (pa_cons (pv 2) pa_nil)))))) pss_nil)
      (pss_one (ps_ret (pv 7)))))))))), ?_⟩
    refine st_start (σ' := [some (.ref p), none, none, none, none, none, none, none, none, none, none]) rfl ?_
    walk_at "S"
    refine ⟨p, _, rfl, hp, by omega, by omega, fun H1 v1 k1 hp1 a0 a1 => ?_⟩
    walk_at "S"
    refine ⟨p, _, rfl, hp1, by omega, by omega, fun H2 v2 k2 hp2 b0 b1 => ?_⟩
    walk_at "S"
    refine ⟨p, _, rfl, hp2, by omega, by omega, fun H3 v3 k3 hp3 c0 c1 => ?_⟩
    walk_at "S"
    refine ⟨p, _, rfl, hp3, by omega, by omega, fun H4 v4 k4 hp4 d0 d1 => ?_⟩
    have kk : Kp [p] H H4 := ((k1.step k2 fun x hx => .inl hx).step k3 fun x hx => .inl hx).step k4 fun x hx => .inl hx
    walk_at "S"
    refine ⟨by omega, by omega, fun l hl => ?_⟩
    have np : p ≠ l := hp4.ne hl
    let PL : Nat → List V → Prop := fun i xs => ∃ ns : List Int, xs = ns.map V.int ∧ (∀ n ∈ ns, 0 ≤ n ∧ n ≤ 9) ∧ ns.length = i
    have L : LcOkP l (1 + v4).toNat PL [p] H4 (fun _ H => PotOk H p) :=
      ⟨small_le (by omega), ⟨[], rfl, by simp, rfl⟩, hl, ⟨np.symm, trivial⟩, fun _ _ _ h => h.upd np⟩
    refine lc_goP walk_range L hp4 (fun _ _ => trivial) (fun i x Ha Hb hi I y => ?_) fun H5 I => ?_
    · obtain ⟨rfl, rfl⟩ := y
      obtain ⟨_, _, hpI⟩ := id I
      walk_at "S"
      refine ⟨rfl, ?_⟩
      walk_at "S"
      refine ⟨p, _, rfl, hpI, by omega, by omega, fun Hc v kc hpc e0 e1 => ?_⟩
      walk_at "S"
      refine I.put L hi (fun xs hx => ?_) kc hpc
      obtain ⟨ns, rfl, h1, h2⟩ := hx
      refine ⟨ns ++ [1 + v], by simp, fun n hn => ?_, by simp [h2]⟩
      rcases List.mem_append.mp hn with hn | hn
      · exact h1 n hn
      · rw [List.mem_singleton.mp hn]
        omega
    obtain ⟨⟨xs, x0, ⟨ns, rfl, hns, hnl⟩, _⟩, k5, hp5⟩ := I
    have kk5 : Kp [p] H H5 := kk.step k5 fun x hx => .inl hx
    have hlH : H l = none := kk.free ⟨np.symm, trivial⟩ hl
    have hl5 : (1 + v4).toNat ≤ 5 := by omega
    walk_at "S"
    refine s_cut (fun σ H6 => ∃ ms : List Int, σ = [some (.ref p), some (.str "abcdefghijklmnopqrstuvwxyz"), some (.int v1), some (.int v2), some (.int v3), some (.ref l), none, none, none, none, none] ∧
      Kp [p] H H6 ∧ PotOk H6 p ∧ H6 l = some (.lst (ms.map V.int)) ∧ (∀ n ∈ ms, 0 ≤ n ∧ n ≤ 9) ∧ ms.length ≤ 5) (fun J hJ => ?_) ?_
    · walk_at "S"
      refine s_dec (fun h7 => ?_) (fun h7 => ?_)
      · walk_at "S"
        refine ⟨p, _, rfl, hp5, by omega, by omega, fun H6 v k6 hp6 e0 e1 => ?_⟩
        walk_at "S"
        have hn0 : 0 < ns.length := by omega
        rw [List.length_map]
        refine s_I (by omega) ?_
        have m0 := Int.emod_nonneg v3 (show (ns.length : Int) ≠ 0 by omega)
        have m1 := Int.emod_lt_of_pos v3 (show (0 : Int) < (ns.length : Int) by omega)
        obtain ⟨j, hj⟩ := Int.eq_ofNat_of_zero_le m0
        rw [hj] at m1 ⊢
        have x6 : H6 l = some (.lst (ns.map V.int)) := k6.get ⟨np.symm, trivial⟩ x0
        refine s_setL x6 (j := j) ?_ ?_
        · unfold ixN
          rw [if_pos (by omega), if_pos (by rw [List.length_map]; exact m1)]
          rfl
        refine hJ _ _ ⟨ns.set j (9 * v), rfl, (kk5.step k6 fun x hx => .inl hx).upd_loc hlH, hp6.upd np, by rw [upd_same, List.map_set], fun n hn => ?_, by rw [List.length_set]; omega⟩
        rcases List.mem_or_eq_of_mem_set hn with hn | rfl
        · exact hns n hn
        · omega
      · walk_at "S"
        exact hJ _ _ ⟨ns, rfl, kk5, hp5, x0, hns, by omega⟩
    · rintro σ H6 ⟨ms, rfl, k6, hp6, x6, hms, hml⟩
      walk_at "S"
      refine ⟨⟨_, sq_l x6⟩, fun D hD => ?_⟩
      have npD : p ≠ D := hp6.ne hD
      let PL2 : Nat → List V → Prop := fun i xs => ∃ ys : List Str, xs = ys.map V.str ∧ (∀ y ∈ ys, y.length ≤ 9) ∧ (∀ y ∈ ys, OkL (tl y)) ∧ ys.length = i
      have L2 : LcOkP D (ms.map V.int).length PL2 [p] H6 (fun _ H => PotOk H p) :=
        ⟨small_le (by rw [List.length_map]; omega), ⟨[], rfl, by simp, by simp, rfl⟩, hD, ⟨npD.symm, trivial⟩, fun _ _ _ h => h.upd npD⟩
      refine lc_goP (walk_list (K := K) (a := l) (xs := ms.map V.int)) L2 hp6 (fun H k => sq_l (k.get ⟨np.symm, trivial⟩ x6)) (fun i x Ha Hb hi I y => ?_) fun H7 I => ?_
      · obtain ⟨rfl, hx⟩ := y
        obtain ⟨_, _, hpI⟩ := id I
        rw [List.getElem?_map] at hx
        obtain ⟨n, hn, rfl⟩ : ∃ n, ms[i]? = some n ∧ x = V.int n := by
          cases e : ms[i]? with
          | none => rw [e] at hx; cases hx
          | some n => rw [e] at hx; exact ⟨n, rfl, (Option.some.inj hx).symm⟩
        have hnb := hms n (List.mem_of_getElem? hn)
        walk_at "S"
        refine ⟨rfl, ?_⟩
        walk_at "S"
        refine ⟨by omega, by omega, fun D2 hD2 => ?_⟩
        have npD2 : p ≠ D2 := hpI.ne hD2
        let PL3 : Nat → List V → Prop := fun i xs => ∃ ys : List Str, xs = ys.map V.str ∧ (∀ y ∈ ys, y.length ≤ 1) ∧ (∀ y ∈ ys, OkL (tl y)) ∧ ys.length = i
        have L3 : LcOkP D2 n.toNat PL3 [p] Hb (fun _ H => PotOk H p) :=
          ⟨small_le (by omega), ⟨[], rfl, by simp, by simp, rfl⟩, hD2, ⟨npD2.symm, trivial⟩, fun _ _ _ h => h.upd npD2⟩
        refine lc_goP walk_range L3 hpI (fun _ _ => trivial) (fun i2 x2 Hc Hd hi2 I2 y2 => ?_) fun H8 I2 => ?_
        · obtain ⟨rfl, rfl⟩ := y2
          obtain ⟨_, _, hpI2⟩ := id I2
          walk_at "S"
          refine ⟨rfl, ?_⟩
          walk_at "S"
          refine ⟨p, _, rfl, hpI2, by omega, by omega, fun He v kc hpc e0 e1 => ?_⟩
          obtain ⟨c, hc⟩ : ∃ c, atI ("abcdefghijklmnopqrstuvwxyz" : Str).cps.toList v = some c := by
            obtain ⟨k, rfl⟩ := Int.eq_ofNat_of_zero_le e0
            have hk : k < ("abcdefghijklmnopqrstuvwxyz" : Str).cps.toList.length := by rw [lets_len]; omega
            exact ⟨_, atI_nat (List.getElem?_eq_getElem hk)⟩
          refine s_ixS (by decide +kernel) hc ?_
          refine I2.put L3 hi2 (fun xs hx => ?_) kc hpc
          obtain ⟨ys, rfl, h1, ho, h2⟩ := hx
          refine ⟨ys ++ [⟨#[c]⟩], by simp, fun z hz => ?_, fun z hz => ?_, by simp [h2]⟩
          · rcases List.mem_append.mp hz with hz | hz
            · exact h1 z hz
            · rw [List.mem_singleton.mp hz]
              exact Nat.le_refl 1
          · rcases List.mem_append.mp hz with hz | hz
            · exact ho z hz
            · rw [List.mem_singleton.mp hz]
              intro d hd
              rw [show d = c by simpa using hd]
              exact lets_ok c (atI_mem hc)
        · obtain ⟨⟨_, y0, ⟨ys, rfl, h1, ho, h2⟩, _⟩, k8, hp8⟩ := I2
          have s1 := sum_le_of h1
          have s2 := join_len "" ys
          rw [show ("" : Str).length = 0 from by decide +kernel] at s2
          refine s_joinL (sq_l y0) (by rw [show ("" : Str).length = 0 from by decide +kernel]; omega) ?_
          refine I.put L2 hi (fun xs hx => ?_) k8 hp8
          obtain ⟨zs, rfl, g1, go, g2⟩ := hx
          refine ⟨zs ++ [Txt.join "" ys], by simp, fun z hz => ?_, fun z hz => ?_, by simp [g2]⟩
          · rcases List.mem_append.mp hz with hz | hz
            · exact g1 z hz
            · rw [List.mem_singleton.mp hz]
              omega
          · rcases List.mem_append.mp hz with hz | hz
            · exact go z hz
            · rw [List.mem_singleton.mp hz]
              exact OkL.join (by unfold OkL; decide +kernel) ho
      · obtain ⟨⟨_, y0, ⟨ys, rfl, h1, ho, h2⟩, _⟩, k7, hp7⟩ := I
        have oj : OkL (tl (Txt.join "." ys)) := OkL.join (by unfold OkL; decide +kernel) ho
        have kk7 : Kp [p] H H7 := k6.step k7 fun x hx => .inl hx
        have s1 := sum_le_of h1
        have s2 := join_len "." ys
        rw [show ("." : Str).length = 1 from by decide +kernel] at s2
        rw [List.length_map] at h2
        have hb : (Txt.join "." ys).length ≤ 100 := by omega
        walk_at "S"
        refine s_joinL (sq_l y0) (by rw [show ("." : Str).length = 1 from by decide +kernel]; omega) ?_
        walk_at "S"
        refine s_dec (fun h3 => ?_) (fun h3 => ?_)
        · walk_at "S"
          refine ⟨p, _, v1, rfl, hp7, by omega, oj, fun H9 y k9 hp9 hy oy => ?_⟩
          exact q _ _ (kk7.step k9 fun x hx => .inl hx) hp9 (by omega) oy
        · walk_at "S"
          exact q _ _ kk7 hp7 (by omega) oj
end

abbrev s_l_words : Stmt := topS 15
abbrev N_l_words : List Str := ["_law_text_here", "_law_words_here", "_law_sign"]
theorem sc_l_words : FnScope ["_law_text_here", "_law_words_here", "_law_sign"] ["_law_text_here"] (defScope s_l_words) := ⟨rfl, rfl, rfl, by decide +kernel, rfl, by decide +kernel, by decide +kernel⟩
abbrev s_l_is_word : Stmt := topS 16
abbrev N_l_is_word : List Str := ["_law_word", "_law_good", "_law_sign"]
theorem sc_l_is_word : FnScope ["_law_word", "_law_good", "_law_sign"] ["_law_word"] (defScope s_l_is_word) := ⟨rfl, rfl, rfl, by decide +kernel, rfl, by decide +kernel, by decide +kernel⟩
structure Txt6 (mg : Str → Option Value) : Prop where
  n_len : mg "len" = none
abbrev sv (l : List Nat) : V := .str (mkS l)
def spWords : Sp := fun vs H Q _ => ∃ z : Str, vs = [.str z] ∧ z.length ≤ 100000 ∧
  ∀ H' a, Kp [] H H' → H a = none → H' a = some (.lst ((wds [] (tl z)).map sv)) → Q (.ref a) H'
def spIsWord : Sp := fun vs H Q _ => ∃ l : List Nat, vs = [sv l] ∧ l.length ≤ 100010 ∧ Q (.bl (isNameL l)) H
theorem dot_eq : ("." : Str) = ⟨#[46]⟩ := by decide +kernel
theorem sign_dot (c : Nat) : (V.str ⟨#[c]⟩ = V.str ".") ↔ c = 46 := by
  rw [dot_eq]
  constructor
  · intro h
    have := congrArg (fun s : Str => s.cps.toList) (V.str.inj h)
    simpa using this
  · rintro rfl
    rfl
theorem wst_cons (l : List Nat) (i : Nat) {c : Nat} (h : l[i]? = some c) (s : List (List Nat) × List Nat) : (l.take (i + 1)).foldl wst s = wst ((l.take i).foldl wst s) c := by
  rw [take_put h, List.foldl_append]
  rfl
def good (l : List Nat) : Int := ((l.filter fun c => decide (c ∈ lets)).length : Int)
theorem count_let (c : Nat) : Txt.count "abcdefghijklmnopqrstuvwxyz" ⟨#[c]⟩ = if c ∈ lets then 1 else 0 := by
  rw [count_cnt]
  have key : ∀ l : List Nat, l.Nodup → cnt c l = if c ∈ l then 1 else 0 := by
    intro l
    induction l with
    | nil => intro _; rfl
    | cons a r ih =>
      intro hn
      obtain ⟨h1, h2⟩ := List.nodup_cons.mp hn
      rw [cnt_cons, ih h2]
      by_cases e : a = c
      · subst e
        simp [h1]
      · have e2 : ¬ c = a := fun q => e q.symm
        simp [e, e2]
  exact key _ (by decide +kernel)
theorem good_name (l : List Nat) : (decide (good l = (l.length : Int)) && (decide (0 < good l) && decide (good l < 9))) = isNameL l := by
  unfold isNameL good
  by_cases h : l.all (fun c => decide (c ∈ lets)) = true
  · have e : l.filter (fun c => decide (c ∈ lets)) = l := List.filter_eq_self.mpr (by simpa using h)
    rw [e, h, Bool.and_true]
    by_cases h1 : 1 ≤ l.length
    · by_cases h2 : l.length ≤ 8
      · rw [decide_eq_true (p := (l.length : Int) = l.length) rfl, decide_eq_true (p := (0 : Int) < l.length) (by omega), decide_eq_true (p := (l.length : Int) < 9) (by omega), decide_eq_true h1, decide_eq_true h2]
        rfl
      · rw [decide_eq_false (p := (l.length : Int) < 9) (by omega), decide_eq_false h2, Bool.and_false, Bool.and_false, Bool.and_false]
    · rw [decide_eq_false (p := (0 : Int) < l.length) (by omega), decide_eq_false h1]
      simp
  · have e : (l.filter fun c => decide (c ∈ lets)).length ≠ l.length := fun e => h (by
      have := List.length_filter_eq_length_iff.mp e
      simpa using this)
    rw [Bool.eq_false_iff.mpr h, Bool.and_false, decide_eq_false (by omega)]
    rfl
theorem small_lt {n : Nat} (h : n ≤ 100010) : n < sizeLine := Nat.lt_of_le_of_lt h (by decide)
section
variable {P : Program} {w : World} {K : PySem.W.Frag} {mg : Str → Option Value} {base : Heap}
theorem ok_words {f : Addr} {fd : FuncData} (F : Fun K "_law_words" "_law_words" s_l_words f fd) : FnOk P w K mg base CX0 1 f fd ["_law_text_here"] spWords := by
  refine F.ok sc_l_words (fun vs H Q E h => ?_) (fun cdv A outer s H vs Q E hr h => ?_)
  · obtain ⟨z, rfl, _⟩ := h
    rfl
  · obtain ⟨z, rfl, hz, q⟩ := h
    have hzl : (tl z).length ≤ 100000 := by rw [← len_tl]; exact hz
    refine ⟨_, (pss_cons (ps_set (i := 1) sc_l_words.nd rfl (Or.inl rfl) (pe_lst (pa_cons pe_str pa_nil)))
      (pss_cons (ps_for PassesOwn.never rfl (pi_str (pv 0)) (pg_name (i := 2) sc_l_words.nd rfl (Or.inl rfl)) (pss_one (ps_if (pt_cmpR op_eq (pv 2) pe_str (nomark _)) (pss_one (ps_expr (kBM (K := K) rfl (pe_bm PySem.F.plainAttrs_list PySem.F.slot_list_append PySem.F.type_list_append mt_append (pv 1) (pa_cons pe_str pa_nil))))) (pss_one (ps_asg (pe_op addS (pe_ix (ixLK (K := K) rfl) (pv 1) (pe_un un_neg pe_int) (fun _ _ => rfl)) (pv 2)) (pg_sub (pv 1) (pe_un un_neg pe_int) set_list))))))
      (pss_one (ps_ret (pv 1))))), ?_⟩
    refine st_start (σ' := [some (.str z), none, none]) rfl ?_
    walk_at "S"
    refine ⟨small_le (by simp), fun l hl => ?_⟩
    walk_at "S"
    let st : Nat → List (List Nat) × List Nat := fun i => ((tl z).take i).foldl wst ([], [])
    have run : ∀ i, (st i).1 ++ [(st i).2] = wds [] ((tl z).take i) := fun i => by
      have := wst_run ((tl z).take i) [] []
      simpa using this
    refine for_go walk_str (fun i σ H2 => (∃ v, σ = [some (.str z), some (.ref l), v]) ∧ Kp [] H H2 ∧ H2 l = some (.lst (((st i).1 ++ [(st i).2]).map sv))) ⟨⟨_, rfl⟩, Kp.refl.upd_new hl, upd_same⟩ (fun _ _ _ _ _ => trivial) (fun i x σ Ha Hb hi I y => ?_) fun σ H2 I => ?_
    · obtain ⟨rfl, c, hc, rfl⟩ := y
      obtain ⟨⟨v, rfl⟩, k1, h1⟩ := I
      have hc2 : (tl z)[i]? = some c := by simpa using hc
      have hi2 : i < (tl z).length := (List.getElem?_eq_some_iff.mp hc2).1
      have e1 : st (i + 1) = wst (st i) c := wst_cons _ _ hc2 _
      have lw : ((st i).1 ++ [(st i).2]).length ≤ i + 1 := by
        rw [run]
        have := wds_length ((tl z).take i) []
        rw [List.length_take] at this
        omega
      have ll : (st i).2.length ≤ i := by
        have := wds_mem ((tl z).take i) [] (st i).2 (by rw [← run]; simp)
        rw [List.length_take, List.length_nil] at this
        omega
      walk_at "S"
      refine s_dec (fun h => ?_) (fun h => ?_)
      · have h46 := (sign_dot c).mp h
        walk_at "S"
        refine s_append h1 (by rw [List.length_map]; exact small_lt (by omega)) ?_
        refine ⟨⟨_, rfl⟩, k1.upd_loc hl, ?_⟩
        rw [upd_same, e1]
        simp [wst, h46]
        decide +kernel
      · have h46 : c ≠ 46 := fun e => h ((sign_dot c).mpr e)
        walk_at "S"
        have ea : atI (((st i).1 ++ [(st i).2]).map sv) (-1) = some (sv (st i).2) := by
          rw [List.map_append, List.map_singleton]
          exact atI_last _ _
        refine s_ixL (sq_l h1) ea ?_
        walk_at "S"
        have o1 : (⟨#[c]⟩ : Str).length = 1 := rfl
        refine s_addS (small_le (by rw [mkS_len]; omega)) ?_
        walk_at "S"
        have ei : ixN (((st i).1 ++ [(st i).2]).map sv).length (-1) = some (st i).1.length := by
          unfold ixN
          rw [if_neg (by omega), List.length_map, List.length_append, List.length_singleton, if_pos (by omega)]
          congr 1
          omega
        refine s_setL h1 ei ?_
        refine ⟨⟨_, rfl⟩, k1.upd_loc hl, ?_⟩
        rw [upd_same, e1]
        have e2 : mkS (st i).2 ++ (⟨#[c]⟩ : Str) = mkS ((st i).2 ++ [c]) := mkS_app _ [c]
        rw [e2]
        simp [wst, h46]
    · obtain ⟨⟨v, rfl⟩, k1, h1⟩ := I
      walk_at "S"
      refine q _ _ k1 hl ?_
      rw [h1, run, List.take_of_length_le (by simp)]
end

abbrev s_l_are_dues : Stmt := topS 17
abbrev N_l_are_dues : List Str := ["_law_text_here", "_law_words_here", "_law_good", "_law_word"]
theorem sc_l_are_dues : FnScope ["_law_text_here", "_law_words_here", "_law_good", "_law_word"] ["_law_text_here"] (defScope s_l_are_dues) := ⟨rfl, rfl, rfl, by decide +kernel, rfl, by decide +kernel, by decide +kernel⟩
abbrev s_l_beginnings : Stmt := topS 18
abbrev N_l_beginnings : List Str := ["_law_words_here", "_law_found", "_law_word"]
theorem sc_l_beginnings : FnScope ["_law_words_here", "_law_found", "_law_word"] ["_law_words_here"] (defScope s_l_beginnings) := ⟨rfl, rfl, rfl, by decide +kernel, rfl, by decide +kernel, by decide +kernel⟩
theorem good_cons (l : List Nat) (i : Nat) {c : Nat} (h : l[i]? = some c) : good (l.take (i + 1)) = good (l.take i) + (if c ∈ lets then 1 else 0) := by
  unfold good
  rw [take_put h, List.filter_append, List.length_append]
  by_cases e : c ∈ lets
  · simp [e]
  · simp [e]
/-- what is due of a text: whether it is a name, whether a path -/
def due1 (ws : List (List Nat)) : Bool := decide ((ws.length : Int) = 1) && ws.all isNameL
def due2 (ws : List (List Nat)) : Bool := decide ((ws.length : Int) < 5) && ws.all isNameL
def spDues : Sp := fun vs H Q _ => ∃ z : Str, vs = [.str z] ∧ z.length ≤ 100000 ∧ OkL (tl z) ∧
  ∀ H' a, Kp [] H H' → H a = none → H' a = some (.tup [.bl (due1 (wds [] (tl z))), .bl (due2 (wds [] (tl z)))]) → Q (.ref a) H'
def begW (ws : List (List Nat)) : List (List Nat) := (List.range ws.length).map fun k => joinL [46] (ws.take (k + 1))
def spLBeg (K : PySem.W.Frag) : Sp := fun vs H Q _ => ∃ (a : Addr) (ws : List (List Nat)), vs = [.ref a] ∧ SqL K H a (ws.map sv) ∧ ws ≠ [] ∧ (ws.map List.length).sum + ws.length ≤ 100005 ∧
  ∀ H' a, Kp [] H H' → H a = none → H' a = some (.lst ((begW ws).map sv)) → Q (.ref a) H'
theorem sv_inj : ∀ {a b : List (List Nat)}, a.map mkS = b.map mkS → a = b
  | [], [], _ => rfl
  | [], _ :: _, h => by simp at h
  | _ :: _, [], h => by simp at h
  | x :: r, y :: s, h => by
    simp only [List.map_cons, List.cons.injEq] at h
    rw [mkS_inj h.1, sv_inj h.2]
theorem filter_all (ws : List (List Nat)) : decide ((ws.filter isNameL).map mkS = ws.map mkS) = ws.all isNameL := by
  by_cases h : ws.all isNameL = true
  · rw [h, List.filter_eq_self.mpr (by simpa using h)]
    simp
  · have e : (ws.filter isNameL).map mkS ≠ ws.map mkS := fun e => h (by
      have := List.filter_eq_self.mp (sv_inj e)
      simpa using this)
    rw [decide_eq_false e, Bool.eq_false_iff.mpr h]
theorem dp_sv {K : PySem.W.Frag} {H : Hp} {a : Addr} {ws : List (List Nat)} (h : H a = some (.lst (ws.map sv))) : Dp K H (.ref a) (.list ((ws.map mkS).map PyData.str)) :=
  .lst (sq_l h) (by have := dpAll_strs (K := K) (H := H) (ws.map mkS); rw [List.map_map] at this; exact this)
section
variable {P : Program} {w : World} {K : PySem.W.Frag} {mg : Str → Option Value} {base : Heap}
theorem ok_is_word {f : Addr} {fd : FuncData} (F : Fun K "_law_is_word" "_law_is_word" s_l_is_word f fd) (T : Txt6 mg) : FnOk P w K mg base CX0 1 f fd ["_law_word"] spIsWord := by
  refine F.ok sc_l_is_word (fun vs H Q E h => ?_) (fun cdv A outer s H vs Q E hr h => ?_)
  · obtain ⟨l, rfl, _⟩ := h
    rfl
  · obtain ⟨l, rfl, hl, q⟩ := h
    have hz : (mkS l).length ≤ sizeLine := by rw [mkS_len]; exact small_le hl
    refine ⟨_, (pss_cons (ps_set (i := 1) sc_l_is_word.nd rfl (Or.inl rfl) pe_int)
      (pss_cons (ps_for PassesOwn.never rfl (pi_str (pv 0)) (pg_name (i := 2) sc_l_is_word.nd rfl (Or.inl rfl)) (pss_one (ps_set (i := 1) sc_l_is_word.nd rfl (Or.inl rfl) (pe_op op_add (pv 1) (pe_m1 PySem.F.slot_str_count PySem.F.type_str_count mt_count pe_str (pv 2))))))
      (pss_one (ps_ret (pe_and (pe_cmpR op_eq (pv 1) (pe_callB lenS (by rfl) T.n_len (by decide +kernel) (pa_cons (pv 0) pa_nil)) (nomark _)) (pe_one (pe_chain op_lt op_lt pe_int (pv 1) pe_int))))))), ?_⟩
    refine st_start (σ' := [some (sv l), none, none]) rfl ?_
    walk_at "S"
    refine for_go (walk_str (z := mkS l)) (fun i σ H2 => (∃ v, σ = [some (sv l), some (.int (good (l.take i))), v]) ∧ H2 = H) ⟨⟨_, rfl⟩, rfl⟩ (fun _ _ _ _ _ => trivial) (fun i x σ Ha Hb hi I y => ?_) fun σ H2 I => ?_
    · obtain ⟨rfl, c, hc, rfl⟩ := y
      obtain ⟨⟨v, rfl⟩, rfl⟩ := I
      have hc2 : l[i]? = some c := by simpa [mkS] using hc
      walk_at "S"
      refine ⟨_, _, rfl, rfl, ?_⟩
      rw [count_let]
      walk_at "S"
      rw [← good_cons _ _ hc2]
      exact ⟨⟨_, rfl⟩, rfl⟩
    · obtain ⟨⟨v, rfl⟩, rfl⟩ := I
      have e : l.take (mkS l).cps.size = l := List.take_of_length_le (by simp [mkS])
      rw [e]
      rw [← good_name] at q
      walk_at "S"
      rw [show (V.int ((mkS l).length : Int)) = V.int (l.length : Int) by rw [mkS_len]]
      refine s_dec (fun h1 => ?_) (fun h1 => ?_)
      · rw [decide_eq_true (V.int.inj h1), Bool.true_and] at q
        walk_at "S"
        refine s_dec (fun h2 => ?_) (fun h2 => ?_)
        · rw [decide_eq_true h2, Bool.true_and] at q
          walk_at "S"
          exact q
        · rw [decide_eq_false h2, Bool.false_and] at q
          exact q
      · rw [decide_eq_false (fun e => h1 (by rw [e])), Bool.false_and] at q
        exact q
theorem ok_dues {f : Addr} {fd : FuncData} (F : Fun K "_law_are_dues" "_law_are_dues" s_l_are_dues f fd) (T : Txt6 mg)
    (D_l_words : DnF P w K mg base 1 "_law_words" ["_law_text_here"] spWords) (D_l_is_word : DnF P w K mg base 1 "_law_is_word" ["_law_word"] spIsWord) : FnOk P w K mg base CX0 2 f fd ["_law_text_here"] spDues := by
  refine F.ok sc_l_are_dues (fun vs H Q E h => ?_) (fun cdv A outer s H vs Q E hr h => ?_)
  · obtain ⟨z, rfl, _⟩ := h
    rfl
  · obtain ⟨f_l_words, fd_l_words, G_l_words, m_l_words, k_l_words, b_l_words⟩ := D_l_words; obtain ⟨f_l_is_word, fd_l_is_word, G_l_is_word, m_l_is_word, k_l_is_word, b_l_is_word⟩ := D_l_is_word
    obtain ⟨z, rfl, hz, ho, q⟩ := h
    have how := ho.wds
    have hzl : (tl z).length ≤ 100000 := by rw [← len_tl]; exact hz
    have hwl := wds_length (tl z) []
    refine ⟨_, (pss_cons (ps_set (i := 1) sc_l_are_dues.nd rfl (Or.inl rfl) (pe_call G_l_words (hr.mono (by first | decide | omega)) (by rfl) m_l_words k_l_words b_l_words .nil pass0 (pa_cons (pv 0) pa_nil)))
      (pss_cons (ps_setLc (i := 2) (own := [("_law_word", 3)]) (g := gName 3) rfl sc_l_are_dues.nd rfl rfl (sw_true rfl rfl rfl (by decide +kernel)) (kiL (K := K) rfl (pi_list (pv 1))) (blkOk_by (own := [("_law_word", 3)]) (N := N_l_are_dues) (sc := (defScope s_l_are_dues)) (by decide +kernel)) (fun _ _ _ _ _ => (pg_name (i := 3) sc_l_are_dues.nd rfl (Or.inl rfl))) (fun _ _ _ _ _ => (pts_one (pt_val (pe_call G_l_is_word (hr.mono (by first | decide | omega)) (by rfl) m_l_is_word k_l_is_word b_l_is_word .nil pass0 (pa_cons (pv 3) pa_nil))))) (fun _ _ _ _ _ => (pv 3)))
      (pss_one (ps_ret (pe_tup (pa_cons (pe_and (pe_cmpR op_eq (pe_callB (lenK (K := K) rfl) (by rfl) T.n_len (by decide +kernel) (pa_cons (pv 1) pa_nil)) pe_int (nomark _)) (pe_one (pe_cmpR (eqDK (K := K) rfl hr.units) (pv 2) (pv 1) (nomark _)))) (pa_cons (pe_and (pe_cmpR op_lt (pe_callB (lenK (K := K) rfl) (by rfl) T.n_len (by decide +kernel) (pa_cons (pv 1) pa_nil)) pe_int (nomark _)) (pe_one (pe_cmpR (eqDK (K := K) rfl hr.units) (pv 2) (pv 1) (nomark _)))) pa_nil))))))), ?_⟩
    refine st_start (σ' := [some (.str z), none, none, none]) rfl ?_
    walk_at "S"
    refine ⟨z, rfl, hz, fun H1 a k1 na h1 => ?_⟩
    have hwm : ∀ p ∈ wds [] (tl z), p.length ≤ 100010 := fun p hp => by
      have := wds_mem (tl z) [] p hp
      rw [List.length_nil] at this
      omega
    generalize wds [] (tl z) = ws at *
    walk_at "S"
    refine ⟨⟨_, sq_l h1⟩, fun D hD => ?_⟩
    have naD : a ≠ D := ne_of_none h1 hD
    have L : LcOk D (ws.map sv).length (fun i => ((ws.take i).filter isNameL).map sv) [] H1 (fun _ _ => True) :=
      ⟨small_le (by rw [List.length_map]; omega), by simp, fun i hi => by
        rw [List.length_map]
        have := List.length_filter_le isNameL (ws.take i)
        rw [List.length_take] at this
        omega, hD, trivial, fun _ _ _ h => h⟩
    refine lc_go (walk_list (K := K) (a := a) (xs := ws.map sv)) L trivial (fun H2 k2 => k2.seqL trivial (sq_l h1)) (fun i x Ha Hb hi I y => ?_) fun H2 I => ?_
    · obtain ⟨rfl, hx⟩ := y
      rw [List.getElem?_map] at hx
      obtain ⟨p, hp, rfl⟩ : ∃ p, ws[i]? = some p ∧ x = sv p := by
        cases e : ws[i]? with
        | none => rw [e] at hx; cases hx
        | some p => rw [e] at hx; exact ⟨p, rfl, (Option.some.inj hx).symm⟩
      walk_at "S"
      refine ⟨rfl, ?_⟩
      walk_at "S"
      refine ⟨p, rfl, hwm p (List.mem_of_getElem? hp), ?_⟩
      have ef : (ws.take (i + 1)).filter isNameL = (ws.take i).filter isNameL ++ (if isNameL p = true then [p] else []) := by
        rw [take_put hp, List.filter_append]
        by_cases hb : isNameL p = true
        · simp [hb]
        · simp [hb]
      walk_at "S"
      refine s_bool (fun hb => ?_) (fun hb => ?_)
      · walk_at "S"
        refine I.put L hi ?_ Kp.refl trivial
        rw [ef, if_pos hb, List.map_append]
        rfl
      · refine I.skip L ?_ Kp.refl trivial
        rw [ef, hb, if_neg Bool.false_ne_true, List.append_nil]
    · obtain ⟨p1, p2, _⟩ := I
      dsimp only at p1
      rw [List.take_of_length_le (by simp)] at p1
      have h2 : H2 a = some (.lst (ws.map sv)) := p2.get trivial h1
      have dg := dp_sv (K := K) p1
      have dw := dp_sv (K := K) h2
      have s1 := shaped_strs (xs := (ws.filter isNameL).map mkS) (fun x hx => by
        obtain ⟨p, hp, rfl⟩ := List.mem_map.mp hx
        exact (how p (List.mem_filter.mp hp).1).str)
      have s2 := shaped_strs (xs := ws.map mkS) (fun x hx => by
        obtain ⟨p, hp, rfl⟩ := List.mem_map.mp hx
        exact (how p hp).str)
      have kk : Kp [] H H2 := k1.step p2 fun x hx => .inl hx
      have ee : PyData.eqv (.list (((ws.filter isNameL).map mkS).map PyData.str)) (.list ((ws.map mkS).map PyData.str)) = ws.all isNameL := by
        rw [PyData.eqv, eqvAll_strs, filter_all]
      have end2 : ∀ b : Bool, b = due1 ws → tCons
        (tAndV (tOp (rI0 fun i j => V.bl (decide (i < j))) (tCB (rLen K) (tCons (tVar 1) tNil)) (tC (V.int 5)))
          (tOp (rEqD K) (tVar 2) (tVar 1)))
        tNil [some (V.str z), some (V.ref a), some (V.ref D), none] H2 (fun xs H2 =>
        (V.bl b :: xs).length ≤ sizeLine ∧ ∀ (p : Addr), H2 p = none → Q (V.ref p) (upd H2 p (HO.tup (V.bl b :: xs)))) := fun b hb => by
        subst hb
        walk_at "S"
        rw [List.length_map]
        refine s_dec (fun h5 => ?_) (fun h5 => ?_)
        · walk_at "S"
          refine s_eqD dg dw s1 s2 ?_
          rw [ee]
          walk_at "S"
          refine ⟨small_le (by simp), fun t ht => q _ _ (kk.upd_new ht) (kk.free trivial ht) ?_⟩
          rw [upd_same]
          unfold due2
          rw [decide_eq_true h5, Bool.true_and]
        · walk_at "S"
          refine ⟨small_le (by simp), fun t ht => q _ _ (kk.upd_new ht) (kk.free trivial ht) ?_⟩
          rw [upd_same]
          unfold due2
          rw [decide_eq_false h5, Bool.false_and]
      walk_at "S"
      rw [List.length_map]
      refine s_dec (fun h1 => ?_) (fun h1 => ?_)
      · walk_at "S"
        refine s_eqD dg dw s1 s2 ?_
        rw [ee]
        refine end2 _ ?_
        unfold due1
        rw [decide_eq_true (V.int.inj h1), Bool.true_and]
      · refine end2 _ ?_
        unfold due1
        rw [decide_eq_false (fun e => h1 (by rw [e])), Bool.false_and]
end

theorem joinL_snoc (S q : List Nat) : ∀ ps : List (List Nat), ps ≠ [] → joinL S (ps ++ [q]) = joinL S ps ++ S ++ q
  | [], h => absurd rfl h
  | [p], _ => by simp [joinL]
  | p :: r :: s, _ => by
    have ih := joinL_snoc S q (r :: s) (by simp)
    have e1 : joinL S (p :: r :: s ++ [q]) = p ++ (S ++ joinL S (r :: s ++ [q])) := rfl
    have e2 : joinL S (p :: r :: s) = p ++ (S ++ joinL S (r :: s)) := rfl
    rw [e1, e2, ih]
    simp
theorem cut_from1 (xs : List V) : cutV xs (some 1) none = xs.drop 1 := by
  unfold cutV
  rw [show HT.sIx xs.length 0 (some 1) = min 1 xs.length from HT.sIx_nat xs.length 0 1, HT.sIx_none]
  cases xs with
  | nil => rfl
  | cons x r =>
    have e : min 1 (x :: r).length = 1 := by
      rw [List.length_cons]
      omega
    rw [e]
    exact List.take_of_length_le (by simp)
theorem begW_take (ws : List (List Nat)) (i : Nat) (hi : i < ws.length) : (begW ws).take (i + 1) = (begW ws).take i ++ [joinL [46] (ws.take (i + 1))] := by
  apply take_put
  unfold begW
  rw [List.getElem?_map, List.getElem?_range hi]
  rfl
theorem mem_sum_le {x : Nat} : ∀ {l : List Nat}, x ∈ l → x ≤ l.sum
  | a :: r, h => by
    rw [List.sum_cons]
    rcases List.mem_cons.mp h with rfl | h
    · omega
    · have := mem_sum_le h
      omega
theorem begW_len (ws : List (List Nat)) : (begW ws).length = ws.length := by
  unfold begW
  simp
section
variable {P : Program} {w : World} {K : PySem.W.Frag} {mg : Str → Option Value} {base : Heap}
theorem ok_lbeg {f : Addr} {fd : FuncData} (F : Fun K "_law_beginnings" "_law_beginnings" s_l_beginnings f fd) : FnOk P w K mg base CX0 1 f fd ["_law_words_here"] (spLBeg K) := by
  refine F.ok sc_l_beginnings (fun vs H Q E h => ?_) (fun cdv A outer s H vs Q E hr h => ?_)
  · obtain ⟨a, ws, rfl, _⟩ := h
    rfl
  · obtain ⟨a, ws, rfl, ha, hne, hsz, q⟩ := h
    obtain ⟨w0, wr, rfl⟩ : ∃ w0 wr, ws = w0 :: wr := by
      cases ws with
      | nil => exact absurd rfl hne
      | cons x r => exact ⟨x, r, rfl⟩
    have hl : (w0 :: wr).length ≤ 100005 := by omega
    refine ⟨_, (pss_cons (ps_set (i := 1) sc_l_beginnings.nd rfl (Or.inl rfl) (pe_lst (pa_cons (pe_ix (ixLK (K := K) rfl) (pv 0) pe_int (fun _ _ => rfl)) pa_nil)))
      (pss_cons (ps_for PassesOwn.never rfl (kiL (K := K) rfl (pi_list (pe_slice (slLK (K := K) rfl) (pv 0) (po_some pe_int) po_none))) (pg_name (i := 2) sc_l_beginnings.nd rfl (Or.inl rfl)) (pss_one (ps_expr (kBM (K := K) rfl (pe_bm PySem.F.plainAttrs_list PySem.F.slot_list_append PySem.F.type_list_append mt_append (pv 1) (pa_cons (pe_op addS (pe_op addS (pe_ix (ixLK (K := K) rfl) (pv 1) (pe_un un_neg pe_int) (fun _ _ => rfl)) pe_str) (pv 2)) pa_nil))))))
      (pss_one (ps_ret (pv 1))))), ?_⟩
    refine st_start (σ' := [some (.ref a), none, none]) rfl ?_
    walk_at "S"
    refine s_ixL ha (atI_nat (j := 0) (v := sv w0) rfl) ?_
    walk_at "S"
    refine ⟨small_le (by simp), fun l nl => ?_⟩
    walk_at "S"
    have k0 : Kp [] H (upd H l (.lst [sv w0])) := Kp.refl.upd_new nl
    refine s_slL (k0.seqL trivial ha) fun c nc => ?_
    rw [cut_from1]
    have nlc : l ≠ c := ne_of_none upd_same nc
    have k1 : Kp [] H (upd (upd H l (.lst [sv w0])) c (.lst (((w0 :: wr).map sv).drop 1))) := k0.upd_new nc
    walk_at "S"
    refine ⟨⟨_, sq_l upd_same⟩, ?_⟩
    refine for_go (walk_list (K := K) (a := c) (xs := wr.map sv)) (fun i σ H2 => (∃ v, σ = [some (.ref a), some (.ref l), v]) ∧ Kp [] H H2 ∧ H2 c = some (.lst (wr.map sv)) ∧ H2 l = some (.lst (((begW (w0 :: wr)).take (i + 1)).map sv)))
      ⟨⟨_, rfl⟩, k1, by rw [upd_same]; rfl, ?_⟩ (fun i σ H2 hi I => sq_l I.2.2.1) (fun i x σ Ha Hb hi I y => ?_) fun σ H2 I => ?_
    · rw [upd_ne nlc, upd_same]
      rw [begW_take _ 0 (by simp)]
      rfl
    · obtain ⟨rfl, hx⟩ := y
      obtain ⟨⟨v, rfl⟩, k2, h2, h3⟩ := I
      rw [List.getElem?_map] at hx
      obtain ⟨p, hp, rfl⟩ : ∃ p, wr[i]? = some p ∧ x = sv p := by
        cases e : wr[i]? with
        | none => rw [e] at hx; cases hx
        | some p => rw [e] at hx; exact ⟨p, rfl, (Option.some.inj hx).symm⟩
      rw [List.length_map] at hi
      have hi1 : i < (w0 :: wr).length := by rw [List.length_cons]; omega
      have hi2 : i + 1 < (w0 :: wr).length := by rw [List.length_cons]; omega
      have lm : ∀ m, (joinL [46] ((w0 :: wr).take m)).length ≤ 100005 := fun m => by
        have g1 := joinL_len [46] ((w0 :: wr).take m)
        have g2 := sum_take_le List.length (w0 :: wr) m
        have g3 : ((w0 :: wr).take m).length ≤ (w0 :: wr).length := by rw [List.length_take]; omega
        simp only [List.length_singleton, Nat.mul_one] at g1
        omega
      have hpl : p.length ≤ 100005 := by
        have g := List.mem_of_getElem? hp
        have g2 : p.length ≤ ((w0 :: wr).map List.length).sum := by
          have : p.length ∈ (w0 :: wr).map List.length := List.mem_map_of_mem (List.mem_cons_of_mem _ g)
          exact mem_sum_le this
        omega
      walk_at "S"
      have ea : atI (((begW (w0 :: wr)).take (i + 1)).map sv) (-1) = some (sv (joinL [46] ((w0 :: wr).take (i + 1)))) := by
        rw [begW_take _ i hi1, List.map_append]
        exact atI_last _ _
      refine s_ixL (sq_l h3) ea ?_
      walk_at "S"
      have o1 : ("." : Str).length = 1 := by decide +kernel
      refine s_addS (Nat.le_trans (m := 100006) (by rw [mkS_len, o1]; have := lm (i + 1); omega) (by decide)) ?_
      walk_at "S"
      refine s_addS (Nat.le_trans (m := 300000) (by rw [strLen_append, mkS_len, o1, mkS_len]; have := lm (i + 1); omega) (by decide)) ?_
      walk_at "S"
      refine s_append h3 (Nat.lt_of_le_of_lt (m := 100006) (by rw [List.length_map, List.length_take]; omega) (by decide)) ?_
      refine ⟨⟨_, rfl⟩, k2.upd_loc nl, by rw [upd_ne nlc.symm]; exact h2, ?_⟩
      rw [upd_same, begW_take _ (i + 1) hi2, List.map_append]
      have ej : mkS (joinL [46] ((w0 :: wr).take (i + 1))) ++ ("." : Str) ++ mkS p = mkS (joinL [46] ((w0 :: wr).take (i + 1 + 1))) := by
        rw [take_put (i := i + 1) (x := p) (by rw [List.getElem?_cons_succ]; exact hp), joinL_snoc _ _ _ (by simp), dot_eq]
        exact ext_tl (by rw [tl_append, tl_append, tl_mkS, tl_mkS, tl_mkS])
      rw [ej]
      rfl
    · obtain ⟨⟨v, rfl⟩, k2, h2, h3⟩ := I
      walk_at "S"
      refine q _ _ k2 nl ?_
      rw [h3, List.take_of_length_le (by rw [begW_len]; simp)]
end

abbrev s_l_right : Stmt := topS 19
abbrev N_l_right : List Str := ["_law_text_here", "_law_due", "_law_ways", "_law_turn", "_law_said", "_law_above"]
theorem sc_l_right : FnScope ["_law_text_here", "_law_due", "_law_ways", "_law_turn", "_law_said", "_law_above"] ["_law_text_here"] (defScope s_l_right) := ⟨rfl, rfl, rfl, by decide +kernel, rfl, by decide +kernel, by decide +kernel⟩
structure Txt7 (mg : Str → Option Value) : Prop where
  n_len : mg "len" = none
  n_repr : mg "repr" = none
  n_range : mg "range" = none
  n_isinstance : mg "isinstance" = none
  n_list : mg "list" = none
def spRight : Sp := fun vs H Q _ => ∃ z : Str, vs = [.str z] ∧ z.length ≤ 1000 ∧ OkL (tl z) ∧ ∀ H', Kp [] H H' → Q (.bl true) H'
theorem due1_name (l : List Nat) : due1 (wds [] l) = isNameL l := by
  unfold due1
  rw [name_words]
  congr 1
  exact decide_eq_decide.mpr (by omega)
theorem due2_path (l : List Nat) : due2 (wds [] l) = isPathL l := by
  unfold due2 isPathL
  congr 1
  exact decide_eq_decide.mpr (by omega)
theorem begL_W (l : List Nat) : begL l = begW (wds [] l) := rfl
theorem atI_neg {α : Type} {xs : List α} {k : Nat} (h0 : 0 < k) (h1 : k ≤ xs.length) : atI xs (-(k : Int)) = xs[xs.length - k]? := by
  unfold atI ixN
  rw [if_neg (by omega), if_pos (by omega)]
  show xs[(-(k : Int) + (xs.length : Int)).toNat]? = _
  congr 1
  omega
theorem begW_at (ws : List (List Nat)) (i : Nat) (h : i < ws.length) : ((begW ws).map sv)[i]? = some (sv (joinL [46] (ws.take (i + 1)))) := by
  unfold begW
  rw [List.getElem?_map, List.getElem?_map, List.getElem?_range h]
  rfl
theorem begW_back (ws : List (List Nat)) (k : Nat) (h0 : 0 < k) (h1 : k ≤ ws.length) : atI ((begW ws).map sv) (-(k : Int)) = some (sv (joinL [46] (ws.take (ws.length - k + 1)))) := by
  have e : ((begW ws).map sv).length = ws.length := by rw [List.length_map, begW_len]
  rw [atI_neg h0 (by omega), e, begW_at ws _ (by omega)]
section
variable {P : Program} {w : World} {K : PySem.W.Frag} {mg : Str → Option Value} {base : Heap}
theorem rep2 {H : Hp} {a : Addr} {x y : Bool} {Q : VK} (h : H a = some (.tup [.bl x, .bl y])) (q : Q (.str (PyData.shown (.tuple [.bool x, .bool y]))) H) : rReprD K [.ref a] H Q := by
  refine ⟨.ref a, .tuple [.bool x, .bool y], rfl, .tup (sq_t h) (.cons (.bl x) (.cons (.bl y) .nil)), rfl, ?_, ?_, ?_, ?_, q⟩
  all_goals cases x <;> cases y <;> decide +kernel
theorem ok_right {f : Addr} {fd : FuncData} (F : Fun K "_law_right" "_law_right" s_l_right f fd) (T : Txt7 mg)
    (D_is_name : DnF P w K mg base 1 "is_name" ["thing"] (spIsName K)) (D_is_path : DnF P w K mg base 2 "is_path" ["thing"] (spIsPath K))
    (D_beginnings : DnF P w K mg base 1 "beginnings" ["path"] spBeg) (D_parent : DnF P w K mg base 1 "parent" ["path"] spPar)
    (D_l_words : DnF P w K mg base 1 "_law_words" ["_law_text_here"] spWords) (D_l_are_dues : DnF P w K mg base 2 "_law_are_dues" ["_law_text_here"] spDues)
    (D_l_beginnings : DnF P w K mg base 1 "_law_beginnings" ["_law_words_here"] (spLBeg K)) : FnG P w K mg base 3 f fd ["_law_text_here"] spRight := by
  refine fnG_of F sc_l_right (fun vs H Q E h => ?_) (fun cdv A outer s H vs Q E hG hr h => ?_)
  · obtain ⟨z, rfl, _⟩ := h
    rfl
  · obtain ⟨f_l_are_dues, fd_l_are_dues, G_l_are_dues, m_l_are_dues, k_l_are_dues, b_l_are_dues⟩ := D_l_are_dues; obtain ⟨f_is_path, fd_is_path, G_is_path, m_is_path, k_is_path, b_is_path⟩ := D_is_path; obtain ⟨f_is_name, fd_is_name, G_is_name, m_is_name, k_is_name, b_is_name⟩ := D_is_name; obtain ⟨f_l_beginnings, fd_l_beginnings, G_l_beginnings, m_l_beginnings, k_l_beginnings, b_l_beginnings⟩ := D_l_beginnings; obtain ⟨f_l_words, fd_l_words, G_l_words, m_l_words, k_l_words, b_l_words⟩ := D_l_words; obtain ⟨f_beginnings, fd_beginnings, G_beginnings, m_beginnings, k_beginnings, b_beginnings⟩ := D_beginnings; obtain ⟨f_parent, fd_parent, G_parent, m_parent, k_parent, b_parent⟩ := D_parent
    obtain ⟨z, rfl, hz, ho, q⟩ := h
    have hzl : (tl z).length ≤ 1000 := by rw [← len_tl]; exact hz
    refine ⟨_, (pss_cons (ps_set (i := 1) sc_l_right.nd rfl (Or.inl rfl) (pe_call G_l_are_dues (hr.mono (by first | decide | omega)) (by rfl) m_l_are_dues k_l_are_dues b_l_are_dues .nil pass0 (pa_cons (pv 0) pa_nil)))
      (pss_cons (ps_if (pt_cmpR op_ne (pe_callB (reprK (K := K) rfl hG hr.units) (by rfl) T.n_repr (by decide +kernel) (pa_cons (pe_tup (pa_cons (pe_call G_is_name (hr.mono (by first | decide | omega)) (by rfl) m_is_name k_is_name b_is_name .nil pass0 (pa_cons (pv 0) pa_nil)) (pa_cons (pe_call G_is_path (hr.mono (by first | decide | omega)) (by rfl) m_is_path k_is_path b_is_path .nil pass0 (pa_cons (pv 0) pa_nil)) pa_nil))) pa_nil)) (pe_callB (reprK (K := K) rfl hG hr.units) (by rfl) T.n_repr (by decide +kernel) (pa_cons (pv 1) pa_nil)) (nomark _)) (pss_one (ps_ret pe_bl)) pss_nil)
      (pss_cons (ps_if (pt_not (pt_val (pe_ix (ixTK (K := K) rfl) (pv 1) pe_int (fun _ _ => rfl)))) (pss_one (ps_ret pe_bl)) pss_nil)
      (pss_cons (ps_set (i := 2) sc_l_right.nd rfl (Or.inl rfl) (pe_call G_l_beginnings (hr.mono (by first | decide | omega)) (by rfl) m_l_beginnings k_l_beginnings b_l_beginnings .nil pass0 (pa_cons (pe_call G_l_words (hr.mono (by first | decide | omega)) (by rfl) m_l_words k_l_words b_l_words .nil pass0 (pa_cons (pv 0) pa_nil)) pa_nil)))
      (pss_cons (ps_for PassesOwn.never rfl (pi_range1 rfl T.n_range (pa_cons pe_int pa_nil)) (pg_name (i := 3) sc_l_right.nd rfl (Or.inl rfl)) (pss_cons (ps_set (i := 4) sc_l_right.nd rfl (Or.inl rfl) (pe_call G_beginnings (hr.mono (by first | decide | omega)) (by rfl) m_beginnings k_beginnings b_beginnings .nil pass0 (pa_cons (pv 0) pa_nil)))
      (pss_cons (ps_if (PW.pt (pw_or (pt_not (pt_val (pe_callB (isiK (K := K) rfl) (by rfl) T.n_isinstance (by decide +kernel) (pa_cons (pv 4) (pa_cons (pe_bltn (v := .ty "list") (by rfl) T.n_list (by decide +kernel) rfl) pa_nil))))) (pw_or (pt_cmpR (neDK (K := K) rfl hr.units) (pv 4) (pv 2) (nomark _)) (pw_or1 (pt_cmpR op_ne (pe_ix (ixLK (K := K) rfl) (pv 4) (pe_un un_neg pe_int) (fun _ _ => rfl)) (pv 0) (nomark _)))))) (pss_one (ps_ret pe_bl)) pss_nil)
      (pss_cons (ps_set (i := 5) sc_l_right.nd rfl (Or.inl rfl) (pe_call G_parent (hr.mono (by first | decide | omega)) (by rfl) m_parent k_parent b_parent .nil pass0 (pa_cons (pv 0) pa_nil)))
      (pss_cons (ps_if (PW.pt (pw_or (PW.pt (pw_and (pt_cmpR op_eq (pe_callB (lenK (K := K) rfl) (by rfl) T.n_len (by decide +kernel) (pa_cons (pv 2) pa_nil)) pe_int (nomark _)) (pw_and1 (pt_cmpR op_notN (pv 5) pe_non (nomark _))))) (pw_or1 (PW.pt (pw_and (pt_cmpR op_gt (pe_callB (lenK (K := K) rfl) (by rfl) T.n_len (by decide +kernel) (pa_cons (pv 2) pa_nil)) pe_int (nomark _)) (pw_and1 (pt_cmpR op_ne (pv 5) (pe_ix (ixLK (K := K) rfl) (pv 2) (pe_un un_neg pe_int) (fun _ _ => rfl)) (nomark _)))))))) (pss_one (ps_ret pe_bl)) pss_nil)
      (pss_cons (ps_expr (kBM (K := K) rfl (pe_bm PySem.F.plainAttrs_list PySem.F.slot_list_append PySem.F.type_list_append mt_append (pv 4) (pa_cons pe_str pa_nil))))
      (pss_one (ps_expr (kBM0 (K := K) rfl (pe_bm0 PySem.F.plainAttrs_list PySem.F.slot_list_reverse PySem.F.type_list_reverse mt_reverse (pv 4)))))))))))
      (pss_one (ps_ret pe_bl))))))), ?_⟩
    refine st_start (σ' := [some (.str z), none, none, none, none, none]) rfl ?_
    walk_at "S"
    refine ⟨z, rfl, by omega, ho, fun H1 a k1 na h1 => ?_⟩
    walk_at "S"
    refine .inl ⟨z, rfl, small_le (by omega), fun H2 k2 => ?_⟩
    walk_at "S"
    refine .inl ⟨z, rfl, by omega, fun H3 k3 => ?_⟩
    walk_at "S"
    refine ⟨small_le (by simp), fun t nt => ?_⟩
    walk_at "S"
    have k13 : Kp [] H H3 := (k1.step k2 fun x hx => .inl hx).step k3 fun x hx => .inl hx
    have k03 : ∀ o, Kp [] H (upd H3 t o) := fun o => k13.upd_new nt
    have h3 : H3 a = some (.tup [.bl (due1 (wds [] (tl z))), .bl (due2 (wds [] (tl z)))]) := k3.get trivial (k2.get trivial h1)
    refine rep2 upd_same ?_
    walk_at "S"
    have nat : a ≠ t := ne_of_none h3 nt
    refine rep2 ((upd_ne nat).trans h3) ?_
    walk_at "S"
    rw [due1_name, due2_path, isNameS_eq]
    refine s_ndec (fun hc => absurd rfl hc) (fun _ => ?_)
    rw [due1_name, due2_path] at h3
    walk_at "S"
    cases hp : isPathL (tl z) with
    | false =>
      walk_at "S"
      exact q _ (k03 _)
    | true =>
    walk_at "S"
    refine ⟨z, rfl, by omega, fun H4 wa k4 nwa h4 => ?_⟩
    walk_at "S"
    have hsum := wds_sum (tl z) []
    have hlen := wds_length (tl z) []
    have hne := wds_ne (tl z) []
    rw [List.length_nil] at hsum
    refine ⟨wa, wds [] (tl z), rfl, sq_l h4, hne, by omega, fun H5 wy k5 nwy h5 => ?_⟩
    walk_at "S"
    have k05 : Kp [] H H5 := ((k03 _).step k4 fun x hx => .inl hx).step k5 fun x hx => .inl hx
    refine ⟨by decide, by decide, ?_⟩
    have oks : ∀ x ∈ (begW (wds [] (tl z))).map mkS, PyData.strOk x = true := fun x hx => by
      obtain ⟨p, hpm, rfl⟩ := List.mem_map.mp hx
      obtain ⟨m, _, rfl⟩ := List.mem_map.mp hpm
      refine OkL.str fun c hc => ?_
      rcases joinL_mem _ hc with e | ⟨y, hy, e⟩
      · rw [List.mem_singleton.mp e]
        decide
      · exact ho.wds y (List.mem_of_mem_take hy) c e
    have hl : 0 < (wds [] (tl z)).length := List.length_pos_iff.mpr hne
    have last : atI ((begW (wds [] (tl z))).map sv) (-1) = some (sv (tl z)) := by
      have e := begW_back (wds [] (tl z)) 1 (by omega) (by omega)
      rw [List.take_of_length_le (by omega), joinL_wds] at e
      exact e
    refine for_go walk_range (fun i σ H6 => (∃ v3 v4 v5, σ = [some (.str z), some (.ref a), some (.ref wy), v3, v4, v5]) ∧ Kp [] H H6 ∧ H6 wy = some (.lst ((begW (wds [] (tl z))).map sv))) ⟨⟨_, _, _, rfl⟩, k05, h5⟩ (fun _ _ _ _ _ => trivial) (fun i x σ Ha Hb hi I y => ?_) fun σ H6 I => ?_
    · obtain ⟨rfl, rfl⟩ := y
      obtain ⟨⟨v3, v4, v5, rfl⟩, k6, h6⟩ := I
      walk_at "S"
      refine ⟨z, rfl, by omega, fun H7 sd k7 nsd h7 => ?_⟩
      have nsd0 : H sd = none := k6.free trivial nsd
      have h7w : H7 wy = some (.lst ((begW (wds [] (tl z))).map sv)) := k7.get trivial h6
      have e7 : ((begL (tl z)).map mkS).map V.str = (begW (wds [] (tl z))).map sv := by
        rw [begL_W]
        simp only [List.map_map]
        rfl
      rw [e7] at h7
      walk_at "S"
      refine isi_ty (.base (.lst h7)) (b := true) (by decide +kernel) ?_
      walk_at "S"
      refine s_neD (dp_sv (K := K) h7) (dp_sv (K := K) h7w) (shaped_strs oks) (shaped_strs oks) ?_
      rw [PyData.eqv, eqvAll_strs, decide_eq_true rfl]
      walk_at "S"
      refine s_ixL (sq_l h7) last ?_
      rw [show sv (tl z) = V.str z by unfold sv; rw [mkS_tl]]
      walk_at "S"
      refine s_ndec (fun hc => absurd rfl hc) (fun _ => ?_)
      walk_at "S"
      refine ⟨z, rfl, by omega, fun H8 k8 => ?_⟩
      have h8 : H8 sd = some (.lst ((begW (wds [] (tl z))).map sv)) := k8.get trivial h7
      have h8w : H8 wy = some (.lst ((begW (wds [] (tl z))).map sv)) := k8.get trivial h7w
      have nws : wy ≠ sd := ne_of_none h6 nsd
      have k08 : Kp [] H H8 := (k6.step k7 fun x hx => .inl hx).step k8 fun x hx => .inl hx
      have el : (((begW (wds [] (tl z))).map sv).length : Int) = ((wds [] (tl z)).length : Int) := by
        rw [List.length_map, begW_len]
      by_cases h1 : (wds [] (tl z)).length = 1
      · have ep : parV (tl z) = .non := if_pos h1
        rw [ep]
        walk_at "S"
        rw [el, h1]
        refine s_dec (fun _ => ?_) (fun hc => absurd rfl hc)
        walk_at "S"
        refine s_ndec (fun hc => absurd rfl hc) (fun _ => ?_)
        walk_at "S"
        rw [el, h1]
        refine s_dec (fun hc => absurd hc (by omega)) (fun _ => ?_)
        walk_at "S"
        refine s_append h8 (small_lt (by rw [List.length_map, begW_len]; omega)) ?_
        walk_at "S"
        refine ⟨sd, _, rfl, rfl, upd_same, ?_⟩
        refine ⟨⟨_, _, _, rfl⟩, (k08.upd_loc nsd0).upd_loc nsd0, ?_⟩
        rw [upd_ne nws, upd_ne nws]
        exact h8w
      · have ep : parV (tl z) = sv (joinL [46] (wds [] (tl z)).dropLast) := if_neg h1
        rw [ep]
        walk_at "S"
        rw [el]
        refine s_dec (fun hc => absurd (V.int.inj hc) (by omega)) (fun _ => ?_)
        walk_at "S"
        rw [el]
        refine s_dec (fun _ => ?_) (fun hc => absurd (show (1 : Int) < _ by omega) hc)
        walk_at "S"
        have eb := begW_back (wds [] (tl z)) 2 (by omega) (by omega)
        rw [show (wds [] (tl z)).take ((wds [] (tl z)).length - 2 + 1) = (wds [] (tl z)).dropLast from by
          rw [List.dropLast_eq_take]
          congr 1
          omega] at eb
        refine s_ixL (sq_l h8w) eb ?_
        walk_at "S"
        refine s_ndec (fun hc => absurd rfl hc) (fun _ => ?_)
        walk_at "S"
        refine s_append h8 (small_lt (by rw [List.length_map, begW_len]; omega)) ?_
        walk_at "S"
        refine ⟨sd, _, rfl, rfl, upd_same, ?_⟩
        refine ⟨⟨_, _, _, rfl⟩, (k08.upd_loc nsd0).upd_loc nsd0, ?_⟩
        rw [upd_ne nws, upd_ne nws]
        exact h8w
    · obtain ⟨⟨v3, v4, v5, rfl⟩, k6, h6⟩ := I
      walk_at "S"
      exact q _ k6
end

abbrev s_law : Stmt := topS 20
abbrev N_law : List Str := ["_law_script", "_law_k", "_law_text_here", "_law_thing"]
theorem sc_law : FnScope ["_law_script", "_law_k", "_law_text_here", "_law_thing"] ["_law_script"] (defScope s_law) := ⟨rfl, rfl, rfl, by decide +kernel, rfl, by decide +kernel, by decide +kernel⟩
structure Txt8 (mg : Str → Option Value) : Prop where
  n_len : mg "len" = none
  n_repr : mg "repr" = none
  n_range : mg "range" = none
  n_max : mg "max" = none
  n_min : mg "min" = none
def spLaw (K : PySem.W.Frag) : Sp := fun vs H Q _ => ∃ (a : Addr) (ns : List Int), vs = [.ref a] ∧ SqL K H a (ns.map V.int) ∧ ns.length ≤ 63 ∧ ∀ H', Q (.bl true) H'
theorem turns (n : Int) (h : 0 ≤ n) : 1 ≤ (if (if n < 8 then n else 8) > 1 then (if n < 8 then n else 8) else 1) ∧ (if (if n < 8 then n else 8) > 1 then (if n < 8 then n else 8) else 1) ≤ (8 : Int) := by
  split <;> split <;> omega
section
variable {P : Program} {w : World} {K : PySem.W.Frag} {mg : Str → Option Value} {base : Heap}
theorem ok_law {f : Addr} {fd : FuncData} (F : Fun K "law" "law" s_law f fd) (T : Txt8 mg)
    (D_is_name : DnF P w K mg base 1 "is_name" ["thing"] (spIsName K)) (D_is_path : DnF P w K mg base 2 "is_path" ["thing"] (spIsPath K))
    (D_l_pot : DnF P w K mg base 2 "_law_pot" ["_law_script", "_law_k"] (spPot K)) (D_l_text : DnF P w K mg base 3 "_law_text" ["_law_pot_here"] spText)
    (D_l_right : DnG P w K mg base 3 "_law_right" ["_law_text_here"] spRight) : FnG P w K mg base 4 f fd ["_law_script"] (spLaw K) := by
  refine fnG_of F sc_law (fun vs H Q E h => ?_) (fun cdv A outer s H vs Q E hG hr h => ?_)
  · obtain ⟨a, ns, rfl, _⟩ := h
    rfl
  · obtain ⟨f_l_text, fd_l_text, G_l_text, m_l_text, k_l_text, b_l_text⟩ := D_l_text; obtain ⟨f_l_pot, fd_l_pot, G_l_pot, m_l_pot, k_l_pot, b_l_pot⟩ := D_l_pot; obtain ⟨f_l_right, fd_l_right, G_l_right, m_l_right, k_l_right, b_l_right⟩ := D_l_right; obtain ⟨f_is_path, fd_is_path, G_is_path, m_is_path, k_is_path, b_is_path⟩ := D_is_path; obtain ⟨f_is_name, fd_is_name, G_is_name, m_is_name, k_is_name, b_is_name⟩ := D_is_name
    obtain ⟨a, ns, rfl, ha, hn, q⟩ := h
    refine ⟨_, (pss_cons (ps_for PassesOwn.never rfl (pi_range1 rfl T.n_range (pa_cons (pe_callB (call_max2 rfl) (by rfl) T.n_max (by decide +kernel) (pa_cons pe_int (pa_cons (pe_callB (call_min2 rfl) (by rfl) T.n_min (by decide +kernel) (pa_cons pe_int (pa_cons (pe_callB (lenK (K := K) rfl) (by rfl) T.n_len (by decide +kernel) (pa_cons (pv 0) pa_nil)) pa_nil))) pa_nil))) pa_nil)) (pg_name (i := 1) sc_law.nd rfl (Or.inl rfl)) (pss_cons (ps_set (i := 2) sc_law.nd rfl (Or.inl rfl) (pe_call G_l_text (hr.mono (by first | decide | omega)) (by rfl) m_l_text k_l_text b_l_text .nil pass0 (pa_cons (pe_call G_l_pot (hr.mono (by first | decide | omega)) (by rfl) m_l_pot k_l_pot b_l_pot .nil pass0 (pa_cons (pv 0) (pa_cons (pv 1) pa_nil))) pa_nil)))
      (pss_one (ps_if (PW.pt (pw_or (pt_not (pt_val (pe_callG G_l_right hG (hr.mono (by first | decide | omega)) (by rfl) m_l_right k_l_right b_l_right .nil (pa_cons (pv 2) pa_nil)))) (pw_or1 (pt_not (pt_val (pe_callG G_l_right hG (hr.mono (by first | decide | omega)) (by rfl) m_l_right k_l_right b_l_right .nil (pa_cons (pv 2) pa_nil))))))) (pss_one (ps_ret pe_bl)) pss_nil))))
      (pss_cons (ps_for PassesOwn.never rfl (kiL (K := K) rfl (pi_list (pe_lst (pa_cons pe_non (pa_cons pe_bl (pa_cons pe_int (pa_cons pe_int (pa_cons (pe_lst pa_nil) (pa_cons (pe_lst (pa_cons pe_str pa_nil)) (pa_cons (pe_tup pa_nil) (pa_cons (pe_tup (pa_cons pe_str pa_nil)) (pa_cons pe_dnewK (pa_cons (pe_lst (pa_cons pe_str (pa_cons pe_str pa_nil))) (pa_cons (pe_tup (pa_cons pe_str (pa_cons pe_str (pa_cons pe_str pa_nil)))) pa_nil)))))))))))))) (pg_name (i := 3) sc_law.nd rfl (Or.inl rfl)) (pss_one (ps_if (pt_cmpR op_ne (pe_callB (reprK (K := K) rfl hG hr.units) (by rfl) T.n_repr (by decide +kernel) (pa_cons (pe_tup (pa_cons (pe_call G_is_name (hr.mono (by first | decide | omega)) (by rfl) m_is_name k_is_name b_is_name .nil pass0 (pa_cons (pv 3) pa_nil)) (pa_cons (pe_call G_is_path (hr.mono (by first | decide | omega)) (by rfl) m_is_path k_is_path b_is_path .nil pass0 (pa_cons (pv 3) pa_nil)) pa_nil))) pa_nil)) pe_str (nomark _)) (pss_one (ps_ret pe_bl)) pss_nil)))
      (pss_one (ps_ret (pe_cmpR op_eq (pe_callB (reprK (K := K) rfl hG hr.units) (by rfl) T.n_repr (by decide +kernel) (pa_cons (pe_tup (pa_cons (pe_call G_is_name (hr.mono (by first | decide | omega)) (by rfl) m_is_name k_is_name b_is_name .nil pass0 (pa_cons pe_str pa_nil)) (pa_cons (pe_call G_is_path (hr.mono (by first | decide | omega)) (by rfl) m_is_path k_is_path b_is_path .nil pass0 (pa_cons pe_str pa_nil)) (pa_cons (pe_call G_is_path (hr.mono (by first | decide | omega)) (by rfl) m_is_path k_is_path b_is_path .nil pass0 (pa_cons pe_str pa_nil)) (pa_cons (pe_call G_is_path (hr.mono (by first | decide | omega)) (by rfl) m_is_path k_is_path b_is_path .nil pass0 (pa_cons pe_str pa_nil)) pa_nil))))) pa_nil)) pe_str (nomark _)))))), ?_⟩
    refine st_start (σ' := [some (.ref a), none, none, none]) rfl ?_
    walk_at "S"
    have tb := turns ((ns.map V.int).length : Int) (by omega)
    generalize (if (if ((ns.map V.int).length : Int) < 8 then ((ns.map V.int).length : Int) else 8) > 1 then (if ((ns.map V.int).length : Int) < 8 then ((ns.map V.int).length : Int) else 8) else 1) = N at tb ⊢
    refine ⟨by omega, by omega, ?_⟩
    refine for_go walk_range (fun i σ H2 => (∃ v1 v2 v3, σ = [some (.ref a), v1, v2, v3]) ∧ Kp [] H H2) ⟨⟨_, _, _, rfl⟩, Kp.refl⟩ (fun _ _ _ _ _ => trivial) (fun i x σ Ha Hb hi I y => ?_) fun σ H2 I => ?_
    · obtain ⟨rfl, rfl⟩ := y
      obtain ⟨⟨v1, v2, v3, rfl⟩, k1⟩ := I
      dsimp only
      rw [show (0 : Int) + (i : Int) = (i : Int) from Int.zero_add _]
      walk_at "S"
      refine ⟨a, ns, i, rfl, k1.seqL trivial ha, by omega, fun H3 p k3 np hp3 => ?_⟩
      walk_at "S"
      refine ⟨p, rfl, hp3, fun H4 y k4 hp4 hy oy => ?_⟩
      have np0 : H p = none := k1.free trivial np
      have k04 : Kp [] H H4 := (k1.step k3 fun x hx => .inl hx).step k4 fun x hx => .inr (by rw [List.mem_singleton.mp hx]; exact np0)
      walk_at "S"
      refine ⟨y, rfl, hy, oy, fun H5 k5 => ?_⟩
      walk_at "S"
      refine ⟨y, rfl, hy, oy, fun H6 k6 => ?_⟩
      walk_at "S"
      exact ⟨⟨_, _, _, rfl⟩, (k04.step k5 fun x hx => .inl hx).step k6 fun x hx => .inl hx⟩
    · obtain ⟨⟨v1, v2, v3, rfl⟩, k1⟩ := I
      walk_at "S"
      refine ⟨small_le (by simp), fun b1 n1 => ?_⟩
      walk_at "S"
      refine ⟨small_le (by simp), fun b2 n2 => ?_⟩
      walk_at "S"
      refine ⟨small_le (by simp), fun b3 n3 => ?_⟩
      walk_at "S"
      refine ⟨small_le (by simp), fun b4 n4 => ?_⟩
      walk_at "S"
      intro b5 n5
      walk_at "S"
      refine ⟨small_le (by simp), fun b6 n6 => ?_⟩
      walk_at "S"
      refine ⟨small_le (by simp), fun b7 n7 => ?_⟩
      walk_at "S"
      refine ⟨small_le (by simp), fun b8 n8 => ?_⟩
      generalize hH3 : upd H2 b1 (.lst []) = H3 at *
      have e1 : H3 b1 = some (.lst []) := by rw [← hH3]; exact upd_same
      generalize hH4 : upd H3 b2 _ = H4 at *
      have e2 : H4 b2 = some (.lst [.str "a"]) := by rw [← hH4]; exact upd_same
      generalize hH5 : upd H4 b3 _ = H5 at *
      have e3 : H5 b3 = some (.tup []) := by rw [← hH5]; exact upd_same
      generalize hH6 : upd H5 b4 _ = H6 at *
      have e4 : H6 b4 = some (.tup [.str "a"]) := by rw [← hH6]; exact upd_same
      generalize hH7 : upd H6 b5 _ = H7 at *
      have e5 : H7 b5 = some (.dK []) := by rw [← hH7]; exact upd_same
      generalize hH8 : upd H7 b6 _ = H8 at *
      have e6 : H8 b6 = some (.lst [.str "a", .str "b"]) := by rw [← hH8]; exact upd_same
      generalize hH9 : upd H8 b7 _ = H9 at *
      have e7 : H9 b7 = some (.tup [.str "a", .str ".", .str "b"]) := by rw [← hH9]; exact upd_same
      generalize hHA : upd H9 b8 _ = HA at *
      have e8 : HA b8 = some (.lst [.non, .bl true, .int 0, .int 7, .ref b1, .ref b2, .ref b3, .ref b4, .ref b5, .ref b6, .ref b7]) := by rw [← hHA]; exact upd_same
      have s3 : Kp [] H2 H3 := hH3 ▸ Kp.refl.upd_new n1
      have s4 : Kp [] H3 H4 := hH4 ▸ Kp.refl.upd_new n2
      have s5 : Kp [] H4 H5 := hH5 ▸ Kp.refl.upd_new n3
      have s6 : Kp [] H5 H6 := hH6 ▸ Kp.refl.upd_new n4
      have s7 : Kp [] H6 H7 := hH7 ▸ Kp.refl.upd_new n5
      have s8 : Kp [] H7 H8 := hH8 ▸ Kp.refl.upd_new n6
      have s9 : Kp [] H8 H9 := hH9 ▸ Kp.refl.upd_new n7
      have sA : Kp [] H9 HA := hHA ▸ Kp.refl.upd_new n8
      have t1 : HA b1 = some (.lst []) := by walk_at "L"
      have t2 : HA b2 = some (.lst [.str "a"]) := by walk_at "L"
      have t3 : HA b3 = some (.tup []) := by walk_at "L"
      have t4 : HA b4 = some (.tup [.str "a"]) := by walk_at "L"
      have t5 : HA b5 = some (.dK []) := by walk_at "L"
      have t6 : HA b6 = some (.lst [.str "a", .str "b"]) := by walk_at "L"
      have t7 : HA b7 = some (.tup [.str "a", .str ".", .str "b"]) := by walk_at "L"
      have ty : ∀ x ∈ ([.non, .bl true, .int 0, .int 7, .ref b1, .ref b2, .ref b3, .ref b4, .ref b5, .ref b6, .ref b7] : List V),
          ∃ t : String, (∀ HB, Kp [] HA HB → TyX K HB x (.type t)) ∧ kitB t "str" = some false := by
        intro x hx
        simp only [List.mem_cons, List.not_mem_nil, or_false] at hx
        rcases hx with rfl | rfl | rfl | rfl | rfl | rfl | rfl | rfl | rfl | rfl | rfl
        · exact ⟨_, fun HB kB => .base .non, by decide +kernel⟩
        · exact ⟨_, fun HB kB => .base (.bl _), by decide +kernel⟩
        · exact ⟨_, fun HB kB => .base (.int _), by decide +kernel⟩
        · exact ⟨_, fun HB kB => .base (.int _), by decide +kernel⟩
        · exact ⟨_, fun HB kB => .base (.lst (kB.get trivial t1)), by decide +kernel⟩
        · exact ⟨_, fun HB kB => .base (.lst (kB.get trivial t2)), by decide +kernel⟩
        · exact ⟨_, fun HB kB => .base (.tup (kB.get trivial t3)), by decide +kernel⟩
        · exact ⟨_, fun HB kB => .base (.tup (kB.get trivial t4)), by decide +kernel⟩
        · exact ⟨_, fun HB kB => .base (.dK (kB.get trivial t5)), by decide +kernel⟩
        · exact ⟨_, fun HB kB => .base (.lst (kB.get trivial t6)), by decide +kernel⟩
        · exact ⟨_, fun HB kB => .base (.tup (kB.get trivial t7)), by decide +kernel⟩
      walk_at "S"
      refine ⟨⟨_, sq_l e8⟩, ?_⟩
      refine for_go (walk_list (K := K) (a := b8) (xs := [.non, .bl true, .int 0, .int 7, .ref b1, .ref b2, .ref b3, .ref b4, .ref b5, .ref b6, .ref b7])) (fun i σ HB => (∃ v1 v2 v3, σ = [some (.ref a), v1, v2, v3]) ∧ Kp [] HA HB) ⟨⟨_, _, _, rfl⟩, Kp.refl⟩ (fun i σ HB hi I => sq_l (I.2.get trivial e8)) (fun i x σ HB HC hi I y => ?_) fun σ HB I => ?_
      · obtain ⟨rfl, hx⟩ := y
        obtain ⟨⟨u1, u2, u3, rfl⟩, kB⟩ := I
        obtain ⟨tn, tx, tk⟩ := ty x (List.mem_of_getElem? hx)
        walk_at "S"
        refine .inr ⟨x, tn, rfl, tx _ kB, tk, ?_⟩
        walk_at "S"
        refine .inr ⟨x, tn, rfl, tx _ kB, tk, ?_⟩
        walk_at "S"
        refine ⟨small_le (by simp), fun c nc => ?_⟩
        walk_at "S"
        refine rep2 upd_same ?_
        walk_at "S"
        rw [show PyData.shown (.tuple [.bool false, .bool false]) = ("(False, False)" : Str) from by decide +kernel]
        refine s_ndec (fun hc => absurd rfl hc) (fun _ => ?_)
        walk_at "S"
        exact ⟨⟨_, _, _, rfl⟩, kB.upd_new nc⟩
      · obtain ⟨⟨u1, u2, u3, rfl⟩, kB⟩ := I
        walk_at "S"
        refine .inl ⟨"", rfl, by decide +kernel, fun HC kC => ?_⟩
        walk_at "S"
        refine .inl ⟨"", rfl, by decide +kernel, fun HD kD => ?_⟩
        walk_at "S"
        refine .inl ⟨".", rfl, by decide +kernel, fun HE kE => ?_⟩
        walk_at "S"
        refine .inl ⟨"a", rfl, by decide +kernel, fun HF kF => ?_⟩
        walk_at "S"
        refine ⟨small_le (by simp), fun c nc => ?_⟩
        rw [show isNameS "" = false from by decide +kernel, show isPathL (tl "") = false from by decide +kernel, show isPathL (tl ".") = false from by decide +kernel, show isPathL (tl "a") = true from by decide +kernel]
        walk_at "S"
        refine ⟨.ref c, .tuple [.bool false, .bool false, .bool false, .bool true], rfl, .tup (sq_t upd_same) (.cons (.bl _) (.cons (.bl _) (.cons (.bl _) (.cons (.bl _) .nil)))), rfl, by decide +kernel, by decide +kernel, by decide +kernel, by decide +kernel, ?_⟩
        walk_at "S"
        rw [show PyData.shown (.tuple [.bool false, .bool false, .bool false, .bool true]) = ("(False, False, False, True)" : Str) from by decide +kernel, decide_eq_true rfl]
        exact q _
end

theorem all_mk {l : PySem.W.OpenLaw} {w : World} {K : PySem.W.Frag} {h : Heap} {mg : Str → Option Value} {fa : Addr} (X : K.In h) (G : h.Ns mainGlobals mg) (hfa : mg "law" = some (.ref fa))
    {od_is_name an_is_name od_is_path an_is_path od_beginnings an_beginnings od_parent an_parent od_l_at an_l_at od_l_pot an_l_pot od_l_draw an_l_draw od_l_bent an_l_bent od_l_text an_l_text od_l_words an_l_words od_l_is_word an_l_is_word od_l_are_dues an_l_are_dues od_l_beginnings an_l_beginnings od_l_right an_l_right od_law an_law : Option Addr} {sl_is_name sl_is_path sl_beginnings sl_parent sl_l_at sl_l_pot sl_l_draw sl_l_bent sl_l_text sl_l_words sl_l_is_word sl_l_are_dues sl_l_beginnings sl_l_right sl_law : Array (Option Value)} {oc_is_name kV_is_name dc_is_name pm_is_name cd_is_name ct_is_name oc_is_path kV_is_path dc_is_path pm_is_path cd_is_path ct_is_path oc_beginnings kV_beginnings dc_beginnings pm_beginnings cd_beginnings ct_beginnings oc_parent kV_parent dc_parent pm_parent cd_parent ct_parent oc_l_at kV_l_at dc_l_at pm_l_at cd_l_at ct_l_at oc_l_pot kV_l_pot dc_l_pot pm_l_pot cd_l_pot ct_l_pot oc_l_draw kV_l_draw dc_l_draw pm_l_draw cd_l_draw ct_l_draw oc_l_bent kV_l_bent dc_l_bent pm_l_bent cd_l_bent ct_l_bent oc_l_text kV_l_text dc_l_text pm_l_text cd_l_text ct_l_text oc_l_words kV_l_words dc_l_words pm_l_words cd_l_words ct_l_words oc_l_is_word kV_l_is_word dc_l_is_word pm_l_is_word cd_l_is_word ct_l_is_word oc_l_are_dues kV_l_are_dues dc_l_are_dues pm_l_are_dues cd_l_are_dues ct_l_are_dues oc_l_beginnings kV_l_beginnings dc_l_beginnings pm_l_beginnings cd_l_beginnings ct_l_beginnings oc_l_right kV_l_right dc_l_right pm_l_right cd_l_right ct_l_right oc_law kV_law dc_law pm_law cd_law ct_law : Value}
    {f_is_name f_is_path f_beginnings f_parent f_l_at f_l_pot f_l_draw f_l_bent f_l_text f_l_words f_l_is_word f_l_are_dues f_l_beginnings f_l_right f_law : Addr}
    {t_MOST_LETTERS t_LETTERS t_DOT t_MOST_NAMES : Tok}
    (a_is_name : PySem.W.nsIn K mainGlobals "is_name" = some (some (.ref f_is_name))) (l_is_name : K.lookup f_is_name = some ⟨oc_is_name, od_is_name, .func (PySem.W.fnOf "is_name" "is_name" (defArgs s_is_name) (defBody s_is_name) (defScope s_is_name) .none kV_is_name dc_is_name pm_is_name an_is_name cd_is_name ct_is_name), sl_is_name⟩) (c_is_name : PySem.W.codeIn K cd_is_name "is_name" = true) (k_is_name : PySem.W.keepIn K (.ref f_is_name) = true)
    (a_is_path : PySem.W.nsIn K mainGlobals "is_path" = some (some (.ref f_is_path))) (l_is_path : K.lookup f_is_path = some ⟨oc_is_path, od_is_path, .func (PySem.W.fnOf "is_path" "is_path" (defArgs s_is_path) (defBody s_is_path) (defScope s_is_path) .none kV_is_path dc_is_path pm_is_path an_is_path cd_is_path ct_is_path), sl_is_path⟩) (c_is_path : PySem.W.codeIn K cd_is_path "is_path" = true) (k_is_path : PySem.W.keepIn K (.ref f_is_path) = true)
    (a_beginnings : PySem.W.nsIn K mainGlobals "beginnings" = some (some (.ref f_beginnings))) (l_beginnings : K.lookup f_beginnings = some ⟨oc_beginnings, od_beginnings, .func (PySem.W.fnOf "beginnings" "beginnings" (defArgs s_beginnings) (defBody s_beginnings) (defScope s_beginnings) .none kV_beginnings dc_beginnings pm_beginnings an_beginnings cd_beginnings ct_beginnings), sl_beginnings⟩) (c_beginnings : PySem.W.codeIn K cd_beginnings "beginnings" = true) (k_beginnings : PySem.W.keepIn K (.ref f_beginnings) = true)
    (a_parent : PySem.W.nsIn K mainGlobals "parent" = some (some (.ref f_parent))) (l_parent : K.lookup f_parent = some ⟨oc_parent, od_parent, .func (PySem.W.fnOf "parent" "parent" (defArgs s_parent) (defBody s_parent) (defScope s_parent) .none kV_parent dc_parent pm_parent an_parent cd_parent ct_parent), sl_parent⟩) (c_parent : PySem.W.codeIn K cd_parent "parent" = true) (k_parent : PySem.W.keepIn K (.ref f_parent) = true)
    (a_l_at : PySem.W.nsIn K mainGlobals "_law_at" = some (some (.ref f_l_at))) (l_l_at : K.lookup f_l_at = some ⟨oc_l_at, od_l_at, .func (PySem.W.fnOf "_law_at" "_law_at" (defArgs s_l_at) (defBody s_l_at) (defScope s_l_at) .none kV_l_at dc_l_at pm_l_at an_l_at cd_l_at ct_l_at), sl_l_at⟩) (c_l_at : PySem.W.codeIn K cd_l_at "_law_at" = true) (k_l_at : PySem.W.keepIn K (.ref f_l_at) = true)
    (a_l_pot : PySem.W.nsIn K mainGlobals "_law_pot" = some (some (.ref f_l_pot))) (l_l_pot : K.lookup f_l_pot = some ⟨oc_l_pot, od_l_pot, .func (PySem.W.fnOf "_law_pot" "_law_pot" (defArgs s_l_pot) (defBody s_l_pot) (defScope s_l_pot) .none kV_l_pot dc_l_pot pm_l_pot an_l_pot cd_l_pot ct_l_pot), sl_l_pot⟩) (c_l_pot : PySem.W.codeIn K cd_l_pot "_law_pot" = true) (k_l_pot : PySem.W.keepIn K (.ref f_l_pot) = true)
    (a_l_draw : PySem.W.nsIn K mainGlobals "_law_draw" = some (some (.ref f_l_draw))) (l_l_draw : K.lookup f_l_draw = some ⟨oc_l_draw, od_l_draw, .func (PySem.W.fnOf "_law_draw" "_law_draw" (defArgs s_l_draw) (defBody s_l_draw) (defScope s_l_draw) .none kV_l_draw dc_l_draw pm_l_draw an_l_draw cd_l_draw ct_l_draw), sl_l_draw⟩) (c_l_draw : PySem.W.codeIn K cd_l_draw "_law_draw" = true) (k_l_draw : PySem.W.keepIn K (.ref f_l_draw) = true)
    (a_l_bent : PySem.W.nsIn K mainGlobals "_law_bent" = some (some (.ref f_l_bent))) (l_l_bent : K.lookup f_l_bent = some ⟨oc_l_bent, od_l_bent, .func (PySem.W.fnOf "_law_bent" "_law_bent" (defArgs s_l_bent) (defBody s_l_bent) (defScope s_l_bent) .none kV_l_bent dc_l_bent pm_l_bent an_l_bent cd_l_bent ct_l_bent), sl_l_bent⟩) (c_l_bent : PySem.W.codeIn K cd_l_bent "_law_bent" = true) (k_l_bent : PySem.W.keepIn K (.ref f_l_bent) = true)
    (a_l_text : PySem.W.nsIn K mainGlobals "_law_text" = some (some (.ref f_l_text))) (l_l_text : K.lookup f_l_text = some ⟨oc_l_text, od_l_text, .func (PySem.W.fnOf "_law_text" "_law_text" (defArgs s_l_text) (defBody s_l_text) (defScope s_l_text) .none kV_l_text dc_l_text pm_l_text an_l_text cd_l_text ct_l_text), sl_l_text⟩) (c_l_text : PySem.W.codeIn K cd_l_text "_law_text" = true) (k_l_text : PySem.W.keepIn K (.ref f_l_text) = true)
    (a_l_words : PySem.W.nsIn K mainGlobals "_law_words" = some (some (.ref f_l_words))) (l_l_words : K.lookup f_l_words = some ⟨oc_l_words, od_l_words, .func (PySem.W.fnOf "_law_words" "_law_words" (defArgs s_l_words) (defBody s_l_words) (defScope s_l_words) .none kV_l_words dc_l_words pm_l_words an_l_words cd_l_words ct_l_words), sl_l_words⟩) (c_l_words : PySem.W.codeIn K cd_l_words "_law_words" = true) (k_l_words : PySem.W.keepIn K (.ref f_l_words) = true)
    (a_l_is_word : PySem.W.nsIn K mainGlobals "_law_is_word" = some (some (.ref f_l_is_word))) (l_l_is_word : K.lookup f_l_is_word = some ⟨oc_l_is_word, od_l_is_word, .func (PySem.W.fnOf "_law_is_word" "_law_is_word" (defArgs s_l_is_word) (defBody s_l_is_word) (defScope s_l_is_word) .none kV_l_is_word dc_l_is_word pm_l_is_word an_l_is_word cd_l_is_word ct_l_is_word), sl_l_is_word⟩) (c_l_is_word : PySem.W.codeIn K cd_l_is_word "_law_is_word" = true) (k_l_is_word : PySem.W.keepIn K (.ref f_l_is_word) = true)
    (a_l_are_dues : PySem.W.nsIn K mainGlobals "_law_are_dues" = some (some (.ref f_l_are_dues))) (l_l_are_dues : K.lookup f_l_are_dues = some ⟨oc_l_are_dues, od_l_are_dues, .func (PySem.W.fnOf "_law_are_dues" "_law_are_dues" (defArgs s_l_are_dues) (defBody s_l_are_dues) (defScope s_l_are_dues) .none kV_l_are_dues dc_l_are_dues pm_l_are_dues an_l_are_dues cd_l_are_dues ct_l_are_dues), sl_l_are_dues⟩) (c_l_are_dues : PySem.W.codeIn K cd_l_are_dues "_law_are_dues" = true) (k_l_are_dues : PySem.W.keepIn K (.ref f_l_are_dues) = true)
    (a_l_beginnings : PySem.W.nsIn K mainGlobals "_law_beginnings" = some (some (.ref f_l_beginnings))) (l_l_beginnings : K.lookup f_l_beginnings = some ⟨oc_l_beginnings, od_l_beginnings, .func (PySem.W.fnOf "_law_beginnings" "_law_beginnings" (defArgs s_l_beginnings) (defBody s_l_beginnings) (defScope s_l_beginnings) .none kV_l_beginnings dc_l_beginnings pm_l_beginnings an_l_beginnings cd_l_beginnings ct_l_beginnings), sl_l_beginnings⟩) (c_l_beginnings : PySem.W.codeIn K cd_l_beginnings "_law_beginnings" = true) (k_l_beginnings : PySem.W.keepIn K (.ref f_l_beginnings) = true)
    (a_l_right : PySem.W.nsIn K mainGlobals "_law_right" = some (some (.ref f_l_right))) (l_l_right : K.lookup f_l_right = some ⟨oc_l_right, od_l_right, .func (PySem.W.fnOf "_law_right" "_law_right" (defArgs s_l_right) (defBody s_l_right) (defScope s_l_right) .none kV_l_right dc_l_right pm_l_right an_l_right cd_l_right ct_l_right), sl_l_right⟩) (c_l_right : PySem.W.codeIn K cd_l_right "_law_right" = true) (k_l_right : PySem.W.keepIn K (.ref f_l_right) = true)
    (a_law : PySem.W.nsIn K mainGlobals "law" = some (some (.ref f_law))) (l_law : K.lookup f_law = some ⟨oc_law, od_law, .func (PySem.W.fnOf "law" "law" (defArgs s_law) (defBody s_law) (defScope s_law) .none kV_law dc_law pm_law an_law cd_law ct_law), sl_law⟩) (c_law : PySem.W.codeIn K cd_law "law" = true) (k_law : PySem.W.keepIn K (.ref f_law) = true)
    (z_len : PySem.W.nsIn K mainGlobals "len" = some none)
    (z_divmod : PySem.W.nsIn K mainGlobals "divmod" = some none)
    (z_isinstance : PySem.W.nsIn K mainGlobals "isinstance" = some none)
    (z_str : PySem.W.nsIn K mainGlobals "str" = some none)
    (z_all : PySem.W.nsIn K mainGlobals "all" = some none)
    (z_range : PySem.W.nsIn K mainGlobals "range" = some none)
    (z_max : PySem.W.nsIn K mainGlobals "max" = some none)
    (z_min : PySem.W.nsIn K mainGlobals "min" = some none)
    (z_repr : PySem.W.nsIn K mainGlobals "repr" = some none)
    (z_list : PySem.W.nsIn K mainGlobals "list" = some none)
    (v_MOST_LETTERS : PySem.W.nsIn K mainGlobals "MOST_LETTERS" = some (some (.int 8 t_MOST_LETTERS)))
    (v_LETTERS : PySem.W.nsIn K mainGlobals "LETTERS" = some (some (.str "abcdefghijklmnopqrstuvwxyz" t_LETTERS)))
    (v_DOT : PySem.W.nsIn K mainGlobals "DOT" = some (some (.str "." t_DOT)))
    (v_MOST_NAMES : PySem.W.nsIn K mainGlobals "MOST_NAMES" = some (some (.int 4 t_MOST_NAMES))) :
    ∃ fd : FuncData, (∀ (s : Shared) (v : Value), BindsTo s fd ⟨[v], []⟩ [("_law_script", v)]) ∧ ∀ base : Heap, K.In base → base.Ns mainGlobals mg → FnG l.prog w K mg base 4 fa fd ["_law_script"] (spLaw K) := by
  have e := hfa.symm.trans (PySem.W.mg_of X G a_law)
  cases e
  have F_is_name := fun_mk (st := s_is_name) l_is_name c_is_name k_is_name
  have b_is_name := F_is_name.binds (ps := ["thing"]) fun _ _ _ _ _ _ us hl => match us, hl with | [_], _ => rfl
  have m_is_name := PySem.W.mg_of X G a_is_name
  have F_is_path := fun_mk (st := s_is_path) l_is_path c_is_path k_is_path
  have b_is_path := F_is_path.binds (ps := ["thing"]) fun _ _ _ _ _ _ us hl => match us, hl with | [_], _ => rfl
  have m_is_path := PySem.W.mg_of X G a_is_path
  have F_beginnings := fun_mk (st := s_beginnings) l_beginnings c_beginnings k_beginnings
  have b_beginnings := F_beginnings.binds (ps := ["path"]) fun _ _ _ _ _ _ us hl => match us, hl with | [_], _ => rfl
  have m_beginnings := PySem.W.mg_of X G a_beginnings
  have F_parent := fun_mk (st := s_parent) l_parent c_parent k_parent
  have b_parent := F_parent.binds (ps := ["path"]) fun _ _ _ _ _ _ us hl => match us, hl with | [_], _ => rfl
  have m_parent := PySem.W.mg_of X G a_parent
  have F_l_at := fun_mk (st := s_l_at) l_l_at c_l_at k_l_at
  have b_l_at := F_l_at.binds (ps := ["_law_script", "_law_k"]) fun _ _ _ _ _ _ us hl => match us, hl with | [_, _], _ => rfl
  have m_l_at := PySem.W.mg_of X G a_l_at
  have F_l_pot := fun_mk (st := s_l_pot) l_l_pot c_l_pot k_l_pot
  have b_l_pot := F_l_pot.binds (ps := ["_law_script", "_law_k"]) fun _ _ _ _ _ _ us hl => match us, hl with | [_, _], _ => rfl
  have m_l_pot := PySem.W.mg_of X G a_l_pot
  have F_l_draw := fun_mk (st := s_l_draw) l_l_draw c_l_draw k_l_draw
  have b_l_draw := F_l_draw.binds (ps := ["_law_pot_here", "_law_many"]) fun _ _ _ _ _ _ us hl => match us, hl with | [_, _], _ => rfl
  have m_l_draw := PySem.W.mg_of X G a_l_draw
  have F_l_bent := fun_mk (st := s_l_bent) l_l_bent c_l_bent k_l_bent
  have b_l_bent := F_l_bent.binds (ps := ["_law_pot_here", "_law_text_here", "_law_way"]) fun _ _ _ _ _ _ us hl => match us, hl with | [_, _, _], _ => rfl
  have m_l_bent := PySem.W.mg_of X G a_l_bent
  have F_l_text := fun_mk (st := s_l_text) l_l_text c_l_text k_l_text
  have b_l_text := F_l_text.binds (ps := ["_law_pot_here"]) fun _ _ _ _ _ _ us hl => match us, hl with | [_], _ => rfl
  have m_l_text := PySem.W.mg_of X G a_l_text
  have F_l_words := fun_mk (st := s_l_words) l_l_words c_l_words k_l_words
  have b_l_words := F_l_words.binds (ps := ["_law_text_here"]) fun _ _ _ _ _ _ us hl => match us, hl with | [_], _ => rfl
  have m_l_words := PySem.W.mg_of X G a_l_words
  have F_l_is_word := fun_mk (st := s_l_is_word) l_l_is_word c_l_is_word k_l_is_word
  have b_l_is_word := F_l_is_word.binds (ps := ["_law_word"]) fun _ _ _ _ _ _ us hl => match us, hl with | [_], _ => rfl
  have m_l_is_word := PySem.W.mg_of X G a_l_is_word
  have F_l_are_dues := fun_mk (st := s_l_are_dues) l_l_are_dues c_l_are_dues k_l_are_dues
  have b_l_are_dues := F_l_are_dues.binds (ps := ["_law_text_here"]) fun _ _ _ _ _ _ us hl => match us, hl with | [_], _ => rfl
  have m_l_are_dues := PySem.W.mg_of X G a_l_are_dues
  have F_l_beginnings := fun_mk (st := s_l_beginnings) l_l_beginnings c_l_beginnings k_l_beginnings
  have b_l_beginnings := F_l_beginnings.binds (ps := ["_law_words_here"]) fun _ _ _ _ _ _ us hl => match us, hl with | [_], _ => rfl
  have m_l_beginnings := PySem.W.mg_of X G a_l_beginnings
  have F_l_right := fun_mk (st := s_l_right) l_l_right c_l_right k_l_right
  have b_l_right := F_l_right.binds (ps := ["_law_text_here"]) fun _ _ _ _ _ _ us hl => match us, hl with | [_], _ => rfl
  have m_l_right := PySem.W.mg_of X G a_l_right
  have F_law := fun_mk (st := s_law) l_law c_law k_law
  have b_law := F_law.binds (ps := ["_law_script"]) fun _ _ _ _ _ _ us hl => match us, hl with | [_], _ => rfl
  have m_law := PySem.W.mg_of X G a_law
  have n_len := PySem.W.mg_none_of X G z_len
  have n_divmod := PySem.W.mg_none_of X G z_divmod
  have n_isinstance := PySem.W.mg_none_of X G z_isinstance
  have n_str := PySem.W.mg_none_of X G z_str
  have n_all := PySem.W.mg_none_of X G z_all
  have n_range := PySem.W.mg_none_of X G z_range
  have n_max := PySem.W.mg_none_of X G z_max
  have n_min := PySem.W.mg_none_of X G z_min
  have n_repr := PySem.W.mg_none_of X G z_repr
  have n_list := PySem.W.mg_none_of X G z_list
  have g_MOST_LETTERS := PySem.W.mg_of X G v_MOST_LETTERS
  have g_LETTERS := PySem.W.mg_of X G v_LETTERS
  have g_DOT := PySem.W.mg_of X G v_DOT
  have g_MOST_NAMES := PySem.W.mg_of X G v_MOST_NAMES
  refine ⟨PySem.W.fnOf "law" "law" (defArgs s_law) (defBody s_law) (defScope s_law) .none kV_law dc_law pm_law an_law cd_law ct_law, fun s v => .of_eq rfl, fun base _ _ => ?_⟩
  have T1 : Txt mg := ⟨n_len, n_divmod⟩
  have T2 : Txt2 mg := ⟨n_len, n_isinstance, n_str, n_all, ⟨_, g_MOST_LETTERS⟩, ⟨_, g_LETTERS⟩⟩
  have T3 : Txt3 mg := ⟨n_len, n_isinstance, n_str, n_all, n_range, ⟨_, g_DOT⟩, ⟨_, g_MOST_NAMES⟩⟩
  have T4 : Txt4 mg := ⟨n_len, n_max⟩
  have T5 : Txt5 mg := ⟨n_len, n_range⟩
  have T6 : Txt6 mg := ⟨n_len⟩
  have T7 : Txt7 mg := ⟨n_len, n_repr, n_range, n_isinstance, n_list⟩
  have T8 : Txt8 mg := ⟨n_len, n_repr, n_range, n_max, n_min⟩
  have D_is_name : DnF l.prog w K mg base 1 "is_name" ["thing"] (spIsName K) := ⟨_, _, ok_is_name F_is_name T2, m_is_name, k_is_name, b_is_name⟩
  have D_is_path : DnF l.prog w K mg base 2 "is_path" ["thing"] (spIsPath K) := ⟨_, _, ok_is_path F_is_path T3 D_is_name, m_is_path, k_is_path, b_is_path⟩
  have D_beginnings : DnF l.prog w K mg base 1 "beginnings" ["path"] spBeg := ⟨_, _, ok_beginnings F_beginnings T3, m_beginnings, k_beginnings, b_beginnings⟩
  have D_parent : DnF l.prog w K mg base 1 "parent" ["path"] spPar := ⟨_, _, ok_parent F_parent T3, m_parent, k_parent, b_parent⟩
  have D_l_at : DnF l.prog w K mg base 1 "_law_at" ["_law_script", "_law_k"] (spAt K) := ⟨_, _, ok_at F_l_at T4, m_l_at, k_l_at, b_l_at⟩
  have D_l_pot : DnF l.prog w K mg base 2 "_law_pot" ["_law_script", "_law_k"] (spPot K) := ⟨_, _, ok_pot F_l_pot T4 D_l_at, m_l_pot, k_l_pot, b_l_pot⟩
  have D_l_draw : DnF l.prog w K mg base 1 "_law_draw" ["_law_pot_here", "_law_many"] spDrawW := ⟨_, _, ok_drawW (ok_draw F_l_draw T1), m_l_draw, k_l_draw, b_l_draw⟩
  have D_l_bent : DnF l.prog w K mg base 2 "_law_bent" ["_law_pot_here", "_law_text_here", "_law_way"] spBent := ⟨_, _, ok_bent F_l_bent T4 D_l_draw, m_l_bent, k_l_bent, b_l_bent⟩
  have D_l_text : DnF l.prog w K mg base 3 "_law_text" ["_law_pot_here"] spText := ⟨_, _, ok_text F_l_text T5 D_l_draw D_l_bent, m_l_text, k_l_text, b_l_text⟩
  have D_l_words : DnF l.prog w K mg base 1 "_law_words" ["_law_text_here"] spWords := ⟨_, _, ok_words F_l_words, m_l_words, k_l_words, b_l_words⟩
  have D_l_is_word : DnF l.prog w K mg base 1 "_law_is_word" ["_law_word"] spIsWord := ⟨_, _, ok_is_word F_l_is_word T6, m_l_is_word, k_l_is_word, b_l_is_word⟩
  have D_l_are_dues : DnF l.prog w K mg base 2 "_law_are_dues" ["_law_text_here"] spDues := ⟨_, _, ok_dues F_l_are_dues T6 D_l_words D_l_is_word, m_l_are_dues, k_l_are_dues, b_l_are_dues⟩
  have D_l_beginnings : DnF l.prog w K mg base 1 "_law_beginnings" ["_law_words_here"] (spLBeg K) := ⟨_, _, ok_lbeg F_l_beginnings, m_l_beginnings, k_l_beginnings, b_l_beginnings⟩
  have D_l_right : DnG l.prog w K mg base 3 "_law_right" ["_law_text_here"] spRight := ⟨_, _, ok_right F_l_right T7 D_is_name D_is_path D_beginnings D_parent D_l_words D_l_are_dues D_l_beginnings, m_l_right, k_l_right, b_l_right⟩
  exact ok_law F_law T8 D_is_name D_is_path D_l_pot D_l_text D_l_right
end K11
open PySem PySem.W PyProof.Rows in
set_option maxRecDepth 100000 in
set_option maxHeartbeats 0 in
theorem PySem.Challenge.cw_halfmade_k11_names_and_paths_holds : PySem.Challenge.rw_halfmade_k11_names_and_paths.Holds := by
  w_on; o_law; k_head; (case hw => w_witness2)
  k_fill
  refine HL.walk_ofG (l := PySem.Challenge.rw_halfmade_k11_names_and_paths) (n := 63) (k := 4) (x := "_law_script") (sp := fun w => K11.spLaw _) rfl (by decide) rfl ⟨rfl, by decide, by decide⟩ (fun w h Y => PySem.W.kIn_of Y) ?F (fun _ _ a ns hl _ hS => ⟨a, ns, rfl, hS, hl, fun _ => rfl⟩)
  case F =>
    intro w mg fa h KX G hmg
    refine' K11.all_mk KX G hmg ?a_is_name ?l_is_name ?c_is_name ?k_is_name ?a_is_path ?l_is_path ?c_is_path ?k_is_path ?a_beginnings ?l_beginnings ?c_beginnings ?k_beginnings ?a_parent ?l_parent ?c_parent ?k_parent ?a_l_at ?l_l_at ?c_l_at ?k_l_at ?a_l_pot ?l_l_pot ?c_l_pot ?k_l_pot ?a_l_draw ?l_l_draw ?c_l_draw ?k_l_draw ?a_l_bent ?l_l_bent ?c_l_bent ?k_l_bent ?a_l_text ?l_l_text ?c_l_text ?k_l_text ?a_l_words ?l_l_words ?c_l_words ?k_l_words ?a_l_is_word ?l_l_is_word ?c_l_is_word ?k_l_is_word ?a_l_are_dues ?l_l_are_dues ?c_l_are_dues ?k_l_are_dues ?a_l_beginnings ?l_l_beginnings ?c_l_beginnings ?k_l_beginnings ?a_l_right ?l_l_right ?c_l_right ?k_l_right ?a_law ?l_law ?c_law ?k_law ?z_len ?z_divmod ?z_isinstance ?z_str ?z_all ?z_range ?z_max ?z_min ?z_repr ?z_list ?v_MOST_LETTERS ?v_LETTERS ?v_DOT ?v_MOST_NAMES
    (case a_is_name => k_is)
    (case l_is_name => k_is)
    (case c_is_name => k_is)
    (case k_is_name => k_is)
    (case a_is_path => k_is)
    (case l_is_path => k_is)
    (case c_is_path => k_is)
    (case k_is_path => k_is)
    (case a_beginnings => k_is)
    (case l_beginnings => k_is)
    (case c_beginnings => k_is)
    (case k_beginnings => k_is)
    (case a_parent => k_is)
    (case l_parent => k_is)
    (case c_parent => k_is)
    (case k_parent => k_is)
    (case a_l_at => k_is)
    (case l_l_at => k_is)
    (case c_l_at => k_is)
    (case k_l_at => k_is)
    (case a_l_pot => k_is)
    (case l_l_pot => k_is)
    (case c_l_pot => k_is)
    (case k_l_pot => k_is)
    (case a_l_draw => k_is)
    (case l_l_draw => k_is)
    (case c_l_draw => k_is)
    (case k_l_draw => k_is)
    (case a_l_bent => k_is)
    (case l_l_bent => k_is)
    (case c_l_bent => k_is)
    (case k_l_bent => k_is)
    (case a_l_text => k_is)
    (case l_l_text => k_is)
    (case c_l_text => k_is)
    (case k_l_text => k_is)
    (case a_l_words => k_is)
    (case l_l_words => k_is)
    (case c_l_words => k_is)
    (case k_l_words => k_is)
    (case a_l_is_word => k_is)
    (case l_l_is_word => k_is)
    (case c_l_is_word => k_is)
    (case k_l_is_word => k_is)
    (case a_l_are_dues => k_is)
    (case l_l_are_dues => k_is)
    (case c_l_are_dues => k_is)
    (case k_l_are_dues => k_is)
    (case a_l_beginnings => k_is)
    (case l_l_beginnings => k_is)
    (case c_l_beginnings => k_is)
    (case k_l_beginnings => k_is)
    (case a_l_right => k_is)
    (case l_l_right => k_is)
    (case c_l_right => k_is)
    (case k_l_right => k_is)
    (case a_law => k_is)
    (case l_law => k_is)
    (case c_law => k_is)
    (case k_law => k_is)
    (case z_len => k_is)
    (case z_divmod => k_is)
    (case z_isinstance => k_is)
    (case z_str => k_is)
    (case z_all => k_is)
    (case z_range => k_is)
    (case z_max => k_is)
    (case z_min => k_is)
    (case z_repr => k_is)
    (case z_list => k_is)
    (case v_MOST_LETTERS => k_is)
    (case v_LETTERS => k_is)
    (case v_DOT => k_is)
    (case v_MOST_NAMES => k_is)

