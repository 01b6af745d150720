import PyProof.Rows.All
import Wide.All
import OpenK.AllK
import Wide.FinOn
import PyProof.ReprNest
import HandS.ForMost
import HandS.IsInst
import HandS.Style
import HandS.Walk
import HandS.WideBits
import HandS.NoneIn
import HandS.RaiseMore
import HandS.Strs
import PySem.Challenge.RW_halfmade_k13_whole_bodies_written
set_option Elab.async false
set_option linter.all false
set_option maxRecDepth 100000
set_option maxHeartbeats 4000000
/-! HLa: promises of defs that are called where no repr is under way (guards known), and repr of plain data. -/
namespace HL
open PySem PySem.Spec PyProof.Rows L2

/-- a def that keeps its promise where no built-in of the guarded kind is under way -/
structure FnG (P : Program) (w : World) (K : PySem.W.Frag) (mg : Str → Option Value) (base : Heap)
    (k : Nat) (f : Addr) (fd : FuncData) (ps : List Str) (sp : Sp) : Prop where
  len : ∀ vs H Q E, sp vs H Q E → vs.length = ps.length
  run : ∀ (A : Around) (outer : List Env) (s : Shared) (H : Hp) (args : Args) (us : List Value) (vs : List V)
    (Q : VK) (E : XK), A.guards = some [] → Room k A → Env0 P w K mg base A outer s H →
    BindsTo s fd args (ps.zip us) → Vals vs us → sp vs H Q E →
    codeAny (model P w) A (.call (.ref f) args) (CR CX0 outer P w H s Q E) s

theorem FnG.ofOk {P : Program} {w : World} {K : PySem.W.Frag} {mg : Str → Option Value} {base : Heap}
    {k : Nat} {f : Addr} {fd : FuncData} {ps : List Str} {sp : Sp}
    (F : FnOk P w K mg base CX0 k f fd ps sp) : FnG P w K mg base k f fd ps sp :=
  ⟨F.len, fun A outer s H args us vs Q E _ => F.run A outer s H args us vs Q E⟩
theorem FnG.mono {P : Program} {w : World} {K : PySem.W.Frag} {mg : Str → Option Value} {base : Heap}
    {j k : Nat} {f : Addr} {fd : FuncData} {ps : List Str} {sp : Sp}
    (F : FnG P w K mg base j f fd ps sp) (h : j ≤ k) : FnG P w K mg base k f fd ps sp :=
  ⟨F.len, fun A outer s H args us vs Q E g hr => F.run A outer s H args us vs Q E g (hr.mono h)⟩

theorem guards_deeper {A : Around} (env : Env) (h : A.guards = some []) : (A.deeper env).guards = some [] := h

/-- what a body's end says of the call's end -/
theorem bodyEnd {X : Cx} {ps : List (Addr × Obj)} {outer : List Env} {P : Program} {w : World} {H H' : Hp} {s s' : Shared} {σ' : L2.St}
    {Q : VK} {v : V} {u : Value} (J : Inv X ps σ' H' s') (rv : RelV v u) (q : Q v H')
    (hX : Inv X ps σ' H' s' → s'.os = s.os ∧ AllBare s'.gens ∧ Un (frs outer) [] H H' s.heap s'.heap ∧ HOk P w H' s'.heap) :
    CE outer P w H s Q u s' :=
  ⟨v, H', (hX J).1, (hX J).2.1, (hX J).2.2.1, (hX J).2.2.2, rv, q⟩
/-- a def, by its body: as Fun.ok, with the guards handed on -/
theorem fnG_of {P : Program} {w : World} {K : PySem.W.Frag} {mg : Str → Option Value} {base : Heap}
    {x qual : Str} {st : Stmt} {f : Addr} {fd : FuncData} {N ps : List Str} {k : Nat} {sp : Sp}
    (F : Fun K x qual st f fd) (S : FnScope N ps (defScope st))
    (len : ∀ vs H Q E, sp vs H Q E → vs.length = ps.length)
    (hbody : ∀ (cdv : Value) (A : Around) (outer : List Env) (s : Shared) (H : Hp) (vs : List V) (Q : VK) (E : XK),
      (A.deeper (envOfC qual (defScope st) s.heap.objs.size f cdv)).guards = some [] →
      Room k (A.deeper (envOfC qual (defScope st) s.heap.objs.size f cdv)) → sp vs H Q E →
      ∃ t, PSs (cxOf CX0 P w K mg base N qual (defScope st) f cdv A outer s H E).nox (defBody st) t ∧
        t { nx := fun _ H' => Q .non H', rt := Q } (start N vs) H) :
    FnG P w K mg base (k + 1) f fd ps sp where
  len := len
  run := by
    intro A outer s H args us vs Q E known room ent bnd rel prm
    rcases F.ex with ⟨_, _, _, _, _, _, cdv, _, _, e, at_, code⟩
    subst e
    have old := ent.mod.kin.keeps fun b o z => (ent.bs b o z).1
    have free := ent.mod.nolimit.keeps fun b o z => (ent.bs b o z).1
    have fits : vs.length = ps.length := len _ _ _ _ prm
    have places : ∀ y ∈ ps.zip us, (defScope st).names.lookup y.1 = some .local ∨
        ((defScope st).names.lookup y.1 = some .cell ∧
          ((cellsFrom (s.heap.objs.size + 1) (defScope st).names []).lookup y.1).isSome = true) := by
      rintro ⟨n, v⟩ hy
      exact (S.par n (List.of_mem_zip hy).1).imp id fun c => ⟨c, PySem.W.cellsFrom_some _ _ _ (Or.inl c)⟩
    apply codeAny_call_function room.depth (old _ _ at_) rfl S.co S.gen rfl (PySem.W.codeRec_of old code)
    apply bnd
    apply wpAny_newFunctionEnv_cells S.kind places
    rintro env rfl s1 made
    refine ⟨free.keeps made.toInCall.keep, codeAny_func ?_⟩
    rcases hbody cdv A outer s H vs Q E (guards_deeper _ known) (room.deeper _) prm with ⟨t, ht, hq⟩
    have I : Inv (cxOf CX0 P w K mg base N qual (defScope st) f cdv A outer s H E) [] (start N vs) H s1 :=
      inv_start S room.hd ent fits rel made
    apply wpAny_mono (ht.nox.run [] s1 (start N vs) H _ I hq) _ fun _ _ z => z
    intro fl s' hs
    match fl, hs with
    | .ret u, ⟨v, σ', H', J, rv, q⟩ => exact bodyEnd J rv q fun J => ⟨J.os, J.bare, J.base, J.hok⟩
    | .next, ⟨σ', H', J, q⟩ => exact bodyEnd (v := V.non) J rfl q fun J => ⟨J.os, J.bare, J.base, J.hok⟩
    | .brk, ⟨_, _, _, q⟩ => exact q.elim
    | .cont, ⟨_, _, _, q⟩ => exact q.elim

/-- a call by name of such a def -/
theorem pe_callG {X : Cx} {k : Nat} {f : Addr} {fd : FuncData} {ps : List Str} {sp : Sp} {dvs : List V} {ds : List Value}
    {x : Str} {p pos : Pos} {e : Expr} {es : List Expr} {t : TA}
    (F : FnG X.prog X.w X.K X.mg X.base k f fd ps sp) (known : X.A.guards = some []) (room : Room k X.A)
    (hg : Gl X x) (hm : X.mg x = some (.ref f)) (hk : PySem.W.keepIn X.K (.ref f) = true)
    (hb : Binds X.K fd ps ds) (hd : Vals dvs ds) (ha : PA X (e :: es) t)
    (hdb : (x == ("__debug__" : Str)) = false := by decide)
    (he : starEach (e :: es) X.env = (false, eval e X.env) :: starEach es X.env := by rfl)
    (hpl : (backTo pos (starEach es X.env)).any (·.1) = false := by rfl) :
    PE X (.Call (.Name x p) (e :: es) [] pos) (tCall sp dvs E0 t) where
  run := by
    intro pins s σ H Q I h
    apply wpAny_Call_Name_kw (ld_glob I hg hm ?_ hdb)
    apply PySem.W.callWith_K (h₀ := X.base) I.ok.mod.kin hk ?_ he hpl
    refine thn (ha.run pos pins s σ H _ I h) ?_
    rintro us s1 ⟨vs, H1, J, r, q⟩
    have both : Vals (vs ++ dvs) (us ++ ds) := r.append hd
    have many : (us ++ ds).length = ps.length := both.length ▸ F.len _ _ _ _ q
    refine ⟨J.kIn, wpAny_call (codeAny_mono (F.run X.A X.stack s1 H1 ⟨us, []⟩ _ _ Q E0 known room J.env0 (hb s1 us J.kIn many) both q) ?_)⟩
    intro res s' hq
    match res, hq with
    | .error _, z => exact z.elim
    | .ok (.ret _), z => exact J.after z
    | .ok .next, z => exact z.elim
    | .ok .brk, z => exact z.elim
    | .ok .cont, z => exact z.elim

/-! ### repr of plain data -/
section
variable {X : Cx}
def rReprD (K : PySem.W.Frag) : List V → Hp → VK → Prop := fun xs H Q =>
  ∃ (x : V) (d : PyData), xs = [x] ∧ Dp K H x d ∧ isDisplay d = true ∧ d.showable = true ∧ d.hasDict = false ∧
    d.depth ≤ 60 ∧ d.shown.length ≤ sizeLine ∧ Q (.str d.shown) H
theorem call_reprD (hg : X.A.guards = some []) (hu : X.A.units + 64 < cLine) : CallR X (.builtin "repr") (rReprD X.K) := by
  intro pins s σ H xs us Q I r h
  obtain ⟨x, d, rfl, hd, h1, h2, h3, h4, h5, q⟩ := h
  cases r with
  | cons rx rn =>
    cases rn
    rename_i u
    obtain ⟨as, rd⟩ := Dp.reads I d x u hd rx
    obtain ⟨a, rfl⟩ := isRef_of_reads rd h1
    refine repr_of_reads' rd h2 (PyData.noDict_hsm h3) hg (by omega) (fun _ _ e => e) (fun h' u tk hk => ?_) h5
    exact ⟨.str d.shown, H, I.kept hk, ⟨u, rfl⟩, q⟩
end
end HL

/-! HLb: what stays (Kp), readings step by step. -/
namespace HL
open PySem PySem.Spec PyProof.Rows L2

def Nin (q : Addr) : List Addr → Prop
  | [] => True
  | x :: r => q ≠ x ∧ Nin q r
/-- all that was tracked stands, but what is in W -/
def Kp (W : List Addr) (H H' : Hp) : Prop := ∀ q o, Nin q W → H q = some o → H' q = some o
theorem Kp.refl {W : List Addr} {H : Hp} : Kp W H H := fun _ _ _ h => h
theorem Kp.get {W : List Addr} {H H' : Hp} {q : Addr} {o : HO} (k : Kp W H H') (n : Nin q W) (h : H q = some o) : H' q = some o := k q o n h
theorem Nin.of_mem {q x : Addr} : ∀ {W : List Addr}, Nin q W → x ∈ W → q ≠ x
  | [], _, h => nomatch h
  | y :: r, ⟨a, b⟩, h => by
    rcases List.mem_cons.mp h with rfl | h
    · exact a
    · exact Nin.of_mem b h
theorem Nin.intro {q : Addr} : ∀ {W : List Addr}, (∀ x ∈ W, q ≠ x) → Nin q W
  | [], _ => trivial
  | y :: r, h => ⟨h y List.mem_cons_self, Nin.intro fun x hx => h x (List.mem_cons_of_mem _ hx)⟩
theorem Kp.upd_mem {W : List Addr} {H H' : Hp} {a : Addr} {o : HO} (k : Kp W H H') (m : a ∈ W) : Kp W H (upd H' a o) := fun q u n h => by
  rw [upd_ne (n.of_mem m)]
  exact k q u n h
theorem Kp.upd_new {W : List Addr} {H H' : Hp} {a : Addr} {o : HO} (k : Kp W H H') (m : H' a = none) : Kp W H (upd H' a o) := fun q u n h => by
  have e := k q u n h
  rw [upd_ne (ne_of_none e m)]
  exact e
theorem Kp.upd_loc {W : List Addr} {H H' : Hp} {a : Addr} {o : HO} (k : Kp W H H') (m : H a = none) : Kp W H (upd H' a o) := fun q u n h => by
  rw [upd_ne (ne_of_none h m)]
  exact k q u n h
/-- a step that changes what is in W, or what was not there ahead -/
theorem Kp.step {W W' : List Addr} {H H1 H2 : Hp} (k : Kp W H H1) (l : Kp W' H1 H2) (m : ∀ x ∈ W', x ∈ W ∨ H x = none) : Kp W H H2 := fun q u n h =>
  l q u (Nin.intro fun x hx => (m x hx).elim (fun z => n.of_mem z) fun z => ne_of_none h z) (k q u n h)
theorem Kp.free {W : List Addr} {H H' : Hp} {a : Addr} (k : Kp W H H') (n : Nin a W) (h : H' a = none) : H a = none := by
  cases e : H a with
  | none => rfl
  | some o =>
    rw [k a o n e] at h
    cases h
theorem Kp.same {H H' : Hp} (k : Kp [] H H') : Same H H' := fun b o h => k b o trivial h
theorem Kp.of_same {W : List Addr} {H H' : Hp} (k : Same H H') : Kp W H H' := fun b o _ h => k b o h
theorem Kp.weak {W W' : List Addr} {H H' : Hp} (k : Kp W H H') (m : ∀ x ∈ W, x ∈ W') : Kp W' H H' := fun q o n h => k q o (Nin.intro fun x hx => n.of_mem (m x hx)) h

/-! ### steps of readings -/
section
variable {σ : L2.St} {H : Hp} {Q : VK} {ta tb te : TE} {tt tu : TT} {i : Nat} {v x y : V} {K : PySem.W.Frag} {D : Ends} {t u : TS}
theorem s_var (h : σ[i]? = some (some v)) (q : Q v H) : tVar i σ H Q := ⟨v, h, q⟩
theorem s_c (q : Q v H) : tC v σ H Q := q
theorem s_op {r : R2} (h : ta σ H fun x H1 => tb σ H1 fun y H2 => r x y H2 Q) : tOp r ta tb σ H Q := h
theorem s_un {r : V → Hp → VK → Prop} (h : ta σ H fun x H1 => r x H1 Q) : tUn r ta σ H Q := h
theorem s_nil {Q : List V → Hp → Prop} (q : Q [] H) : tNil σ H Q := q
theorem s_cons {tr : TA} {Q : List V → Hp → Prop} (h : ta σ H fun x H1 => tr σ H1 fun xs H2 => Q (x :: xs) H2) : tCons ta tr σ H Q := h
theorem s_cb {r : List V → Hp → VK → Prop} {tl : TA} (h : tl σ H fun vs H1 => r vs H1 Q) : tCB r tl σ H Q := h
theorem s_call {sp : Sp} {dvs : List V} {E : XK} {tl : TA} (h : tl σ H fun vs H1 => sp (vs ++ dvs) H1 Q E) : tCall sp dvs E tl σ H Q := h
theorem s_test {Q : Bool → Hp → Prop} (h : te σ H fun x H1 => ∃ k, x = .bl k ∧ Q k H1) : tTest te σ H Q := h
theorem s_B {Q : Bool → Hp → Prop} (h : te σ H fun x H1 => ∃ k, x = .bl k ∧ Q k H1) : tB te σ H Q := h
theorem s_bl {R : Bool → Prop} {k : Bool} (q : R k) : ∃ k', V.bl k = .bl k' ∧ R k' := ⟨k, rfl, q⟩
theorem s_and {Q : Bool → Hp → Prop} (h : tt σ H fun c H1 => if c = true then tu σ H1 Q else Q false H1) : tAnd tt tu σ H Q := h
theorem s_or {Q : Bool → Hp → Prop} (h : tt σ H fun c H1 => if c = true then Q true H1 else tu σ H1 Q) : tOr tt tu σ H Q := h
theorem s_not {Q : Bool → Hp → Prop} (h : tt σ H fun c H1 => Q (!c) H1) : tNot tt σ H Q := h
theorem s_andV (h : ta σ H fun x H1 => ∃ c, x = .bl c ∧ if c = true then tb σ H1 Q else Q (.bl false) H1) : tAndV ta tb σ H Q := h
theorem s_orV (h : ta σ H fun x H1 => ∃ c, x = .bl c ∧ if c = true then Q (.bl true) H1 else tb σ H1 Q) : tOrV ta tb σ H Q := h
theorem s_notV (h : ta σ H fun x H1 => ∃ c, x = .bl c ∧ Q (.bl (!c)) H1) : tNotV ta σ H Q := h
theorem s_ifE (h : tt σ H fun c H1 => if c = true then ta σ H1 Q else tb σ H1 Q) : tIf tt ta tb σ H Q := h
theorem s_chain {r r' : R2} {tc : TE} (h : ta σ H fun x H1 => tb σ H1 fun y H2 => r x y H2 fun z H3 => ∃ k, z = .bl k ∧ (if k = true then tc σ H3 fun w' H4 => r' y w' H4 Q else Q (.bl false) H3)) : tChain r r' ta tb tc σ H Q := h
theorem s_tup {tl : TA} (h : tl σ H fun xs H1 => xs.length ≤ sizeLine ∧ ∀ p, H1 p = none → Q (.ref p) (upd H1 p (.tup xs))) : tTup tl σ H Q := h
theorem s_lst {tl : TA} (h : tl σ H fun xs H1 => xs.length ≤ sizeLine ∧ ∀ p, H1 p = none → Q (.ref p) (upd H1 p (.lst xs))) : tLst tl σ H Q := h
theorem s_sl {r : V → Option Int → Option Int → Hp → VK → Prop} {tl th : TO} (h : te σ H fun x H1 => tl σ H1 fun l H2 => th σ H2 fun u H3 => r x l u H3 Q) : tSl r te tl th σ H Q := h
theorem s_noPart {Q : Option Int → Hp → Prop} (q : Q none H) : tNoPart σ H Q := q
theorem s_part {Q : Option Int → Hp → Prop} (h : te σ H fun x H1 => ∃ i, x = .int i ∧ Q (some i) H1) : tPart te σ H Q := h
theorem s_int {R : Int → Prop} {k : Int} (q : R k) : ∃ i, V.int k = .int i ∧ R i := ⟨k, rfl, q⟩
theorem s_ints2 {R : Int → Int → Prop} {a b : Int} (q : R a b) : ∃ i j, [V.int a, V.int b] = [V.int i, V.int j] ∧ R i j := ⟨a, b, rfl, q⟩
theorem s_ints1 {R : Int → Prop} {a : Int} (q : R a) : ∃ i, [V.int a] = [V.int i] ∧ R i := ⟨a, rfl, q⟩
theorem s_strs1 {R : Str → Prop} {a : Str} (q : R a) : ∃ i, [V.str a] = [V.str i] ∧ R i := ⟨a, rfl, q⟩
theorem s_vals2 {R : V → V → Prop} {a b : V} (q : R a b) : ∃ i j, [a, b] = [i, j] ∧ R i j := ⟨a, b, rfl, q⟩
theorem s_vals3 {R : V → V → V → Prop} {a b c : V} (q : R a b c) : ∃ i j k, [a, b, c] = [i, j, k] ∧ R i j k := ⟨a, b, c, rfl, q⟩
theorem s_fld {f : Str} (h : ta σ H fun x H1 => ∃ a C dx fs v, x = .ref a ∧ H1 a = some (.ins C dx fs) ∧ Cls K C ∧ NoAttr K C f ∧ fs.lookup f = some v ∧ Q v H1) : tFld K ta f σ H Q := h
theorem s_bm {T : String} {r : V → List V → Hp → VK → Prop} {tl : TA} (h : ta σ H fun x H1 => tyV K T x H1 ∧ tl σ H1 fun xs H2 => r x xs H2 Q) : tBM K T r ta tl σ H Q := h
theorem s_bm0 {T : String} {r : V → List V → Hp → VK → Prop} (h : ta σ H fun x H1 => tyV K T x H1 ∧ r x [] H1 Q) : tBM0 K T r ta σ H Q := h
theorem s_m1 {r : V → List V → Hp → VK → Prop} (h : ta σ H fun x H1 => (∃ a, x = .str a) ∧ te σ H1 fun y H2 => r x [y] H2 Q) : tM1 r ta te σ H Q := h
theorem s_m0 {r : V → List V → Hp → VK → Prop} (h : ta σ H fun x H1 => (∃ a, x = .str a) ∧ r x [] H1 Q) : tM0 r ta σ H Q := h
theorem s_ex {a : Str} {P : Prop} (h : P) : (∃ b, V.str a = .str b) ∧ P := ⟨⟨a, rfl⟩, h⟩
/-! statements -/
theorem s_seq (h : t { D with nx := u D } σ H) : tSeq t u D σ H := h
theorem s_next (h : D.nx σ H) : tNext D σ H := h
theorem s_asg {g : TG} (h : te σ H fun x H1 => g x σ H1 D.nx) : tAsg te g D σ H := h
theorem s_gname {Q : L2.St → Hp → Prop} (q : Q (σ.set i (some v)) H) : gName i v σ H Q := q
theorem s_drop (h : te σ H fun _ H1 => D.nx σ H1) : tDrop te D σ H := h
theorem s_ret (h : te σ H D.rt) : tRet te D σ H := h
theorem s_retN (h : D.rt .non H) : tRetN D σ H := h
theorem s_ifS (h : tt σ H fun b H1 => if b = true then t D σ H1 else u D σ H1) : tIfS tt t u D σ H := h
theorem s_gsub {to ti : TE} {ts : TSet} {Q : L2.St → Hp → Prop} (h : to σ H fun o H1 => ti σ H1 fun i H2 => ts o i v H2 fun H3 => Q σ H3) : gSub to ti ts v σ H Q := h
theorem s_gtup {n : Nat} {g : TGs} {a : Addr} {xs : List V} {Q : L2.St → Hp → Prop} (h : SqT K H a xs) (l : xs.length = n) (q : g xs σ H Q) : gTup K n g (.ref a) σ H Q := ⟨a, xs, rfl, h, l, q⟩
theorem s_gcons {g : TG} {u : TGs} {r : List V} {Q : L2.St → Hp → Prop} (q : g v σ H fun σ' H' => u r σ' H' Q) : gCons g u (v :: r) σ H Q := ⟨v, r, rfl, q⟩
theorem s_gnil {Q : L2.St → Hp → Prop} (q : Q σ H) : gNil [] σ H Q := ⟨rfl, q⟩
theorem s_par3 {i j l : Nat} {tl : TA} (h : tl σ H fun vs H1 => ∃ u v w, vs = [u, v, w] ∧ D.nx (((σ.set i (some u)).set j (some v)).set l (some w)) H1) : tPar3 i j l tl D σ H := h
theorem s_par {i j : Nat} {tl : TA} (h : tl σ H fun vs H1 => ∃ v w, vs = [v, w] ∧ D.nx ((σ.set i (some v)).set j (some w)) H1) : tPar i j tl D σ H := h
/-! operators -/
theorem s_I0 {g : Int → Int → V} {a b : Int} (q : Q (g a b) H) : rI0 g (.int a) (.int b) H Q := ⟨a, b, rfl, rfl, q⟩
theorem s_I {C : Int → Int → Prop} {g : Int → Int → V} {a b : Int} (c : C a b) (q : Q (g a b) H) : rI C g (.int a) (.int b) H Q := ⟨a, b, rfl, rfl, c, q⟩
theorem s_eq (h : scal x y = true) (q : Q (.bl (decide (x = y))) H) : rEq x y H Q := ⟨h, q⟩
theorem s_ne (h : scal x y = true) (q : Q (.bl (!decide (x = y))) H) : rNe x y H Q := ⟨h, q⟩
theorem s_ixL {p : Addr} {xs : List V} {k : Int} (h : SqL K H p xs) (a : atI xs k = some v) (q : Q v H) : rIxL K (.ref p) (.int k) H Q := ⟨p, xs, k, v, rfl, rfl, h, a, q⟩
theorem s_ixT {p : Addr} {xs : List V} {k : Int} (h : SqT K H p xs) (a : atI xs k = some v) (q : Q v H) : rIxT K (.ref p) (.int k) H Q := ⟨p, xs, k, v, rfl, rfl, h, a, q⟩
theorem s_setL {p : Addr} {xs : List V} {k : Int} {j : Nat} {Q : Hp → Prop} (h : H p = some (.lst xs)) (a : ixN xs.length k = some j) (q : Q (upd H p (.lst (xs.set j v)))) : rSetL (.ref p) (.int k) v H Q := ⟨p, xs, k, j, rfl, rfl, h, a, q⟩
theorem s_append {p : Addr} {xs : List V} (h : H p = some (.lst xs)) (l : xs.length < sizeLine) (q : Q .non (upd H p (.lst (xs ++ [v])))) : rAppend (.ref p) [v] H Q := ⟨p, xs, v, rfl, rfl, h, l, q⟩
/-! what a test decides -/
theorem s_dec {c A B : Prop} [Decidable c] (h1 : c → A) (h2 : ¬ c → B) : if decide c = true then A else B := by
  by_cases h : c
  · rw [if_pos (decide_eq_true h)]; exact h1 h
  · rw [if_neg (by simpa using h)]; exact h2 h
theorem s_ndec {c A B : Prop} [Decidable c] (h1 : ¬ c → A) (h2 : c → B) : if (!decide c) = true then A else B := by
  by_cases h : c
  · rw [if_neg (by simpa using h)]; exact h2 h
  · rw [if_pos (by simpa using h)]; exact h1 h
theorem s_bool {c : Bool} {A B : Prop} (h1 : c = true → A) (h2 : c = false → B) : if c = true then A else B := by
  cases c with
  | true => rw [if_pos rfl]; exact h1 rfl
  | false => rw [if_neg Bool.false_ne_true]; exact h2 rfl
end
theorem st_start {t : TS} {D : Ends} {σ σ' : L2.St} {H : Hp} (e : σ = σ') (h : t D σ' H) : t D σ H := e ▸ h
theorem sq_l {K : PySem.W.Frag} {H : Hp} {a : Addr} {xs : List V} (h : H a = some (.lst xs)) : SqL K H a xs := .inl (.inl h)
theorem sq_t {K : PySem.W.Frag} {H : Hp} {a : Addr} {xs : List V} (h : H a = some (.tup xs)) : SqT K H a xs := .inl (.inl h)
theorem Kp.seqL {W : List Addr} {K : PySem.W.Frag} {H H' : Hp} {a : Addr} {xs : List V} (k : Kp W H H') (n : Nin a W) (h : SqL K H a xs) : SqL K H' a xs := by
  rcases h with (h | ⟨o, h⟩) | h
  · exact .inl (.inl (k _ _ n h))
  · exact .inl (.inr ⟨o, k _ _ n h⟩)
  · exact .inr h
end HL

/-! HLc: comprehensions by what they have made, isinstance, facts of the text's defs. -/
namespace HL
open PySem PySem.Spec PyProof.Rows L2

/-- a def of the text, called by its name: its promise -/
def DnF (P : Program) (w : World) (K : PySem.W.Frag) (mg : Str → Option Value) (base : Heap) (k : Nat) (x : Str) (ps : List Str) (sp : Sp) : Prop :=
  ∃ (f : Addr) (fd : FuncData), FnOk P w K mg base CX0 k f fd ps sp ∧ mg x = some (.ref f) ∧ PySem.W.keepIn K (.ref f) = true ∧ Binds K fd ps []
def DnG (P : Program) (w : World) (K : PySem.W.Frag) (mg : Str → Option Value) (base : Heap) (k : Nat) (x : Str) (ps : List Str) (sp : Sp) : Prop :=
  ∃ (f : Addr) (fd : FuncData), FnG P w K mg base k f fd ps sp ∧ mg x = some (.ref f) ∧ PySem.W.keepIn K (.ref f) = true ∧ Binds K fd ps []

/-! ### comprehensions: acc i is what is made behind i turns; W what the parts may change, R what is known of that -/
structure LcOk (D : Addr) (n : Nat) (acc : Nat → List V) (W : List Addr) (H1 : Hp) (R : Nat → Hp → Prop) : Prop where
  sz : n ≤ sizeLine
  a0 : acc 0 = []
  al : ∀ i, i ≤ n → (acc i).length ≤ i
  nD : H1 D = none
  nW : Nin D W
  st : ∀ i H o, R i H → R i (upd H D o)
def LcInv (D : Addr) (acc : Nat → List V) (W : List Addr) (H1 : Hp) (R : Nat → Hp → Prop) (i : Nat) (H : Hp) : Prop := H D = some (.lst (acc i)) ∧ Kp W H1 H ∧ R i H
section
variable {J : It} {n : Nat} {G : Hp → Prop} {Y : Nat → Hp → V → Hp → Prop} {D : Addr} {acc : Nat → List V} {W : List Addr} {H1 H H4 : Hp} {R : Nat → Hp → Prop} {i : Nat} {y : V}
theorem LcInv.put (I : LcInv D acc W H1 R i H) (L : LcOk D n acc W H1 R) (hi : i < n) (e : acc (i + 1) = acc i ++ [y]) (k : Kp W H H4) (r : R (i + 1) H4) :
    ∃ a, H4 D = some (.lst a) ∧ a.length < sizeLine ∧ LcInv D acc W H1 R (i + 1) (upd H4 D (.lst (a ++ [y]))) := by
  obtain ⟨p1, p2, p3⟩ := I
  refine ⟨acc i, k.get L.nW p1, ?_, by rw [upd_same, e], ?_, L.st _ _ _ r⟩
  · have h1 := L.al i (Nat.le_of_lt hi)
    have h2 := L.sz
    omega
  · exact (p2.step k (fun x hx => .inl hx)).upd_loc L.nD
theorem LcInv.skip (I : LcInv D acc W H1 R i H) (L : LcOk D n acc W H1 R) (e : acc (i + 1) = acc i) (k : Kp W H H4) (r : R (i + 1) H4) : LcInv D acc W H1 R (i + 1) H4 :=
  ⟨by rw [e]; exact k.get L.nW I.1, I.2.1.step k (fun x hx => .inl hx), r⟩
theorem lc_go (w : Walk J n G Y) (L : LcOk D n acc W H1 R) {g : TG} {tt : TT} {te : TE} {vs : List Nat} {σ : L2.St} {Qd : Hp → Prop} (r0 : R 0 H1) (hG : ∀ H, Kp W H1 H → G H)
    (hs : ∀ i x H H', i < n → LcInv D acc W H1 R i H → Y i H x H' → g x (wipe σ vs) H' fun σ2 H2 => wipe σ2 vs = wipe σ vs ∧ tt σ2 H2 fun b H3 =>
      if b = true then te σ2 H3 fun y H4 => ∃ a, H4 D = some (.lst a) ∧ a.length < sizeLine ∧ LcInv D acc W H1 R (i + 1) (upd H4 D (.lst (a ++ [y]))) else LcInv D acc W H1 R (i + 1) H3)
    (hd : ∀ H, LcInv D acc W H1 R n H → Qd H) :
    ∃ W : Nat → Nat → Hp → Prop, (∃ m, W 0 m (upd H1 D (.lst []))) ∧ ∀ i m H, W i m H →
      (J.stop i H ∧ Qd H) ∨ (J.go i H ∧ ∃ Nx : Hp → Prop, (∀ H', Nx H' → ∃ m', m' < m ∧ W (i + 1) m' H') ∧ ∀ x H', J.yld i H x H' → g x (wipe σ vs) H' fun σ2 H2 => wipe σ2 vs = wipe σ vs ∧ tt σ2 H2 fun b H3 =>
        if b = true then te σ2 H3 fun y H4 => ∃ acc, H4 D = some (.lst acc) ∧ acc.length < sizeLine ∧ Nx (upd H4 D (.lst (acc ++ [y]))) else Nx H3) :=
  lc_it w (LcInv D acc W H1 R) ⟨by rw [upd_same, L.a0], Kp.refl.upd_new L.nD, L.st _ _ _ r0⟩ (fun i H _ p => hG H p.2.1) hs hd
end
theorem LcOk.ofTake {D : Addr} {n : Nat} {ys : List V} {W : List Addr} {H1 : Hp} {R : Nat → Hp → Prop} (sz : n ≤ sizeLine) (nD : H1 D = none) (nW : Nin D W) (st : ∀ i H o, R i H → R i (upd H D o)) : LcOk D n (fun i => ys.take i) W H1 R :=
  ⟨sz, List.take_zero, fun i _ => by rw [List.length_take]; omega, nD, nW, st⟩
theorem take_put {α : Type} {l : List α} {i : Nat} {x : α} (h : l[i]? = some x) : l.take (i + 1) = l.take i ++ [x] := by
  rw [List.take_add_one, h]
  rfl
/-! ### comprehensions whose values are not told ahead: PL i xs of what is made behind i turns -/
structure LcOkP (D : Addr) (n : Nat) (PL : Nat → List V → Prop) (W : List Addr) (H1 : Hp) (R : Nat → Hp → Prop) : Prop where
  sz : n ≤ sizeLine
  a0 : PL 0 []
  nD : H1 D = none
  nW : Nin D W
  st : ∀ i H o, R i H → R i (upd H D o)
def LcInvP (D : Addr) (PL : Nat → List V → Prop) (W : List Addr) (H1 : Hp) (R : Nat → Hp → Prop) (i : Nat) (H : Hp) : Prop :=
  (∃ xs, H D = some (.lst xs) ∧ PL i xs ∧ xs.length ≤ i) ∧ Kp W H1 H ∧ R i H
section
variable {J : It} {n : Nat} {G : Hp → Prop} {Y : Nat → Hp → V → Hp → Prop} {D : Addr} {PL : Nat → List V → Prop} {W : List Addr} {H1 H H4 : Hp} {R : Nat → Hp → Prop} {i : Nat} {y : V}
theorem LcInvP.put (I : LcInvP D PL W H1 R i H) (L : LcOkP D n PL W H1 R) (hi : i < n) (e : ∀ xs, PL i xs → PL (i + 1) (xs ++ [y])) (k : Kp W H H4) (r : R (i + 1) H4) :
    ∃ a, H4 D = some (.lst a) ∧ a.length < sizeLine ∧ LcInvP D PL W H1 R (i + 1) (upd H4 D (.lst (a ++ [y]))) := by
  obtain ⟨⟨xs, p0, p1, pl⟩, p2, p3⟩ := I
  have h2 := L.sz
  refine ⟨xs, k.get L.nW p0, by omega, ⟨xs ++ [y], upd_same, e xs p1, by simp; exact pl⟩, ?_, L.st _ _ _ r⟩
  exact (p2.step k (fun x hx => .inl hx)).upd_loc L.nD
theorem lc_goP (w : Walk J n G Y) (L : LcOkP D n PL W H1 R) {g : TG} {tt : TT} {te : TE} {vs : List Nat} {σ : L2.St} {Qd : Hp → Prop} (r0 : R 0 H1) (hG : ∀ H, Kp W H1 H → G H)
    (hs : ∀ i x H H', i < n → LcInvP D PL W H1 R i H → Y i H x H' → g x (wipe σ vs) H' fun σ2 H2 => wipe σ2 vs = wipe σ vs ∧ tt σ2 H2 fun b H3 =>
      if b = true then te σ2 H3 fun y H4 => ∃ a, H4 D = some (.lst a) ∧ a.length < sizeLine ∧ LcInvP D PL W H1 R (i + 1) (upd H4 D (.lst (a ++ [y]))) else LcInvP D PL W H1 R (i + 1) H3)
    (hd : ∀ H, LcInvP D PL W H1 R n H → Qd H) :
    ∃ W : Nat → Nat → Hp → Prop, (∃ m, W 0 m (upd H1 D (.lst []))) ∧ ∀ i m H, W i m H →
      (J.stop i H ∧ Qd H) ∨ (J.go i H ∧ ∃ Nx : Hp → Prop, (∀ H', Nx H' → ∃ m', m' < m ∧ W (i + 1) m' H') ∧ ∀ x H', J.yld i H x H' → g x (wipe σ vs) H' fun σ2 H2 => wipe σ2 vs = wipe σ vs ∧ tt σ2 H2 fun b H3 =>
        if b = true then te σ2 H3 fun y H4 => ∃ acc, H4 D = some (.lst acc) ∧ acc.length < sizeLine ∧ Nx (upd H4 D (.lst (acc ++ [y]))) else Nx H3) :=
  lc_it w (LcInvP D PL W H1 R) ⟨⟨[], upd_same, L.a0, Nat.le_refl _⟩, Kp.refl.upd_new L.nD, L.st _ _ _ r0⟩ (fun i H _ p => hG H p.2.1) hs hd
end
/-! ### small steps more -/
section
variable {σ : L2.St} {H : Hp} {Q : VK} {K : PySem.W.Frag} {A B : Prop}
theorem s_lc {wi : TI} {g : TG} {tt : TT} {te : TE} {vs : List Nat} (h : wi σ H fun J H1 => ∀ D, H1 D = none → ∃ W : Nat → Nat → Hp → Prop, (∃ m, W 0 m (upd H1 D (.lst []))) ∧ ∀ i m H, W i m H →
  (J.stop i H ∧ Q (.ref D) H) ∨ (J.go i H ∧ ∃ Nx : Hp → Prop, (∀ H', Nx H' → ∃ m', m' < m ∧ W (i + 1) m' H') ∧ ∀ x H', J.yld i H x H' → g x (wipe σ vs) H' fun σ2 H2 => wipe σ2 vs = wipe σ vs ∧ tt σ2 H2 fun b H3 =>
    if b = true then te σ2 H3 fun y H4 => ∃ acc, H4 D = some (.lst acc) ∧ acc.length < sizeLine ∧ Nx (upd H4 D (.lst (acc ++ [y]))) else Nx H3)) : tLc wi g tt te vs σ H Q := h
theorem s_iStr {te : TE} {R : It → Hp → Prop} (h : te σ H fun v H1 => ∃ x, v = .str x ∧ R (Its x) H1) : iStr te σ H R := h
theorem s_iList {te : TE} {R : It → Hp → Prop} (h : te σ H fun x H1 => ∃ a, x = .ref a ∧ (∃ xs, SqL K H1 a xs) ∧ R (Itl K a) H1) : iList K te σ H R := h
theorem s_iTup {te : TE} {R : It → Hp → Prop} (h : te σ H fun x H1 => ∃ a, x = .ref a ∧ (∃ xs, SqT K H1 a xs) ∧ R (Itt K a) H1) : iTup K te σ H R := h
theorem s_iRng1 {ta : TA} {R : It → Hp → Prop} (h : ta σ H fun vs H1 => ∃ j : Int, vs = [.int j] ∧ -(2 ^ 62) ≤ j ∧ j < 2 ^ 62 ∧ R (Itr 0 j.toNat) H1) : iRng1 ta σ H R := h
theorem s_str {R : Str → Prop} {a : Str} (q : R a) : ∃ x, V.str a = .str x ∧ R x := ⟨a, rfl, q⟩
theorem s_ref {R : Addr → Prop} {a : Addr} (q : R a) : ∃ x, V.ref a = .ref x ∧ R x := ⟨a, rfl, q⟩
theorem s_yes {R : Bool → Hp → Prop} (q : R true H) : tYes σ H R := q
theorem s_for {wi : TI} {g : TG} {tb : TS} {E : Ends} (h : wi σ H fun J H1 => ∃ W : Nat → Nat → L2.St → Hp → Prop, (∃ m, W 0 m σ H1) ∧ ∀ i m σ H, W i m σ H →
      (J.stop i H ∧ E.nx σ H) ∨ (J.go i H ∧ ∃ N : L2.St → Hp → Prop, (∀ σ' H', N σ' H' → ∃ m', m' < m ∧ W (i + 1) m' σ' H') ∧ ∀ x H', J.yld i H x H' → g x σ H' fun σ2 H2 => tb { E with nx := N, ct := N, bk := E.nx } σ2 H2)) : tFor wi g tb E σ H := h
theorem i_T (h : A) : if true = true then A else B := by rw [if_pos rfl]; exact h
theorem i_F (h : B) : if false = true then A else B := by rw [if_neg Bool.false_ne_true]; exact h
theorem i_nT (h : B) : if (!true) = true then A else B := by rw [if_neg (by decide)]; exact h
theorem i_nF (h : A) : if (!false) = true then A else B := by rw [if_pos (by decide)]; exact h
theorem isi_ty {x : V} {t T : String} {b : Bool} (ht : TyX K H x (.type t)) (hk : kitB t T = some b) (q : Q (.bl b) H) : rIsi K [x, .ty T] H Q := ⟨x, .ty T, .type t, .type T, b, rfl, .ty T, ht, kit_ty hk, q⟩
theorem s_lenS {z : Str} (l : z.length ≤ sizeLine) (q : Q (.int z.length) H) : (fun (xs : List V) (H : Hp) (Q : VK) => ∃ z, xs = [.str z] ∧ z.length ≤ sizeLine ∧ Q (.int z.length) H) [.str z] H Q := ⟨z, rfl, l, q⟩
end
end HL

/-! HLm: words between dots, in plain Lean. -/
namespace HL
open PySem PySem.Spec PyProof.Rows L2 TL
def mkS (l : List Nat) : Str := ⟨l.toArray⟩
theorem tl_mkS (l : List Nat) : tl (mkS l) = l := rfl
theorem mkS_tl (z : Str) : mkS (tl z) = z := mk_tl z
theorem mkS_inj {a b : List Nat} (h : mkS a = mkS b) : a = b := by
  have := congrArg tl h
  exact this
theorem mkS_len (l : List Nat) : (mkS l).length = l.length := by rw [len_tl, tl_mkS]
theorem mkS_app (a b : List Nat) : mkS a ++ mkS b = mkS (a ++ b) := ext_tl (by rw [tl_append, tl_mkS, tl_mkS, tl_mkS])
/-- the words between dots; acc what the first one has already -/
def wds : List Nat → List Nat → List (List Nat)
  | acc, [] => [acc]
  | acc, c :: r => if c = 46 then acc :: wds [] r else wds (acc ++ [c]) r
theorem wds_spl : ∀ (l acc : List Nat), spl [46] 0 acc l = wds acc l
  | [], acc => by rw [spl_nil]; rfl
  | c :: r, acc => by
    by_cases h : c = 46
    · subst h
      rw [spl_hit (by simp [pre])]
      show acc :: spl [46] 0 [] r = _
      rw [wds_spl r]
      simp [wds]
    · rw [spl_miss (pre_of_head _ _ h), wds_spl r]
      simp [wds, h]
theorem map_mkS_tl (ys : List Str) : (ys.map tl).map mkS = ys := by
  rw [List.map_map]
  conv => rhs; rw [← List.map_id ys]
  exact List.map_congr_left fun a _ => mkS_tl a
/-- z.split('.') -/
theorem split_dot (z : Str) : Txt.split z "." = (wds [] (tl z)).map mkS := by
  have h := split_spl z "." (by decide +kernel) (kind_ok (by decide +kernel))
  rw [show tl "." = [46] from by decide +kernel, wds_spl] at h
  rw [← h, map_mkS_tl]
theorem wds_ne : ∀ (l acc : List Nat), wds acc l ≠ []
  | [], acc => by simp [wds]
  | c :: r, acc => by
    unfold wds
    split
    · simp
    · exact wds_ne r _
theorem wds_mem : ∀ (l acc p : List Nat), p ∈ wds acc l → p.length ≤ acc.length + l.length
  | [], acc, p, h => by simp [wds] at h; subst h; simp
  | c :: r, acc, p, h => by
    unfold wds at h
    split at h
    · rcases List.mem_cons.mp h with rfl | h
      · simp
      · have := wds_mem r [] p h
        simp at this ⊢
        omega
    · have := wds_mem r _ p h
      simp at this ⊢
      omega
theorem wds_length : ∀ (l acc : List Nat), (wds acc l).length ≤ l.length + 1
  | [], acc => by simp [wds]
  | c :: r, acc => by
    unfold wds
    split
    · have := wds_length r []
      simp
      omega
    · have := wds_length r (acc ++ [c])
      simp
      omega
theorem wds_sum : ∀ (l acc : List Nat), ((wds acc l).map List.length).sum ≤ acc.length + l.length
  | [], acc => by simp [wds]
  | c :: r, acc => by
    unfold wds
    split
    · have := wds_sum r []
      simp at this ⊢
      omega
    · have := wds_sum r (acc ++ [c])
      simp at this ⊢
      omega
/-- one sign more -/
def wst (s : List (List Nat) × List Nat) (c : Nat) : List (List Nat) × List Nat := if c = 46 then (s.1 ++ [s.2], []) else (s.1, s.2 ++ [c])
theorem wst_run : ∀ (l : List Nat) (p : List (List Nat)) (acc : List Nat), (l.foldl wst (p, acc)).1 ++ [(l.foldl wst (p, acc)).2] = p ++ wds acc l
  | [], p, acc => rfl
  | c :: r, p, acc => by
    rw [List.foldl_cons]
    by_cases h : c = 46
    · rw [show wst (p, acc) c = (p ++ [acc], []) by unfold wst; rw [if_pos h]]
      rw [wst_run r, List.append_assoc]
      simp [wds, h]
    · rw [show wst (p, acc) c = (p, acc ++ [c]) by unfold wst; rw [if_neg h]]
      rw [wst_run r]
      simp [wds, h]
theorem joinL_dot : ∀ {ps : List (List Nat)}, ps ≠ [] → (∀ p ∈ ps, 46 ∉ p) → wds [] (joinL [46] ps) = ps := fun hne h => by
  rw [← wds_spl]
  exact spl_join hne h
theorem wds_free : ∀ (l acc : List Nat), 46 ∉ acc → ∀ p ∈ wds acc l, 46 ∉ p
  | [], acc, h, p, hp => by simp [wds] at hp; subst hp; exact h
  | c :: r, acc, h, p, hp => by
    unfold wds at hp
    split at hp
    · rcases List.mem_cons.mp hp with rfl | hp
      · exact h
      · exact wds_free r [] (by simp) p hp
    · rename_i hc
      exact wds_free r _ (by simp [h]; exact fun e => hc e.symm) p hp
theorem sum_take_le (f : List Nat → Nat) : ∀ (l : List (List Nat)) (k : Nat), ((l.take k).map f).sum ≤ (l.map f).sum
  | [], k => by simp
  | a :: r, 0 => by simp
  | a :: r, k + 1 => by
    have := sum_take_le f r k
    rw [List.take_succ_cons, List.map_cons, List.sum_cons, List.map_cons, List.sum_cons]
    omega
theorem joinS (ps : List (List Nat)) : Txt.join "." (ps.map mkS) = mkS (joinL [46] ps) := ext_tl (by
  rw [join_eq, tl_join, List.map_map, show tl "." = [46] from by decide +kernel, tl_mkS]
  congr 1
  conv => rhs; rw [← List.map_id ps]
  exact List.map_congr_left fun a _ => tl_mkS a)
theorem eqvAll_strs : ∀ xs ys : List Str, PyData.eqvAll (xs.map PyData.str) (ys.map PyData.str) = decide (xs = ys)
  | [], [] => by simp [PyData.eqvAll]
  | [], _ :: _ => by simp [PyData.eqvAll]
  | _ :: _, [] => by simp [PyData.eqvAll]
  | x :: xs, y :: ys => by
    have ih := eqvAll_strs xs ys
    simp only [List.map_cons, PyData.eqvAll, ih, PyData.eqv]
    by_cases h : x = y
    · subst h; simp
    · simp [h]
theorem dpAll_strs {K : PySem.W.Frag} {H : Hp} : ∀ xs : List Str, DpAll K H (xs.map V.str) (xs.map PyData.str)
  | [] => .nil
  | x :: xs => .cons (.str x) (dpAll_strs xs)
theorem joinL_len (S : List Nat) : ∀ ps : List (List Nat), (joinL S ps).length ≤ (ps.map List.length).sum + ps.length * S.length
  | [] => by simp [joinL]
  | [p] => by simp [joinL]
  | p :: q :: r => by
    have ih := joinL_len S (q :: r)
    have e : joinL S (p :: q :: r) = p ++ S ++ joinL S (q :: r) := by simp [joinL]
    rw [e, List.length_append, List.length_append, List.map_cons, List.sum_cons, List.length_cons, Nat.add_mul]
    omega
theorem join_len (y : Str) (ps : List Str) : (Txt.join y ps).length ≤ (ps.map (·.length)).sum + ps.length * y.length := by
  have h := joinL_len (tl y) (ps.map tl)
  rw [len_tl, join_eq, tl_join]
  rw [List.length_map, List.map_map, ← len_tl] at h
  have e : (List.map (List.length ∘ tl) ps) = ps.map (·.length) := List.map_congr_left fun a _ => (len_tl a).symm
  rw [e] at h
  exact h
theorem sum_le_of {l : List Str} {m : Nat} (h : ∀ y ∈ l, y.length ≤ m) : (l.map (·.length)).sum ≤ l.length * m := by
  induction l with
  | nil => simp
  | cons a r ih =>
    have h1 := h a List.mem_cons_self
    have h2 := ih fun y hy => h y (List.mem_cons_of_mem _ hy)
    rw [List.map_cons, List.sum_cons, List.length_cons, Nat.add_mul]
    omega
/-- codes that a text may have -/
def OkL (l : List Nat) : Prop := ∀ c ∈ l, c < 1114112
theorem OkL.app {a b : List Nat} (h : OkL a) (g : OkL b) : OkL (a ++ b) := fun c hc => (List.mem_append.mp hc).elim (h c) (g c)
theorem OkL.str {l : List Nat} (h : OkL l) : PyData.strOk (mkS l) = true := by
  unfold PyData.strOk mkS
  simp only [List.all_toArray, List.all_eq_true]
  intro c hc
  simpa using h c hc
theorem OkL.strT {z : Str} (h : OkL (tl z)) : PyData.strOk z = true := by
  have := OkL.str h
  rw [mkS_tl] at this
  exact this
theorem atI_mem {α : Type} {xs : List α} {i : Int} {v : α} (h : atI xs i = some v) : v ∈ xs := by
  unfold atI at h
  cases e : ixN xs.length i with
  | none => rw [e] at h; cases h
  | some j => rw [e] at h; exact List.mem_of_getElem? h
theorem joinL_mem {S : List Nat} {c : Nat} : ∀ ps : List (List Nat), c ∈ joinL S ps → c ∈ S ∨ ∃ p ∈ ps, c ∈ p
  | [], h => by simp [joinL] at h
  | [p], h => .inr ⟨p, by simp, by simpa [joinL] using h⟩
  | p :: q :: r, h => by
    have e : joinL S (p :: q :: r) = p ++ (S ++ joinL S (q :: r)) := rfl
    rw [e] at h
    rcases List.mem_append.mp h with h | h
    · exact .inr ⟨p, by simp, h⟩
    rcases List.mem_append.mp h with h | h
    · exact .inl h
    rcases joinL_mem (q :: r) h with h | ⟨y, hy, hc⟩
    · exact .inl h
    · exact .inr ⟨y, List.mem_cons_of_mem _ hy, hc⟩
theorem OkL.join {s : Str} {ys : List Str} (h : OkL (tl s)) (g : ∀ y ∈ ys, OkL (tl y)) : OkL (tl (Txt.join s ys)) := fun c hc => by
  rw [join_eq, tl_join] at hc
  rcases joinL_mem _ hc with e | ⟨p, hp, e⟩
  · exact h c e
  · obtain ⟨y, hy, rfl⟩ := List.mem_map.mp hp
    exact g y hy c e
theorem wds_sub : ∀ (l acc p : List Nat), p ∈ wds acc l → ∀ c ∈ p, c ∈ acc ∨ c ∈ l
  | [], acc, p, h, c, hc => by simp [wds] at h; subst h; exact .inl hc
  | a :: r, acc, p, h, c, hc => by
    unfold wds at h
    split at h
    · rcases List.mem_cons.mp h with rfl | h
      · exact .inl hc
      · rcases wds_sub r [] p h c hc with e | e
        · cases e
        · exact .inr (List.mem_cons_of_mem _ e)
    · rcases wds_sub r _ p h c hc with e | e
      · rcases List.mem_append.mp e with e | e
        · exact .inl e
        · rw [List.mem_singleton.mp e]
          exact .inr List.mem_cons_self
      · exact .inr (List.mem_cons_of_mem _ e)
theorem OkL.wds {l : List Nat} (h : OkL l) : ∀ p ∈ wds [] l, OkL p := fun p hp c hc => by
  rcases wds_sub l [] p hp c hc with e | e
  · cases e
  · exact h c e
theorem OkL.cut {z : Str} (h : OkL (tl z)) (lo hi : Option Int) : OkL (tl (cutS z lo hi)) := fun c hc => by
  apply h
  have hc2 : c ∈ List.take (HT.sIx z.length z.length hi - HT.sIx z.length 0 lo) (List.drop (HT.sIx z.length 0 lo) z.cps.toList) := hc
  exact List.mem_of_mem_drop (List.mem_of_mem_take hc2)
theorem shaped_strs {xs : List Str} (h : ∀ x ∈ xs, PyData.strOk x = true) : SeqAt.shaped (.list (xs.map PyData.str)) = true := by
  have e : ∀ ys : List Str, (∀ x ∈ ys, PyData.strOk x = true) → PyData.canLayAll0 (ys.map PyData.str) = true ∧ PyData.depthAll (ys.map PyData.str) = 0 := by
    intro ys
    induction ys with
    | nil => intro _; simp [PyData.canLayAll0, PyData.depthAll]
    | cons a r ih =>
      intro g
      obtain ⟨h1, h2⟩ := ih fun x hx => g x (List.mem_cons_of_mem _ hx)
      simp [PyData.canLayAll0, PyData.depthAll, PyData.canLay0, PyData.depth, h1, h2, g a List.mem_cons_self]
  obtain ⟨h1, h2⟩ := e xs h
  unfold SeqAt.shaped
  simp [PyData.canLay0, PyData.depth, h1, h2]
/-- what a name is -/
def lets : List Nat := tl "abcdefghijklmnopqrstuvwxyz"
def isNameL (l : List Nat) : Bool := decide (1 ≤ l.length) && decide (l.length ≤ 8) && l.all fun c => decide (c ∈ lets)
def isPathL (l : List Nat) : Bool := decide ((wds [] l).length ≤ 4) && (wds [] l).all isNameL
theorem joinL_cons (S p : List Nat) {ps : List (List Nat)} (h : ps ≠ []) : joinL S (p :: ps) = p ++ (S ++ joinL S ps) := by
  cases ps with
  | nil => exact absurd rfl h
  | cons a r => rfl
theorem joinL_wds : ∀ (l acc : List Nat), joinL [46] (wds acc l) = acc ++ l
  | [], acc => by simp [wds, joinL]
  | c :: r, acc => by
    unfold wds
    split
    · rename_i h
      rw [joinL_cons _ _ (wds_ne _ _), joinL_wds r []]
      simp [h]
    · rw [joinL_wds r _]
      simp
theorem wds_one : ∀ (l acc : List Nat), (wds acc l).length = 1 → wds acc l = [acc ++ l]
  | [], acc, _ => by simp [wds]
  | c :: r, acc, h => by
    unfold wds at h ⊢
    split at h
    · have := List.length_pos_iff.mpr (wds_ne r [])
      simp at h
      exact absurd h (wds_ne r [])
    · rename_i hc
      rw [if_neg hc, wds_one r _ h]
      simp
theorem wds_nodot : ∀ (l acc : List Nat), 46 ∉ l → wds acc l = [acc ++ l]
  | [], acc, _ => by simp [wds]
  | c :: r, acc, h => by
    have hc : c ≠ 46 := fun e => h (by simp [e])
    unfold wds
    rw [if_neg hc, wds_nodot r _ fun q => h (List.mem_cons_of_mem _ q)]
    simp
theorem name_nodot {l : List Nat} (h : isNameL l = true) : 46 ∉ l := fun hm => by
  unfold isNameL at h
  simp only [Bool.and_eq_true, List.all_eq_true, decide_eq_true_eq] at h
  have := h.2 46 hm
  revert this
  decide +kernel
theorem name_words (l : List Nat) : isNameL l = (decide ((wds [] l).length = 1) && (wds [] l).all isNameL) := by
  by_cases h1 : (wds [] l).length = 1
  · rw [wds_one l [] h1]
    simp
  · rw [decide_eq_false h1, Bool.false_and]
    cases h : isNameL l with
    | false => rfl
    | true => exact absurd (by rw [wds_nodot l [] (name_nodot h)]; rfl) h1
end HL

/-! HLk: the rules with the written part K named, for use within a comprehension's block too. -/
namespace HL
open PySem PySem.Spec PyProof.Rows L2 TL
def rLen (K : PySem.W.Frag) : List V → Hp → VK → Prop := fun vs H Q =>
  ∃ p ys, vs = [.ref p] ∧ (SqL K H p ys ∨ SqT K H p ys) ∧ Q (.int ys.length) H
def rLenS : List V → Hp → VK → Prop := fun vs H Q =>
  ∃ z : Str, vs = [.str z] ∧ z.length ≤ sizeLine ∧ Q (.int z.length) H
def rListOf (K : PySem.W.Frag) : List V → Hp → VK → Prop := fun vs H Q =>
  ∃ p ys, vs = [.ref p] ∧ (SqL K H p ys ∨ SqT K H p ys) ∧ ∀ l, H l = none → Q (.ref l) (upd H l (.lst ys))
def rTupleOf (K : PySem.W.Frag) : List V → Hp → VK → Prop := fun vs H Q =>
  ∃ p ys, vs = [.ref p] ∧ ((SqL K H p ys ∧ ∀ l, H l = none → Q (.ref l) (upd H l (.tup ys))) ∨ (SqT K H p ys ∧ Q (.ref p) H))
def rJoin (K : PySem.W.Frag) : V → List V → Hp → VK → Prop := fun x vs H Q =>
  ∃ a p, ∃ ys : List Str, x = .str a ∧ vs = [.ref p] ∧ (SqL K H p (ys.map V.str) ∨ SqT K H p (ys.map V.str)) ∧
    (ys.map (·.length)).sum + ys.length * a.length ≤ 16777216 ∧ Q (.str (Txt.join a ys)) H
def rSplit : V → List V → Hp → VK → Prop := fun x vs H Q =>
  ∃ a b, x = .str a ∧ vs = [.str b] ∧ (b.length == 0) = false ∧ a.length + 2 ≤ sizeLine ∧ rNewStrs (Txt.split a b) H Q
def rAddS : R2 := fun x y H Q => ∃ i j, x = .str i ∧ y = .str j ∧ i.length + j.length ≤ sizeLine ∧ Q (.str (i ++ j)) H
def rInSg : R2 := fun x y H Q => ∃ (c : Nat) (z : Str), x = .str ⟨#[c]⟩ ∧ y = .str z ∧ Q (.bl (decide (c ∈ z.cps.toList))) H
def rDivmod : List V → Hp → VK → Prop := fun vs H Q => ∃ i j, vs = [.int i, .int j] ∧ CDiv i j ∧ ∀ p, H p = none → Q (.ref p) (upd H p (.tup [.int (i / j), .int (i % j)]))
section
variable {X : Cx} {K : PySem.W.Frag} {e tg : Expr} {to : TE} {tl : TA} {T : String} {r : V → List V → Hp → VK → Prop}
theorem addS : OpR X (binaryOp .Add) rAddS := op_add_str
theorem inSg : OpR X (compareOp .In) rInSg := op_in_sign
theorem divmodR : CallR X (.builtin "divmod") rDivmod := call_divmod
theorem ixLK (h : X.K = K) : IxR X (rIxL K) := h ▸ ix_list
theorem ixTK (h : X.K = K) : IxR X (rIxT K) := h ▸ ix_tup
theorem slLK (h : X.K = K) : SlR X (rSlL K) := h ▸ sl_list
theorem slTK (h : X.K = K) : SlR X (rSlT K) := h ▸ sl_tup
theorem inK (h : X.K = K) : OpR X (compareOp .In) (rIn K false) := h ▸ op_in_seq
theorem ninK (h : X.K = K) : OpR X (compareOp .NotIn) (rIn K true) := h ▸ op_notIn_seq
theorem eqDK (h : X.K = K) (hu : X.A.units + 64 < cLine) : OpR X (compareOp .Eq) (rEqD K) := h ▸ op_eqD hu
theorem neDK (h : X.K = K) (hu : X.A.units + 64 < cLine) : OpR X (compareOp .NotEq) (rNeD K) := h ▸ op_neD hu
theorem lenK (h : X.K = K) : CallR X (.builtin "len") (rLen K) := h ▸ call_len_seq
theorem lenS : CallR X (.builtin "len") rLenS := call_len_str
theorem listK (h : X.K = K) : CallR X (.type "list") (rListOf K) := h ▸ call_list_of
theorem tupleK (h : X.K = K) : CallR X (.type "tuple") (rTupleOf K) := h ▸ call_tuple_of
theorem joinK (h : X.K = K) : MtR X "str.join" (rJoin K) := h ▸ mt_join
theorem splitR : MtR X "str.split" rSplit := mt_split
theorem isiK (h : X.K = K) : CallR X (.builtin "isinstance") (rIsi K) := h ▸ call_isi
theorem allK (h : X.K = K) (hc : X.calm = true) : CallR X (.builtin "all") (rAll K) := h ▸ cr_all hc
theorem anyK (h : X.K = K) (hc : X.calm = true) : CallR X (.builtin "any") (rAny K) := h ▸ cr_any hc
theorem reprK (h : X.K = K) (hg : X.A.guards = some []) (hu : X.A.units + 64 < cLine) : CallR X (.builtin "repr") (rReprD K) := h ▸ call_reprD hg hu
theorem kBM (h : X.K = K) (p : PE X e (tBM X.K T r to tl)) : PE X e (tBM K T r to tl) := h ▸ p
theorem kBM0 (h : X.K = K) (p : PE X e (tBM0 X.K T r to)) : PE X e (tBM0 K T r to) := h ▸ p
theorem kFld {f : Str} (h : X.K = K) (p : PE X e (tFld X.K to f)) : PE X e (tFld K to f) := h ▸ p
theorem kiL (h : X.K = K) (p : PI X tg e (iList X.K to)) : PI X tg e (iList K to) := h ▸ p
theorem kiT (h : X.K = K) (p : PI X tg e (iTup X.K to)) : PI X tg e (iTup K to) := h ▸ p
theorem kiE (h : X.K = K) (p : PI X tg e (iEnum X.K tl)) : PI X tg e (iEnum K tl) := h ▸ p
theorem kgT {n : Nat} {g : TGs} (h : X.K = K) (p : PG X e (gTup X.K n g)) : PG X e (gTup K n g) := h ▸ p
end
/-- a statement, what follows behind it: stopped at by the steps, to be cut by an invariant -/
def tCut (t u : TS) : TS := tSeq t u
theorem pss_cut2 {X : Cx} {st : Stmt} {rest : List Stmt} {t u : TS} (h1 : PS X st t) (h2 : PSs X rest u) : PSs X (st :: rest) (tCut t u) := pss_cons h1 h2
theorem s_cut {t u : TS} {D : Ends} {σ : L2.St} {H : Hp} (Iv : L2.St → Hp → Prop) (h1 : ∀ J : L2.St → Hp → Prop, (∀ σ H, Iv σ H → J σ H) → t { D with nx := J } σ H) (h2 : ∀ σ H, Iv σ H → u D σ H) : tCut t u D σ H := h1 (u D) h2
/-- a for over a walk: Pv by the turn, the slots, the heap -/
theorem for_go {J : It} {n : Nat} {G : Hp → Prop} {Y : Nat → Hp → V → Hp → Prop} (w : Walk J n G Y) {g : TG} {tb : TS} {nx : L2.St → Hp → Prop} {rt : VK} {σ : L2.St} {H : Hp}
    (Pv : Nat → L2.St → Hp → Prop) (h0 : Pv 0 σ H) (hG : ∀ i σ H, i ≤ n → Pv i σ H → G H)
    (hs : ∀ i x σ H H', i < n → Pv i σ H → Y i H x H' → g x σ H' fun σ2 H2 => tb { nx := Pv (i + 1), rt := rt, bk := nx, ct := Pv (i + 1) } σ2 H2) (hd : ∀ σ H, Pv n σ H → nx σ H) :
    ∃ W : Nat → Nat → L2.St → Hp → Prop, (∃ m, W 0 m σ H) ∧ ∀ i m σ H, W i m σ H → (J.stop i H ∧ nx σ H) ∨
      (J.go i H ∧ ∃ N : L2.St → Hp → Prop, (∀ σ' H', N σ' H' → ∃ m', m' < m ∧ W (i + 1) m' σ' H') ∧
        ∀ x H', J.yld i H x H' → g x σ H' fun σ2 H2 => tb { nx := N, rt := rt, bk := nx, ct := N } σ2 H2) :=
  for_it w (D := { nx := nx, rt := rt }) Pv h0 hG hs hd
/-! ### steps of these -/
section
variable {σ : L2.St} {H : Hp} {Q : VK} {K : PySem.W.Frag} {p : Addr} {ys : List V}
theorem s_lenL (h : SqL K H p ys) (q : Q (.int ys.length) H) : rLen K [.ref p] H Q := ⟨p, ys, rfl, .inl h, q⟩
theorem s_lenT (h : SqT K H p ys) (q : Q (.int ys.length) H) : rLen K [.ref p] H Q := ⟨p, ys, rfl, .inr h, q⟩
theorem s_lenStr {z : Str} (h : z.length ≤ sizeLine) (q : Q (.int z.length) H) : rLenS [.str z] H Q := ⟨z, rfl, h, q⟩
theorem s_listL (h : SqL K H p ys) (q : ∀ l, H l = none → Q (.ref l) (upd H l (.lst ys))) : rListOf K [.ref p] H Q := ⟨p, ys, rfl, .inl h, q⟩
theorem s_tupL (h : SqL K H p ys) (q : ∀ l, H l = none → Q (.ref l) (upd H l (.tup ys))) : rTupleOf K [.ref p] H Q := ⟨p, ys, rfl, .inl ⟨h, q⟩⟩
theorem s_joinL {a : Str} {zs : List Str} (h : SqL K H p (zs.map V.str)) (l : (zs.map (·.length)).sum + zs.length * a.length ≤ 16777216) (q : Q (.str (Txt.join a zs)) H) : rJoin K (.str a) [.ref p] H Q := ⟨a, p, zs, rfl, rfl, .inl h, l, q⟩
theorem s_splitS {a b : Str} (h1 : (b.length == 0) = false) (h2 : a.length + 2 ≤ sizeLine) (q : ∀ p, H p = none → Q (.ref p) (upd H p (.lst ((Txt.split a b).map V.str)))) : rSplit (.str a) [.str b] H Q := ⟨a, b, rfl, rfl, h1, h2, q⟩
theorem s_slL {lo hi : Option Int} (h : SqL K H p ys) (q : ∀ l, H l = none → Q (.ref l) (upd H l (.lst (cutV ys lo hi)))) : rSlL K (.ref p) lo hi H Q := ⟨p, ys, rfl, h, q⟩
theorem s_slS {z : Str} {lo hi : Option Int} (h : z.length ≤ sizeLine) (q : Q (.str (cutS z lo hi)) H) : rSlS (.str z) lo hi H Q := ⟨z, rfl, h, q⟩
theorem s_ixS {z : Str} {k : Int} {c : Nat} (h : z.length ≤ sizeLine) (a : atI z.cps.toList k = some c) (q : Q (.str ⟨#[c]⟩) H) : rIxS (.str z) (.int k) H Q := ⟨z, k, c, rfl, rfl, h, a, q⟩
theorem s_addS {a b : Str} (l : a.length + b.length ≤ sizeLine) (q : Q (.str (a ++ b)) H) : rAddS (.str a) (.str b) H Q := ⟨a, b, rfl, rfl, l, q⟩
theorem s_inSg {c : Nat} {z : Str} (q : Q (.bl (decide (c ∈ z.cps.toList))) H) : rInSg (.str ⟨#[c]⟩) (.str z) H Q := ⟨c, z, rfl, rfl, q⟩
theorem s_divmod {a b : Int} (c : CDiv a b) (q : ∀ p, H p = none → Q (.ref p) (upd H p (.tup [.int (a / b), .int (a % b)]))) : rDivmod [.int a, .int b] H Q := ⟨a, b, rfl, c, q⟩
theorem s_U {g : Int → V} {i : Int} (q : Q (g i) H) : rU g (.int i) H Q := ⟨i, rfl, q⟩
theorem s_nn {P : Prop} (q : P) : V.non = V.non ∧ P := ⟨rfl, q⟩
theorem s_tyL {P : Prop} (h : H p = some (.lst ys)) (q : P) : tyV K "list" (.ref p) H ∧ P := ⟨.inl ⟨rfl, _, sq_l h⟩, q⟩
theorem s_all {bs : List Bool} (h : SqL K H p (bs.map V.bl)) (q : Q (.bl (bs.all id)) H) : rAll K [.ref p] H Q := ⟨p, bs, rfl, h, q⟩
theorem s_any {bs : List Bool} (h : SqL K H p (bs.map V.bl)) (q : Q (.bl (bs.any id)) H) : rAny K [.ref p] H Q := ⟨p, bs, rfl, h, q⟩
theorem s_eqD {x y : V} {d e : PyData} (hd : Dp K H x d) (he : Dp K H y e) (sd : SeqAt.shaped d = true) (se : SeqAt.shaped e = true) (q : Q (.bl (PyData.eqv d e)) H) : rEqD K x y H Q := ⟨d, e, hd, he, sd, se, q⟩
theorem s_neD {x y : V} {d e : PyData} (hd : Dp K H x d) (he : Dp K H y e) (sd : SeqAt.shaped d = true) (se : SeqAt.shaped e = true) (q : Q (.bl (!PyData.eqv d e)) H) : rNeD K x y H Q := ⟨d, e, hd, he, sd, se, q⟩
end
end HL

/-! HLd: plain data (Dp) kept, its kinds. -/
namespace HL
open PySem PySem.Spec PyProof.Rows L2 TL
theorem Kp.seqT {W : List Addr} {K : PySem.W.Frag} {H H' : Hp} {a : Addr} {xs : List V} (k : Kp W H H') (n : Nin a W) (h : SqT K H a xs) : SqT K H' a xs := by
  rcases h with (h | ⟨o, h⟩) | h
  · exact .inl (.inl (k _ _ n h))
  · exact .inl (.inr ⟨o, k _ _ n h⟩)
  · exact .inr h
mutual
theorem Dp.same {K : PySem.W.Frag} {H H' : Hp} (k : Kp [] H H') : ∀ (d : PyData) (v : V), Dp K H v d → Dp K H' v d
  | .none, _, h => by cases h; exact .non
  | .bool b, _, h => by cases h; exact .bl b
  | .int i, _, h => by cases h; exact .int i
  | .str x, _, h => by cases h; exact .str x
  | .list ds, _, h => by
    cases h with
    | lst hs ha => exact .lst (k.seqL trivial hs) (Dp.sameAll k ds _ ha)
  | .tuple ds, _, h => by
    cases h with
    | tup hs ha => exact .tup (k.seqT trivial hs) (Dp.sameAll k ds _ ha)
  | .dict _, _, h => by cases h
theorem Dp.sameAll {K : PySem.W.Frag} {H H' : Hp} (k : Kp [] H H') : ∀ (ds : List PyData) (vs : List V), DpAll K H vs ds → DpAll K H' vs ds
  | [], _, h => by cases h; exact .nil
  | d :: ds, _, h => by
    cases h with
    | cons h1 h2 => exact .cons (Dp.same k d _ h1) (Dp.sameAll k ds _ h2)
end
/-- the tuples stay -/
def TupK (H H' : Hp) : Prop := ∀ a xs, Rd H a (.tup xs) → Rd H' a (.tup xs)
mutual
/-- data of tuples alone -/
def flatD : PyData → Bool
  | .none | .bool _ | .int _ | .str _ => true
  | .tuple xs => flatAll xs
  | .list _ | .dict _ => false
def flatAll : List PyData → Bool
  | [] => true
  | x :: xs => flatD x && flatAll xs
end
mutual
theorem Dp.tups {K : PySem.W.Frag} {H H' : Hp} (k : TupK H H') : ∀ (d : PyData) (v : V), flatD d = true → Dp K H v d → Dp K H' v d
  | .none, _, _, h => by cases h; exact .non
  | .bool b, _, _, h => by cases h; exact .bl b
  | .int i, _, _, h => by cases h; exact .int i
  | .str x, _, _, h => by cases h; exact .str x
  | .list ds, _, f, h => by simp [flatD] at f
  | .tuple ds, _, f, h => by
    cases h with
    | tup hs ha =>
      refine .tup ?_ (Dp.tupsAll k ds _ (by simpa [flatD] using f) ha)
      rcases hs with hs | hs
      · exact .inl (k _ _ hs)
      · exact .inr hs
  | .dict _, _, _, h => by cases h
theorem Dp.tupsAll {K : PySem.W.Frag} {H H' : Hp} (k : TupK H H') : ∀ (ds : List PyData) (vs : List V), flatAll ds = true → DpAll K H vs ds → DpAll K H' vs ds
  | [], _, _, h => by cases h; exact .nil
  | d :: ds, _, f, h => by
    simp only [flatAll, Bool.and_eq_true] at f
    cases h with
    | cons h1 h2 => exact .cons (Dp.tups k d _ f.1 h1) (Dp.tupsAll k ds _ f.2 h2)
end
/-- what holds no tuple -/
def NoTup (H : Hp) (a : Addr) : Prop := ∀ xs, ¬ Rd H a (.tup xs)
theorem TupK.of {W : List Addr} {H H' : Hp} (k : Kp W H H') (n : ∀ x ∈ W, NoTup H x) : TupK H H' := fun a xs h => by
  have na : Nin a W := Nin.intro fun x hx e => n x hx xs (e ▸ h)
  rcases h with h | ⟨o, h⟩
  · exact .inl (k _ _ na h)
  · exact .inr ⟨o, k _ _ na h⟩
theorem NoTup.lst {H : Hp} {a : Addr} {xs : List V} (h : H a = some (.lst xs)) : NoTup H a := fun ys r => by
  rcases r with r | ⟨o, r⟩
  · rw [h] at r
    cases r
  · rw [h] at r
    cases r
theorem TupK.trans {A B C : Hp} (h : TupK A B) (g : TupK B C) : TupK A C := fun a xs r => g a xs (h a xs r)
/-- the built-in type of plain data -/
def tyD : PyData → String
  | .none => "NoneType"
  | .bool _ => "bool"
  | .int _ => "int"
  | .str _ => "str"
  | .list _ => "list"
  | .tuple _ => "tuple"
  | .dict _ => "dict"
theorem Dp.ty {K : PySem.W.Frag} {H : Hp} : ∀ {d : PyData} {v : V}, Dp K H v d → TyX K H v (.type (tyD d))
  | _, _, .non => .base .non
  | _, _, .bl b => .base (.bl b)
  | _, _, .int i => .base (.int i)
  | _, _, .str x => .base (.str x)
  | _, _, .lst hs _ => by
    rcases hs with (h | ⟨o, h⟩) | ⟨o, its, n, h, hc, _⟩
    · exact .base (.lst h)
    · exact .base (.frz h)
    · exact .kList h hc
  | _, _, .tup hs _ => by
    rcases hs with (h | ⟨o, h⟩) | ⟨o, its, n, h, hc, _⟩
    · exact .base (.tup h)
    · exact .fTuple h
    · exact .kTuple h hc
end HL

/-! HLe: more rules with K named: len(set(t)), wide divmod, xs[::-1], str, int, unpacking a list. -/
namespace HL
open PySem PySem.Spec PyProof.Rows L2
def rDivmodP : List V → Hp → VK → Prop := fun vs H Q => ∃ i j, vs = [.int i, .int j] ∧ CDivP i j ∧ ∀ p, H p = none → Q (.ref p) (upd H p (.tup [.int (i / j), .int (i % j)]))
def rStrOf : List V → Hp → VK → Prop := fun vs H Q => (∃ a, vs = [.str a] ∧ Q (.str a) H) ∨ ∃ i : Int, vs = [.int i] ∧ i.natAbs.log2 < 1920 ∧ Q (.str (toString i)) H
def rIntOf : List V → Hp → VK → Prop := fun vs H Q => ∃ a n, vs = [.str a] ∧ intText? a = some n ∧ a.length ≤ 640 ∧ Q (.int n) H
def rStarts : V → List V → Hp → VK → Prop := fun x vs H Q => ∃ a b, x = .str a ∧ vs = [.str b] ∧ Q (.bl (Txt.startswith a b)) H
section
variable {X : Cx} {K : PySem.W.Frag} {e : Expr} {te : TE}
theorem divmodPR : CallR X (.builtin "divmod") rDivmodP := call_divmodW
theorem strOfR : CallR X (.type "str") rStrOf := fun pins s σ H xs us Q I r h => h.elim
  (fun z => SkE.call_str_str pins s σ H xs us Q I r z) (fun z => call_str_int pins s σ H xs us Q I r z)
theorem intOfR : CallR X (.type "int") rIntOf := call_int_str
theorem startsR : MtR X "str.startswith" rStarts := mt_startswith
theorem revK {k : Nat} {p1 p2 p3 pos : Pos} (hK : X.K = K) (he : PE X e te) : PE X (.Subscript e (.Slice none none (some (.UnaryOp .USub (.Constant (.int 1) k p1) p2)) p3) pos) (tRevL K te) := hK ▸ pe_revL he
theorem kgU {n : Nat} {g : TGs} {tg : Expr} (h : X.K = K) (p : PG X tg (gUnl X.K n g)) : PG X tg (gUnl K n g) := h ▸ p
end
section
variable {σ : L2.St} {H : Hp} {Q : VK} {K : PySem.W.Frag} {a : Addr} {xs : List V}
theorem s_divP {i j : Int} (j0 : 0 < j) (jm : j ≤ 2000000000000000000000000000000000000000000000000000000000000) (q : ∀ p, H p = none → Q (.ref p) (upd H p (.tup [.int (i / j), .int (i % j)]))) : rDivmodP [.int i, .int j] H Q := by
  refine ⟨i, j, rfl, ⟨j0, PyProof.noPylong_of_log2 ?_⟩, q⟩
  have h : j.natAbs ≤ 2000000000000000000000000000000000000000000000000000000000000 := by omega
  exact (Nat.log2_lt (by omega)).mpr (Nat.lt_of_le_of_lt h (by decide +kernel))
theorem s_revL {te : TE} (h : te σ H fun x H1 => ∃ a xs, x = .ref a ∧ SqL K H1 a xs ∧ ∀ p, H1 p = none → Q (.ref p) (upd H1 p (.lst xs.reverse))) : tRevL K te σ H Q := h
theorem s_gunl {n : Nat} {g : TGs} {R : L2.St → Hp → Prop} (h : SqL K H a xs) (l : xs.length = n) (q : g xs σ H R) : gUnl K n g (.ref a) σ H R := ⟨a, xs, rfl, h, l, q⟩
theorem s_slT {lo hi : Option Int} (h : SqT K H a xs) (n : ¬ (HT.sIx xs.length 0 lo = 0 ∧ HT.sIx xs.length xs.length hi = xs.length)) (q : ∀ l, H l = none → Q (.ref l) (upd H l (.tup (cutV xs lo hi)))) : rSlT K (.ref a) lo hi H Q := ⟨a, xs, rfl, h, n, q⟩
end
/-! ### xs == [], xs != [] -/
def rNil (K : PySem.W.Frag) (f : Bool → Bool) : R2 := fun x y H Q => ∃ a b xs, x = .ref a ∧ y = .ref b ∧ SqL K H a xs ∧ SqL K H b [] ∧ Q (.bl (f xs.isEmpty)) H
section
variable {X : Cx} {K : PySem.W.Frag}
theorem nil_sizes {K : PySem.W.Frag} {X : Cx} (hK : X.K = K) {pins : List (Addr × Obj)} {σ : L2.St} {H : Hp} {s : Shared} (I : Inv X pins σ H s) {a b : Addr} {xs : List V} (ha : SqL K H a xs) (hb : SqL K H b []) :
    ∃ us ws : Array Value, s.heap.IsList a us ∧ s.heap.IsList b ws ∧ us.size = xs.length ∧ ws.size = 0 := by
  subst hK
  obtain ⟨us, r1, p1, _⟩ := I.list ha
  obtain ⟨ws, r2, p2, _⟩ := I.list hb
  exact ⟨us.toArray, ws.toArray, p1.isList, p2.isList, by rw [List.size_toArray, ← r1.length], by rw [List.size_toArray, ← r2.length]; rfl⟩
theorem eqNilK (hK : X.K = K) (hu : X.A.units + 64 < cLine) : OpR X (compareOp .Eq) (rNil K fun b => b) := by
  intro pins s σ H x y v u Q I rx ry h
  obtain ⟨a, b, xs, rfl, rfl, ha, hb, q⟩ := h
  cases rx
  cases ry
  obtain ⟨us, ws, p1, p2, n1, n2⟩ := nil_sizes hK I ha hb
  have room : X.A.units < cLine := by omega
  show wpAny (model X.prog X.w) X.A (richCompare .Eq (.ref a) (.ref b)) (EP X pins σ Q) X.xe s
  cases xs with
  | nil =>
    have z := SeqAt.RcAt.lists (e := fun _ => true) p1 p2 (n1.trans n2.symm) room (fun j h1 _ => absurd h1 (by rw [n1]; exact Nat.not_lt_zero j))
    rw [n1] at z
    exact z _ _ _ _ ⟨.bl true, H, I, rfl, q⟩
  | cons c r =>
    exact SeqAt.RcAt.lists_lengths p1 p2 (by rw [n1, n2]; rfl) room _ _ _ _ ⟨.bl false, H, I, rfl, q⟩
theorem neNilK (hK : X.K = K) (hu : X.A.units + 64 < cLine) : OpR X (compareOp .NotEq) (rNil K fun b => !b) := by
  intro pins s σ H x y v u Q I rx ry h
  obtain ⟨a, b, xs, rfl, rfl, ha, hb, q⟩ := h
  cases rx
  cases ry
  obtain ⟨us, ws, p1, p2, n1, n2⟩ := nil_sizes hK I ha hb
  have room : X.A.units < cLine := by omega
  show wpAny (model X.prog X.w) X.A (richCompare .NotEq (.ref a) (.ref b)) (EP X pins σ Q) X.xe s
  cases xs with
  | nil =>
    have z := SeqAt.RcNeAt.lists (e := fun _ => true) p1 p2 (n1.trans n2.symm) room (fun j h1 _ => absurd h1 (by rw [n1]; exact Nat.not_lt_zero j))
    rw [n1] at z
    exact z _ _ _ _ ⟨.bl false, H, I, rfl, q⟩
  | cons c r =>
    exact SeqAt.RcNeAt.lists_lengths p1 p2 (by rw [n1, n2]; rfl) room _ _ _ _ ⟨.bl true, H, I, rfl, q⟩
theorem s_nil0 {f : Bool → Bool} {H : Hp} {Q : VK} {a b : Addr} {xs : List V} (ha : SqL K H a xs) (hb : SqL K H b []) (q : Q (.bl (f xs.isEmpty)) H) : rNil K f (.ref a) (.ref b) H Q := ⟨a, b, xs, rfl, rfl, ha, hb, q⟩
end
end HL

/-! HLx: more steps: extend, +, pop, list(tuple), str, int; slices; texts in lists. -/
namespace HL
open PySem PySem.Spec PyProof.Rows L2 TL
section
variable {σ : L2.St} {H : Hp} {Q : VK} {K : PySem.W.Frag} {l b : Addr} {xs zs : List V}
theorem s_extend (h : H l = some (.lst xs)) (g : H b = some (.lst zs)) (n : xs.length + zs.length ≤ sizeLine) (q : Q .non (upd H l (.lst (xs ++ zs)))) : rExtend (.ref l) [.ref b] H Q := ⟨l, b, xs, zs, rfl, rfl, h, g, n, q⟩
theorem s_cat (h : H l = some (.lst xs)) (g : H b = some (.lst zs)) (n : xs.length + zs.length ≤ sizeLine) (q : ∀ p, H p = none → Q (.ref p) (upd H p (.lst (xs ++ zs)))) : rCat (.ref l) (.ref b) H Q := ⟨l, b, xs, zs, rfl, rfl, h, g, n, q⟩
theorem s_pop {y : V} (h : H l = some (.lst xs)) (g : xs[xs.length - 1]? = some y) (q : Q y (upd H l (.lst xs.dropLast))) : rPop (.ref l) [] H Q := ⟨l, xs, y, rfl, rfl, h, g, q⟩
theorem s_listT (h : SqT K H l xs) (q : ∀ p, H p = none → Q (.ref p) (upd H p (.lst xs))) : rListOf K [.ref l] H Q := ⟨l, xs, rfl, .inr h, q⟩
theorem s_strS {a : Str} (q : Q (.str a) H) : rStrOf [.str a] H Q := .inl ⟨a, rfl, q⟩
theorem s_strI {i : Int} (h : i.natAbs.log2 < 1920) (q : Q (.str (Str.ofString (toString i))) H) : rStrOf [.int i] H Q := .inr ⟨i, rfl, h, q⟩
theorem s_starts {a c : Str} (q : Q (.bl (Txt.startswith a c)) H) : rStarts (.str a) [.str c] H Q := ⟨a, c, rfl, rfl, q⟩
theorem s_intOf {a : Str} {n : Int} (h : intText? a = some n) (g : a.length ≤ 640) (q : Q (.int n) H) : rIntOf [.str a] H Q := ⟨a, n, rfl, h, g, q⟩
end
theorem Kp.nil_W {W : List Addr} {A B : Hp} (k : Kp [] A B) : Kp W A B := k.weak fun x hx => absurd hx List.not_mem_nil
theorem Kp.tr {W : List Addr} {A B C : Hp} (k : Kp W A B) (l : Kp W B C) : Kp W A C := k.step l fun x hx => .inl hx
theorem inV_strs (z : Str) (ws : List Str) : inV (.str z) (ws.map V.str) = decide (z ∈ ws) := by
  unfold inV
  rw [List.any_map]
  induction ws with
  | nil => simp
  | cons a r ih =>
    rw [List.any_cons, ih]
    show (eqV (.str a) (.str z) || _) = _
    have e : eqV (.str a) (.str z) = decide (z = a) := by
      show decide _ = _
      exact decide_eq_decide.mpr ⟨fun h => Eq.symm h, fun h => Eq.symm h⟩
    rw [e]
    by_cases c : z = a
    · simp [c]
    · simp [c]
theorem flatV_strs (ws : List Str) : (ws.map V.str).all flatV = true := by
  rw [List.all_map, List.all_eq_true]
  exact fun _ _ => rfl
theorem cut_from1 (x : V) (r : List V) : cutV (x :: r) (some 1) none = r := by
  have e : HT.sIx (x :: r).length 0 (some 1) = 1 := (HT.sIx_nat (x :: r).length 0 1).trans (by rw [List.length_cons]; omega)
  unfold cutV
  rw [e, show HT.sIx (x :: r).length (x :: r).length none = (x :: r).length from rfl]
  simp
theorem cut_last1 (xs : List V) : cutV xs none (some (-1)) = xs.dropLast := by
  unfold cutV
  rw [HT.sIx_none, List.drop_zero, Nat.sub_zero, List.dropLast_eq_take]
  congr 1
  unfold HT.sIx
  simp
  omega
/-! comprehensions whose values are told by the heap too -/
def LcInvH (D : Addr) (PL : Nat → List V → Hp → Prop) (W : List Addr) (H1 : Hp) (i : Nat) (H : Hp) : Prop := ∃ xs, H D = some (.lst xs) ∧ PL i xs H ∧ xs.length ≤ i ∧ Kp W H1 H
section
variable {J : It} {n : Nat} {G : Hp → Prop} {Y : Nat → Hp → V → Hp → Prop} {D : Addr} {PL : Nat → List V → Hp → Prop} {W : List Addr} {H1 H H4 : Hp} {i : Nat} {y : V}
theorem lc_goH (w : Walk J n G Y) {g : TG} {tt : TT} {te : TE} {vs : List Nat} {σ : L2.St} {Qd : Hp → Prop} (nD : H1 D = none) (h0 : PL 0 [] (upd H1 D (.lst []))) (hG : ∀ H, Kp W H1 H → G H)
    (hs : ∀ i x H H', i < n → LcInvH D PL W H1 i H → Y i H x H' → g x (wipe σ vs) H' fun σ2 H2 => wipe σ2 vs = wipe σ vs ∧ tt σ2 H2 fun b H3 =>
      if b = true then te σ2 H3 fun y H4 => ∃ a, H4 D = some (.lst a) ∧ a.length < sizeLine ∧ LcInvH D PL W H1 (i + 1) (upd H4 D (.lst (a ++ [y]))) else LcInvH D PL W H1 (i + 1) H3)
    (hd : ∀ H, LcInvH D PL W H1 n H → Qd H) :
    ∃ W : Nat → Nat → Hp → Prop, (∃ m, W 0 m (upd H1 D (.lst []))) ∧ ∀ i m H, W i m H →
      (J.stop i H ∧ Qd H) ∨ (J.go i H ∧ ∃ Nx : Hp → Prop, (∀ H', Nx H' → ∃ m', m' < m ∧ W (i + 1) m' H') ∧ ∀ x H', J.yld i H x H' → g x (wipe σ vs) H' fun σ2 H2 => wipe σ2 vs = wipe σ vs ∧ tt σ2 H2 fun b H3 =>
        if b = true then te σ2 H3 fun y H4 => ∃ acc, H4 D = some (.lst acc) ∧ acc.length < sizeLine ∧ Nx (upd H4 D (.lst (acc ++ [y]))) else Nx H3) :=
  lc_it w (LcInvH D PL W H1) ⟨[], upd_same, h0, Nat.le_refl _, Kp.refl.upd_new nD⟩ (fun i H _ p => by obtain ⟨_, _, _, _, k⟩ := p; exact hG H k) hs hd
theorem LcInvH.put {xs : List V} (e : H D = some (.lst xs)) (l : xs.length ≤ i) (k0 : Kp W H1 H) (nD : H1 D = none) (nW : Nin D W) (k : Kp W H H4) (sz : i < sizeLine) (p : PL (i + 1) (xs ++ [y]) (upd H4 D (.lst (xs ++ [y])))) :
    ∃ a, H4 D = some (.lst a) ∧ a.length < sizeLine ∧ LcInvH D PL W H1 (i + 1) (upd H4 D (.lst (a ++ [y]))) :=
  ⟨xs, k.get nW e, by omega, xs ++ [y], upd_same, p, by rw [List.length_append, List.length_singleton]; omega, (k0.tr k).upd_loc nD⟩
end
theorem s_iRng2 {ta : TA} {σ : L2.St} {H : Hp} {R : It → Hp → Prop} (h : ta σ H fun vs H1 => ∃ i j : Int, vs = [.int i, .int j] ∧ (-(2 ^ 62) ≤ i ∧ i < 2 ^ 62 ∧ -(2 ^ 62) ≤ j ∧ j < 2 ^ 62) ∧ R (Itr i (j - i).toNat) H1) : iRng2 ta σ H R := h
end HL

/-! HLs: len(set(t)), t a tuple of texts. -/
namespace HL
open PySem PySem.Spec PyProof.Rows L2
abbrev eS (led : Bool) : Obj := { cls := .type "set", dict := none, data := .set #[] 0 (.fresh 0 0 led) }
/-- the first i of ks, each once: how many -/
def unlike (ks : List Str) : Nat → Nat
  | 0 => 0
  | i + 1 => if (ks.take i).any (· == ks.getD i Str.empty) then unlike ks i else unlike ks i + 1
theorem unlike_le (ks : List Str) : ∀ i, unlike ks i ≤ i
  | 0 => Nat.le_refl 0
  | i + 1 => by
    have := unlike_le ks i
    unfold unlike
    split <;> omega
abbrev metS (ks : List Str) (i : Nat) : Str → Bool := fun k => (ks.take i).any (· == k)
theorem metS_succ {ks : List Str} {i : Nat} (h : i < ks.length) (k : Str) : (metS ks i k || decide (k = ks.getD i Str.empty)) = metS ks (i + 1) k := by
  have e : ks.take (i + 1) = ks.take i ++ [ks.getD i Str.empty] := by
    rw [List.take_add_one, List.getD_eq_getElem?_getD, List.getElem?_eq_getElem h] <;> rfl
  unfold metS
  rw [e, List.any_append]
  congr 1
  by_cases c : k = ks.getD i Str.empty
  · subst c
    simp
  · have c2 : (ks.getD i Str.empty == k) = false := by simpa using fun z => c z.symm
    rw [decide_eq_false c, List.any_cons, List.any_nil, c2]
    rfl
section
variable {prog : Program} {w : World} {A : Around} {E : Value → Shared → Prop} {s : Shared}
/-- the loop that lays what a walk yields into the set -/
theorem lay_all {R : Result → Shared → Prop} {I : Addr} {fp wr : List Addr} {G : Array GenState → Array GenState → Prop} {n : Nat} {P : Nat → Value → Prop} {St : Nat → Shared → Prop}
    (W : WalksS prog w A.in1 I fp wr G n P St) {S : Addr} (far : S ∉ fp) (ks : List Str) (many : ks.length = n) (few : n + 1 < scanBound)
    (is : ∀ i v, P i v → ∃ t, v = .str (ks.getD i Str.empty) t) : ∀ (m : Nat) (i : Nat) (s : Shared), m + i = n → St i s →
      s.heap.SetOf (strKind prog w) S (metS ks i) (unlike ks i) →
      (∀ s', Moved (S :: wr) G s s' → s'.heap.SetOf (strKind prog w) S (metS ks n) (unlike ks n) → R (.ok (.ret .none)) s') →
      codeAny (model prog w) A (.builtin "set.update.loop" ⟨[.ref S, .ref I], []⟩) R s := by
  have off : S ∉ wr := fun z => far (W.sub _ z)
  have more : ∀ b ∈ wr, b ∈ S :: wr := fun _ z => .tail _ z
  intro m
  induction m with
  | zero =>
    intro i s e st held fin
    obtain rfl : i = n := by omega
    apply codeAny_builtin PyProof.Rows.F.entry_set_update_loop
    rw [Around.under_plainId PyProof.Rows.F.plain_set_update_loop _]
    show wpAny _ A.in1 (pyNext (.ref I) >>= _) _ _ s
    apply wpAny_bind
    apply W.done s _ _ st
    intro s' mv
    obtain ⟨o, es, ep, tb, at_, rest⟩ := held
    exact wpAny_pure (fin s' (mv.mono more) ⟨o, es, ep, tb, mv.heap S _ off at_, rest⟩)
  | succ m ih =>
    intro i s e st held fin
    have lt : i < n := by omega
    apply codeAny_builtin PyProof.Rows.F.entry_set_update_loop
    rw [Around.under_plainId PyProof.Rows.F.plain_set_update_loop _]
    show wpAny _ A.in1 (pyNext (.ref I) >>= _) _ _ s
    apply wpAny_bind
    apply W.item i s _ _ lt st
    intro v s' hv st' mv
    obtain ⟨t, rfl⟩ := is i v hv
    have held' : s'.heap.SetOf (strKind prog w) S (metS ks i) (unlike ks i) := by
      obtain ⟨o, es, ep, tb, at_, rest⟩ := held
      exact ⟨o, es, ep, tb, mv.heap S _ off at_, rest⟩
    show wpAny _ A.in1 (holding [Value.str (ks.getD i Str.empty) t] (setAdd S (.str (ks.getD i Str.empty) t)) >>= _) _ _ s'
    apply wpAny_bind
    apply wpAny_holding
    unfold setAdd
    apply wpAny_holding
    apply wpAny_bind
    apply (strKind prog w).pyHash (k := ks.getD i Str.empty) (strKind_is _ _ _ _)
    have room : unlike ks i + 1 < scanBound := by
      have := unlike_le ks i
      omega
    apply wpAny_setAddHashed_of (knd := strKind prog w) (s := { s' with toks := s'.toks + 1 }) (strKind_is _ _ _ _) rfl held' room
    intro h' same held2
    have held3 : h'.SetOf (strKind prog w) S (metS ks (i + 1)) (unlike ks (i + 1)) :=
      SetOf_congr held2 (fun k => metS_succ (many ▸ lt) k) rfl
    apply wpAny_pure
    refine ⟨plainId_quiet PyProof.Rows.F.plain_set_update_loop _, ih (i + 1) _ (by omega) ?_ held3 ?_⟩
    · apply W.frame _ s' _ _ st' (Nat.le_succ _)
      intro b hb o z
      rw [same.2 b (fun y : b = S => far (y ▸ hb))]
      exact z
    · intro s'' mv2 held4
      apply fin s'' _ held4
      apply Moved.trans W.gtrans _ mv2
      apply (mv.mono more).then_heap (Nat.le_succ _)
      intro b o hb z
      rw [same.2 b (fun y : b = S => hb (y ▸ List.mem_cons_self))]
      exact z
/-- what set(t) leaves: a new set, all else as it was -/
def SetLeft (prog : Program) (w : World) (s : Shared) (ks : List Str) (s' : Shared) : Prop :=
  ∃ (h' : Heap) (tk : Nat), s' = { s with heap := h', toks := tk } ∧ h'.SetOf (strKind prog w) s.heap.objs.size (metS ks ks.length) (unlike ks ks.length) ∧
    ∀ b o, b < s.heap.objs.size → s.heap.get? b = some o → h'.get? b = some o
/-- an answer that is none but a value told by W -/
theorem told {M : Model} {B : Around} {c : Code} {W : Value → Shared → Prop} {R : Result → Shared → Prop} {s1 : Shared}
    (run : codeAny M B c (wants W E) s1) (good : ∀ v s2, W v s2 → R (.ok (.ret v)) s2) (bad : ∀ e s2, E e s2 → R (.error e) s2) : codeAny M B c R s1 :=
  codeAny_mono run fun
    | .error e, s2, z => bad e s2 z
    | .ok (.ret v), s2, z => good v s2 z
    | .ok .next, _, z | .ok .brk, _, z | .ok .cont, _, z => nomatch z
/-- set(x), of any x: what the new set's init leaves is what the call leaves -/
theorem set_of {x : Value} {R : Shared → Prop} {Q : Value → Shared → Prop} (calm : A.handled = none)
    (init : ∀ (B : Around) (led : Bool), B.handled = none → codeAny (model prog w) B (.call (.builtin "set.__init__") ⟨[.ref s.heap.objs.size, x], []⟩)
      (wants (fun r s2 => r = .none ∧ R s2) E) { s with heap := s.heap.push (eS led) }) (q : ∀ s2, R s2 → Q (.ref s.heap.objs.size) s2) :
    wpAny (model prog w) A (call (.type "set") [x]) Q E s := by
  have F := PySem.F.called_set
  have ⟨_, _, mro⟩ := F.mro
  have sub := F.sub; have made := F.made; have may := F.canCreate; have other := F.notType
  have by1 := PySem.F.typeCall_set_1 x
  apply wpAny_call
  apply codeAny_of_tree
  change wpAny (model prog w) _ (callAny (Value.type "set") ⟨[x], []⟩) _ _ s
  refine wpAny_pure ⟨Code.quiet_builtin _ (by decide +kernel), ?_⟩
  apply codeAny_builtin PySem.F.entry_type_call
  rw [Around.under_plain (weight_type_call_type "set" [x] []) rfl]
  repeat any_goals first | assumption | wp_step
  refine told (code_set_new_1 x (E := E) (Q₁ := fun v s2 => ∃ led, v = .ref s.heap.objs.size ∧ s2 = { s with heap := s.heap.push (eS led) }) fun led => ⟨led, rfl, rfl⟩) ?_ fun _ _ z => z
  rintro _ _ ⟨led, rfl, rfl⟩
  have of : Shared.TypeIs { s with heap := s.heap.push (eS led) } (.ref s.heap.objs.size) "set" := ⟨_, Heap.get?_push_size _ rfl, rfl⟩
  have look := F.init.lookup
  have bound := F.init.bind (.ref s.heap.objs.size)
  repeat any_goals first | assumption | wp_step
  refine told (init _ led (by simpa using calm)) ?_ fun _ _ z => z
  rintro _ s2 ⟨rfl, left⟩
  repeat any_goals first | assumption | wp_step
  exact q s2 left
/-- the init of an empty set by a tuple of texts -/
theorem init_tup {l : Addr} {items : Array Value} {ks : List Str} {led : Bool} (hh : A.handled = none) (hl : s.heap.IsTuple l items)
    (hi : StrsAre items.toList ks) (few : ks.length + 1 < scanBound) :
    codeAny (model prog w) A (.call (.builtin "set.__init__") ⟨[.ref s.heap.objs.size, .ref l], []⟩)
      (wants (fun r s₂ => r = .none ∧ SetLeft prog w s ks s₂) E) { s with heap := s.heap.push (eS led) } := by
  have many : items.size = ks.length := by simpa using hi.len_eq
  have ⟨⟨c0, d0, k0, sl⟩, at_, ec, nl, ed⟩ := hl
  cases (show c0 = .type "tuple" from ec)
  cases (show k0 = .seq items nl from ed)
  have below : l < s.heap.objs.size := Heap.lt_size at_
  have stays : ∀ b o, s.heap.get? b = some o → (s.heap.push (eS led)).get? b = some o := fun _ _ => Heap.get?_push_of_some _
  have made : (s.heap.push (eS led)).get? s.heap.objs.size = some (eS led) := Heap.get?_push_size _ rfl
  have isT : (s.heap.push (eS led)).IsTuple l items := ⟨_, stays _ _ at_, rfl, nl, rfl⟩
  have at1 := stays _ _ at_
  have size1 : (s.heap.push (eS led)).objs.size = s.heap.objs.size + 1 := Heap.size_push ..
  have no1 := PySem.F.sub_tuple_set
  have no2 := PySem.F.sub_tuple_frozenset
  have no3 : (Value.type "tuple" == Value.type "dict") = false := by decide
  refine codeAny_call_builtin PySem.F.called_set.init.plain PySem.F.entry_set_init (check_set_init_1 ⟨_, made, rfl⟩ ?_)
  unfold Builtin.«set.__init__» noKeywords Builtin.Frozenset.updateFrom
  generalize hPI : pyIter = PI
  wp_walk
  subst hPI
  refine wpAny_pyIter_tuple isT (wpAny_bind (wpAny_runValue ?_))
  have other : ∀ n : Nat, n ≠ l → n ≠ s.heap.objs.size + 1 → n ∉ [(s.heap.push (eS led)).objs.size, l] := by
    intro n n1 n2
    simp [size1, n1, n2]
  have W := Walks.tuple (prog := prog) (w := w) (A := A.in1.in1) (by simp [hh]) (s.heap.push (eS led)).objs.size l (by rw [size1]; unfold Addr at *; omega) items
  have off := other s.heap.objs.size (by unfold Addr at *; omega) (by omega)
  apply lay_all W.toS off ks many.symm (by omega)
    (fun i v hv => SS.strs_at hi i v (by simpa using hv)) items.size 0 _ (Nat.add_zero _) ⟨⟨_, Heap.get?_push_size _ rfl, rfl, rfl⟩, isT.push _⟩
  · exact SetOf_congr ((setObjOf_fresh (knd := strKind prog w) led).setOf (Heap.get?_push_of_some _ made) (by decide)) (fun _ => rfl) rfl
  · intro s' mv held
    refine wpAny_pure (wpAny_pure ⟨rfl, s'.heap, s'.toks, ?_, many ▸ held, fun b o lt e => mv.heap b o ?_ (Heap.get?_push_of_some _ (stays _ _ e))⟩)
    · obtain ⟨h', g', d', tk', os'⟩ := s'
      cases (show g' = s.gens from mv.gens)
      cases (show d' = s.drawn from mv.drawn)
      cases (show os' = s.os from mv.os)
      rfl
    · simp only [List.mem_cons, List.not_mem_nil, or_false, size1]
      unfold Addr at *
      omega
theorem set_tup {l : Addr} {items : Array Value} {ks : List Str} {Q : Value → Shared → Prop} (hh : A.handled = none) (hl : s.heap.IsTuple l items)
    (hi : StrsAre items.toList ks) (few : ks.length + 1 < scanBound) (q : ∀ s', SetLeft prog w s ks s' → Q (.ref s.heap.objs.size) s') :
    wpAny (model prog w) A (call (.type "set") [.ref l]) Q E s :=
  set_of hh (fun _ _ calm => init_tup calm hl hi few) q
end
theorem strsAre : ∀ {ks : List Str} {us : List Value}, Vals (ks.map V.str) us → StrsAre us ks
  | [], _, .nil => .nil
  | k :: ks, _, .cons r t => by
    cases r with
    | intro u e => subst e; exact .cons k u (strsAre t)
def tLenSetT (K : PySem.W.Frag) (ta : TE) : TE := fun σ H Q =>
  ta σ H fun x H1 => ∃ (l : Addr) (ks : List Str), x = .ref l ∧ SqT K H1 l (ks.map V.str) ∧ ks.length ≤ 100 ∧ Q (.int (unlike ks ks.length : Nat)) H1
theorem pe_lenSetT {X : Cx} {K : PySem.W.Frag} (hK : X.K = K) {a : Expr} {ta : TE} {p p2 q pos : Pos} (calm : X.calm = true)
    (g1 : Gl X "len") (m1 : X.mg "len" = none) (g2 : Gl X "set") (m2 : X.mg "set" = none) (ha : PE X a ta)
    (na : starEach [a] X.env = (false, eval a X.env) :: starEach [] X.env := by rfl) :
    PE X (.Call (.Name "len" p) [.Call (.Name "set" p2) [a] [] q] [] pos) (tLenSetT K ta) where
  run := by
    subst hK
    intro pins s σ H Q I h
    apply Call_ (ld_blt I g1 m1 boot_len ?_)
    apply callWith_builtin1 (args_cons ?_ rfl) rfl rfl
    apply Call_ (ld_blt I g2 m2 boot_set ?_)
    apply callWith_type1 (args_cons (thn (ha.run pins s σ H _ I h) ?_) na) na rfl
    rintro v s1 ⟨x, H1, J, rv, l, ks, rfl, hq, few, hQ⟩
    apply args_nil
    cases rv
    obtain ⟨its, vals, isT, _⟩ := J.tuple hq
    apply set_tup (J.ok.hd calm) isT (strsAre (by simpa using vals)) (by unfold scanBound; omega)
    rintro s2 ⟨h', tk, rfl, ⟨o, es, ep, tb, at_, ex, hd, _, _, _, fits, many⟩, keep⟩
    apply args_nil
    have J2 : Inv X pins σ H1 { s1 with heap := h', toks := tk } := J.kept fun b o e => keep b o (Heap.lt_size e) e
    have small := unlike_le ks ks.length
    apply call_len_set at_ ex hd fits (by rw [many]; omega)
    exact ⟨.int (unlike ks ks.length : Nat), H1, J2.tok _, ⟨_, by rw [many]⟩, hQ⟩
section
variable {σ : L2.St} {H : Hp} {Q : VK} {K : PySem.W.Frag}
theorem s_lenSet {te : TE} (h : te σ H fun x H1 => ∃ (l : Addr) (ks : List Str), x = .ref l ∧ SqT K H1 l (ks.map V.str) ∧ ks.length ≤ 100 ∧ Q (.int (unlike ks ks.length : Nat)) H1) : tLenSetT K te σ H Q := h
end
end HL

/-! HLg: the end of a law whose defs ask that no repr is under way. -/
namespace HL
open PySem PySem.Spec PyProof.Rows L2
/-- the script's object -/
abbrev scObj (vs : List Value) : Obj := { cls := .type "list", data := .seq vs.toArray }
/-- the heap in which the script alone is tracked, or nothing, where it is an object of the module -/
def scT (K : PySem.W.Frag) (a : Addr) (vs : List Value) (ns : List Int) : Hp := fun b =>
  if b = a ∧ K.lookup a = none then some (.frz (scObj vs) (.lst (ns.map V.int))) else none
theorem scT_some {K : PySem.W.Frag} {a b : Addr} {vs : List Value} {ns : List Int} {u : HO} (h : scT K a vs ns b = some u) :
    b = a ∧ K.lookup a = none ∧ u = .frz (scObj vs) (.lst (ns.map V.int)) := by
  unfold scT at h
  split at h
  · rename_i c
    exact ⟨c.1, c.2, (Option.some.inj h).symm⟩
  · cases h
theorem scT_ne {K : PySem.W.Frag} {a b : Addr} {vs : List Value} {ns : List Int} (h : b ≠ a) : scT K a vs ns b = none :=
  if_neg fun c => h c.1
theorem scT_own {K : PySem.W.Frag} {a b : Addr} {vs : List Value} {ns : List Int} {o : Obj} (h : K.lookup b = some o) : scT K a vs ns b = none :=
  if_neg fun c => by
    rw [c.1, c.2] at h
    exact absurd h (by simp)
theorem scT_only (K : PySem.W.Frag) (a : Addr) (vs : List Value) (ns : List Int) : Only (scT K a vs ns) := fun b => by
  cases e : scT K a vs ns b with
  | none => exact Or.inl rfl
  | some u => exact Or.inr ⟨_, _, congrArg some (scT_some e).2.2⟩
/-- a law's call, from the promise of its def -/
theorem law_callG {P : Program} {w : World} {K : PySem.W.Frag} {mg mb : Str → Option Value} {k : Nat} {fa a : Addr}
    {fd : FuncData} {x : Str} {sp : Sp} {t : Shared} {vs : List Value} {ns : List Int}
    (inK : K.In t.heap) (glob : t.heap.Ns mainGlobals mg) (blt : t.heap.Ns builtinsNs mb)
    (bltq : ∀ x : Str, x ≠ "__name__" → mb x = bootBuiltins x) (lim : t.heap.NoLimit) (gens : t.gens = #[])
    (ob : t.heap.get? a = some (scObj vs)) (hints : IntsAre vs ns)
    (size : ns.length ≤ sizeLine) (room : Room k callerA)
    (F : ∀ base : Heap, K.In base → base.Ns mainGlobals mg → FnG P w K mg base k fa fd [x] sp)
    (bind : ∀ (s : Shared) (u : Value), BindsTo s fd ⟨[u], []⟩ [(x, u)])
    (prm : ∀ H : Hp, Only H → SqL K H a (ns.map V.int) → sp [.ref a] H (fun v _ => v = .bl true) fun _ _ _ => False) :
    codeAny (model P w) callerA (.call (.ref fa) ⟨[.ref a], []⟩)
      (fun r s' => r = .ok (.ret (.bool true)) ∧ OldK t.heap s'.heap ∧ s'.os = t.os ∧ AllBare s'.gens) t := by
  generalize hT : scT K a vs ns = T
  have visK : K.In (hidT t.heap T) := fun b o e => hidT_get (inK b o e) (hT ▸ scT_own e)
  have visN : ∀ b m, t.heap.Ns b m → (hidT t.heap T).Ns b m := by
    rintro b m ⟨o, es, ep, e, d, r⟩
    refine ⟨o, es, ep, hidT_get e ?_, d, r⟩
    rw [← hT]
    apply scT_ne
    rintro rfl
    rw [← Option.some.inj (ob.symm.trans e)] at d
    exact Data.noConfusion d
  have held : HOk P w T t.heap := by
    intro b u e
    rw [← hT] at e
    obtain ⟨rfl, _, rfl⟩ := scT_some e
    exact ⟨ob, by rw [List.length_map]; exact size, vs, _, vals_ints hints, ob⟩
  have seq : SqL K T a (ns.map V.int) := by
    cases e : K.lookup a with
    | none => exact .inl (.inr ⟨scObj vs, hT ▸ if_pos ⟨rfl, e⟩⟩)
    | some o =>
      rw [← Option.some.inj (ob.symm.trans (inK a o e))] at e
      exact .inr ⟨_, vs.toArray, _, e, rfl, rfl, rfl, by rw [List.size_toArray, hints.length]; exact size, by simpa using vals_ints hints⟩
  have around : Env0 P w K mg (hidT t.heap T) callerA [] t T :=
    { frames := rfl
      mod := ⟨visK, visN _ _ glob, ⟨mb, visN _ _ blt, bltq⟩, lim.imp fun mc h => ⟨visN _ _ h.1, h.2⟩⟩
      bs := fun _ _ e => of_hidT e
      bsz := Nat.le_of_eq (hidT_size _ _)
      funs := trivial
      frf := fun _ hb => (List.not_mem_nil hb).elim
      hok := held
      bare := .of_eq gens }
  apply codeAny_mono ((F _ visK (visN _ _ glob)).run callerA [] t T ⟨[.ref a], []⟩ [.ref a] [.ref a] _ _ rfl room around (bind t (.ref a)) (.cons rfl .nil) (prm T (hT ▸ scT_only K a vs ns) seq))
  intro r s' h
  match r, h with
  | .error _, z => exact z.elim
  | .ok .next, z => exact z.elim
  | .ok .brk, z => exact z.elim
  | .ok .cont, z => exact z.elim
  | .ok (.ret u), ⟨v, H', os, bare, un, held', rel, q⟩ =>
    cases q
    cases (show u = Value.bool true from rel)
    refine ⟨rfl, .of_keep ?_, os, bare⟩
    intro b o e
    by_cases c : T b = none
    · exact un.keep b o e c List.not_mem_nil List.not_mem_nil
    · obtain ⟨y, hy⟩ := Option.ne_none_iff_exists'.mp c
      have z := scT_some (hT ▸ hy)
      have hy2 : T b = some (.frz (scObj vs) (.lst (ns.map V.int))) := z.2.2 ▸ hy
      have same : some o = some (scObj vs) := e.symm.trans (held b _ hy2).1
      exact same ▸ (held' b _ (un.frzs b _ _ hy2)).1
/-- the goal that the head leaves, from the promise of the law's def -/
theorem walk_ofG {l : PySem.W.OpenLaw} {n k : Nat} {q : Program} {loose : List Str}
    {XP : (Str → Option Value) → Heap → Prop} {YP : World → Heap → Prop} {d : DefRec} {K : Params → PySem.W.Frag}
    {sp : World → Sp} {x : Str} (hn : l.most = some n) (hn2 : n ≤ sizeLine) (hdf : d.params.defaults = [])
    (room : Room k callerA) (hY : ∀ (w : World) (h : Heap), YP w h → (K w.params).In h)
    (F : ∀ (w : World) (mg : Str → Option Value) (fa : Addr) (h : Heap), (K w.params).In h → h.Ns mainGlobals mg →
      mg d.name = some (.ref fa) → ∃ fd : FuncData, (∀ (s : Shared) (u : Value), BindsTo s fd ⟨[u], []⟩ [(x, u)]) ∧
        ∀ base : Heap, (K w.params).In base → base.Ns mainGlobals mg →
          FnG l.prog w (K w.params) mg base k fa fd [x] (sp w))
    (prm : ∀ (w : World) (H : Hp) (a : Addr) (ns : List Int), ns.length ≤ n → Only H →
      SqL (K w.params) H a (ns.map V.int) → sp w [.ref a] H (fun v _ => v = .bl true) fun _ _ _ => False) :
    PySem.W.WalkO q loose XP YP
      l.row.toRowW d [] (fun f vs => PySem.call f vs) :=
  Att.attach_call hn hdf fun w _ _ _ _ fa _ _ _ _ a _ ns G Y _ _ _ hmg hobj hints hlen hg =>
    have inK := hY w _ Y
    let ⟨_, hb, hF⟩ := F w _ fa _ inK G.T.g hmg
    law_callG inK G.T.g G.T.b G.T.builtins G.T.nolimit hg hobj hints (Nat.le_trans hlen hn2) room hF hb
      fun H hO hS => prm w H a ns hlen hO hS
end HL

/-! HLn: plain facts: drawn items, names and paths made of letters. -/
namespace HL
open PySem PySem.Spec PyProof.Rows L2 TL
theorem pick {xs : List V} {v : Int} (h0 : 0 ≤ v) (h1 : v < (xs.length : Int)) : ∃ y, atI xs v = some y ∧ y ∈ xs := by
  obtain ⟨n, rfl⟩ := Int.eq_ofNat_of_zero_le h0
  have hn : n < xs.length := by omega
  exact ⟨_, atI_nat (List.getElem?_eq_getElem hn), List.getElem_mem hn⟩
/-- a text of one sign -/
abbrev sg (c : Nat) : Str := ⟨#[c]⟩
theorem pickS {z : Str} {v : Int} (h0 : 0 ≤ v) (h1 : v < ((tl z).length : Int)) : ∃ c, atI z.cps.toList v = some c ∧ c ∈ tl z := by
  obtain ⟨n, rfl⟩ := Int.eq_ofNat_of_zero_le h0
  have hn : n < (tl z).length := by omega
  exact ⟨_, atI_nat (List.getElem?_eq_getElem hn), List.getElem_mem hn⟩
theorem joinL_empty : ∀ cs : List Nat, joinL [] (cs.map fun c => [c]) = cs
  | [] => rfl
  | [c] => rfl
  | c :: d :: r => by
    have ih := joinL_empty (d :: r)
    show joinL [] ([c] :: (d :: r).map fun c => [c]) = c :: d :: r
    rw [joinL_cons [] [c] (by simp), ih]
    rfl
/-- ''.join of signs -/
theorem join_sg (cs : List Nat) : Txt.join "" (cs.map sg) = mkS cs := ext_tl (by
  rw [join_eq, tl_join, List.map_map, show tl "" = [] from by decide +kernel, tl_mkS]
  exact joinL_empty cs)
theorem sg_sum : ∀ cs : List Nat, ((cs.map sg).map (·.length)).sum = cs.length
  | [] => rfl
  | c :: r => by
    rw [List.map_cons, List.map_cons, List.sum_cons, sg_sum r, List.length_cons]
    show 1 + r.length = r.length + 1
    omega
theorem isNameL_of {cs : List Nat} (h1 : 1 ≤ cs.length) (h2 : cs.length ≤ 8) (h3 : ∀ c ∈ cs, c ∈ lets) : isNameL cs = true := by
  unfold isNameL
  rw [decide_eq_true h1, decide_eq_true h2, Bool.true_and, Bool.true_and, List.all_eq_true]
  exact fun c hc => decide_eq_true (h3 c hc)
theorem isNameL_len {cs : List Nat} (h : isNameL cs = true) : 1 ≤ cs.length ∧ cs.length ≤ 8 := by
  unfold isNameL at h
  simp only [Bool.and_eq_true, decide_eq_true_eq] at h
  exact h.1
theorem isNameL_mem {cs : List Nat} (h : isNameL cs = true) : ∀ c ∈ cs, c ∈ lets := by
  unfold isNameL at h
  simp only [Bool.and_eq_true, List.all_eq_true, decide_eq_true_eq] at h
  exact h.2
theorem isPathL_of {ps : List (List Nat)} (h0 : ps ≠ []) (h1 : ps.length ≤ 4) (h2 : ∀ p ∈ ps, isNameL p = true) : isPathL (joinL [46] ps) = true := by
  unfold isPathL
  rw [joinL_dot h0 fun p hp => name_nodot (h2 p hp), decide_eq_true h1, Bool.true_and, List.all_eq_true]
  exact h2
theorem len_le_of_sum : ∀ {ps : List (List Nat)} {m : Nat}, (∀ p ∈ ps, p.length ≤ m) → (ps.map List.length).sum ≤ ps.length * m
  | [], m, _ => by simp
  | p :: r, m, h => by
    have h1 := h p List.mem_cons_self
    have h2 := len_le_of_sum (ps := r) (m := m) fun q hq => h q (List.mem_cons_of_mem _ hq)
    rw [List.map_cons, List.sum_cons, List.length_cons, Nat.add_mul]
    omega
/-- signs of a path -/
def plets : List Nat := 46 :: lets
theorem isPathL_facts {l : List Nat} (h : isPathL l = true) : 1 ≤ l.length ∧ l.length ≤ 35 ∧ ∀ c ∈ l, c ∈ plets := by
  unfold isPathL at h
  simp only [Bool.and_eq_true, List.all_eq_true, decide_eq_true_eq] at h
  obtain ⟨h1, h2⟩ := h
  have e := joinL_wds l []
  rw [List.nil_append] at e
  have ne := wds_ne l []
  generalize wds [] l = ps at *
  refine ⟨?_, ?_, fun c hc => ?_⟩
  · cases ps with
    | nil => exact absurd rfl ne
    | cons p r =>
      have hp := (isNameL_len (h2 p List.mem_cons_self)).1
      rw [← e]
      cases r with
      | nil => simpa [joinL] using hp
      | cons q r =>
        rw [joinL_cons _ _ (by simp), List.length_append]
        omega
  · have s := len_le_of_sum (ps := ps) (m := 8) fun p hp => (isNameL_len (h2 p hp)).2
    have j : ∀ qs : List (List Nat), (joinL [46] qs).length + 1 ≤ (qs.map List.length).sum + qs.length + (if qs = [] then 1 else 0) := by
      intro qs
      induction qs with
      | nil => simp [joinL]
      | cons p r ih =>
        cases r with
        | nil => simp [joinL]
        | cons q r =>
          rw [joinL_cons _ _ (by simp), List.length_append, List.length_append, List.map_cons, List.sum_cons, List.length_cons, if_neg (by simp)]
          rw [if_neg (by simp)] at ih
          simp at ih ⊢
          omega
    have j1 := j ps
    rw [if_neg ne, e] at j1
    have : ps.length * 8 ≤ 32 := by omega
    omega
  · rw [← e] at hc
    rcases joinL_mem _ hc with z | ⟨p, hp, z⟩
    · rw [List.mem_singleton.mp z]
      exact List.mem_cons_self
    · exact List.mem_cons_of_mem _ (isNameL_mem (h2 p hp) c z)
theorem joinS46 (ps : List (List Nat)) : Txt.join "." (ps.map mkS) = mkS (joinL [46] ps) := joinS ps
theorem lets_small : ∀ c ∈ plets, c < 1114112 := by decide +kernel
theorem isNameL_ok {l : List Nat} (h : isNameL l = true) : OkL l := fun c hc => lets_small c (List.mem_cons_of_mem _ (isNameL_mem h c hc))
theorem isPathL_ok {l : List Nat} (h : isPathL l = true) : OkL l := fun c hc => lets_small c ((isPathL_facts h).2.2 c hc)
end HL

/-! HLq: repr of data: what it asks, how long it gets. -/
namespace HL
open PySem PySem.Spec PyProof.Rows L2 TL
/-! shown: how long -/
theorem short_str {z : Str} (h : OkL (tl z)) : PyData.leavesShort 410 (.str z) = true := by
  simp only [PyData.leavesShort, List.all_eq_true, decide_eq_true_eq]
  intro c hc
  exact Nat.lt_of_lt_of_le (h c hc) (by decide)
theorem short_all {xs : List PyData} (h : ∀ x ∈ xs, PyData.leavesShort 410 x = true) : PyData.leavesShortAll 410 xs = true := by
  induction xs with
  | nil => rfl
  | cons x r ih =>
    simp only [PyData.leavesShortAll, Bool.and_eq_true]
    exact ⟨h x List.mem_cons_self, ih fun y hy => h y (List.mem_cons_of_mem _ hy)⟩
theorem showable_all {xs : List PyData} (h : ∀ x ∈ xs, PyData.showable x = true) : PyData.showableAll xs = true := by
  induction xs with
  | nil => rfl
  | cons x r ih =>
    simp only [PyData.showableAll, Bool.and_eq_true]
    exact ⟨h x List.mem_cons_self, ih fun y hy => h y (List.mem_cons_of_mem _ hy)⟩
theorem noDict_all {xs : List PyData} (h : ∀ x ∈ xs, PyData.hasDict x = false) : PyData.hasDictAll xs = false := by
  induction xs with
  | nil => rfl
  | cons x r ih =>
    simp only [PyData.hasDictAll, Bool.or_eq_false_iff]
    exact ⟨h x List.mem_cons_self, ih fun y hy => h y (List.mem_cons_of_mem _ hy)⟩
theorem depth_all {xs : List PyData} {n : Nat} (h : ∀ x ∈ xs, PyData.depth x ≤ n) : PyData.depthAll xs ≤ n := by
  induction xs with
  | nil => exact Nat.zero_le _
  | cons x r ih =>
    simp only [PyData.depthAll]
    exact Nat.max_le.mpr ⟨h x List.mem_cons_self, ih fun y hy => h y (List.mem_cons_of_mem _ hy)⟩
theorem bulk_all {xs : List PyData} {n : Nat} (h : ∀ x ∈ xs, PyData.bulk x ≤ n) : PyData.bulkAll xs ≤ xs.length * (n + 1) := by
  induction xs with
  | nil => exact Nat.zero_le _
  | cons x r ih =>
    have h1 := h x List.mem_cons_self
    have h2 := ih fun y hy => h y (List.mem_cons_of_mem _ hy)
    simp only [PyData.bulkAll, List.length_cons, Nat.add_mul]
    omega
/-- what repr asks -/
structure ShowOk (x : PyData) (n k : Nat) : Prop where
  sh : x.leavesShort 410 = true
  ok : x.showable = true
  nd : x.hasDict = false
  dp : x.depth ≤ k
  bk : x.bulk ≤ n
theorem ShowOk.tup {xs : List PyData} {n k : Nat} (h : ∀ x ∈ xs, ∃ n, ShowOk x n k) (b : PyData.bulkAll xs ≤ n) : ShowOk (.tuple xs) n (k + 1) := by
  refine ⟨?_, ?_, ?_, ?_, ?_⟩
  · simp only [PyData.leavesShort]
    exact short_all fun x hx => (h x hx).choose_spec.sh
  · simp only [PyData.showable]
    exact showable_all fun x hx => (h x hx).choose_spec.ok
  · simp only [PyData.hasDict]
    exact noDict_all fun x hx => (h x hx).choose_spec.nd
  · simp only [PyData.depth]
    have := depth_all (n := k) fun x hx => (h x hx).choose_spec.dp
    omega
  · simp only [PyData.bulk]
    exact b
theorem ShowOk.str {z : Str} {k : Nat} (h : OkL (tl z)) : ShowOk (.str z) z.length k := ⟨short_str h, by simp only [PyData.showable], by simp only [PyData.hasDict], by simp only [PyData.depth]; exact Nat.zero_le _, by simp only [PyData.bulk]; exact Nat.le_refl _⟩
theorem ShowOk.int {n : Int} {k : Nat} (h : n.natAbs < 10 ^ 60) : ShowOk (.int n) 0 k := by
  refine ⟨?_, ?_, by simp only [PyData.hasDict], by simp only [PyData.depth]; exact Nat.zero_le _, by simp only [PyData.bulk]; exact Nat.zero_le _⟩
  · simp only [PyData.leavesShort, decide_eq_true_eq]
    have e : PyData.shown (.int n) = Str.ofString (toString n) := by simp only [PyData.shown]
    rw [e, PySem.ofString_length]
    exact Nat.le_trans (int_text_length_le10 (by decide) h) (by decide)
  · simp only [PyData.showable, decide_eq_true_eq]
    by_cases z : n.natAbs = 0
    · rw [z]; decide
    · exact (Nat.log2_lt z).mpr (Nat.lt_of_lt_of_le h (by decide +kernel))
theorem ShowOk.weak {x : PyData} {n m k l : Nat} (h : ShowOk x n k) (a : n ≤ m) (b : k ≤ l) : ShowOk x m l := ⟨h.sh, h.ok, h.nd, Nat.le_trans h.dp b, Nat.le_trans h.bk a⟩
/-- repr of a tuple that is laid out -/
theorem rep_show {K : PySem.W.Frag} {H : Hp} {Q : VK} {t : Addr} {xs : List PyData} {n : Nat} (d : Dp K H (.ref t) (.tuple xs)) (s : ShowOk (.tuple xs) n 60) (b : n ≤ 30000) (q : Q (.str (PyData.shown (.tuple xs))) H) : rReprD K [.ref t] H Q := by
  refine ⟨_, _, rfl, d, rfl, s.ok, s.nd, s.dp, ?_, q⟩
  have e := PyData.shown_le_bulk 410 (by decide) _ s.sh
  have := s.bk
  have := line63
  rw [sizeLine_eq]
  omega
end HL

/-! HLr: rows, in plain Lean. -/
namespace HL
open PySem PySem.Spec PyProof.Rows L2 TL
def faultW : List Str := ["NOMODULE", "NONAME", "HALF", "FLAT", "NOTASK", "ALL"]
def leadW : List Str := ["now", "take", "late", "ask"]
def isWordS (z : Str) : Bool := isNameL (tl z) || decide (z ∈ faultW)
/-- the words that a try catches, as drawn -/
structure OkWords (ws : List Str) : Prop where
  nd : ws.Nodup
  all : ∀ z ∈ ws, isWordS z = true
  few : ws.length ≤ 100
abbrev sD (l : List Nat) : PyData := .str (mkS l)
/-- a row as drawn, no try -/
inductive OkFlat : PyData → Prop
  | set {l : List Nat} {n : Int} : isNameL l = true → n.natAbs < 10 ^ 400 → OkFlat (.tuple [.str "set", sD l, .int n])
  | note {q : List Nat} : isPathL q = true → OkFlat (.tuple [.str "note", sD q])
  | fail {l : List Nat} : isNameL l = true → OkFlat (.tuple [.str "fail", sD l])
  | draw {l q m : List Nat} : isNameL l = true → isPathL q = true → isNameL m = true → OkFlat (.tuple [.str "draw", sD l, sD q, sD m])
  | lead {w : Str} {l q : List Nat} : w ∈ leadW → isNameL l = true → isPathL q = true → OkFlat (.tuple [.str w, sD l, sD q])
/-- a row as drawn, tries up to d one within another -/
inductive OkRow : Nat → PyData → Prop
  | flat {d : Nat} {x : PyData} : OkFlat x → OkRow d x
  | tryr {d : Nat} {a b : List PyData} {ws : List Str} : (∀ y ∈ a, OkRow d y) → OkWords ws → (∀ y ∈ b, OkRow d y) →
      OkRow (d + 1) (.tuple [.str "try", .tuple a, .tuple (ws.map .str), .tuple b])
/-- the k-th part of a tuple, a tuple -/
def partT (k : Nat) : PyData → List PyData
  | .tuple xs => match xs[k]? with
    | some (.tuple ys) => ys
    | _ => []
  | _ => []
def isTry : PyData → Bool
  | .tuple (.str w :: _) => decide (w = "try")
  | _ => false
def cntRow : Nat → PyData → Nat
  | 0, _ => 1
  | d + 1, x => if isTry x then 1 + ((partT 1 x).map (cntRow d)).sum + ((partT 3 x).map (cntRow d)).sum else 1
/-- how many rows -/
def cnts (d : Nat) (xs : List PyData) : Nat := (xs.map (cntRow d)).sum
theorem isTry_w {w : Str} (t : List PyData) (h : w ≠ "try") : isTry (.tuple (.str w :: t)) = false := decide_eq_false h
theorem OkFlat.notTry {x : PyData} (h : OkFlat x) : isTry x = false := by
  cases h with
  | set => exact isTry_w _ (by decide +kernel)
  | note => exact isTry_w _ (by decide +kernel)
  | fail => exact isTry_w _ (by decide +kernel)
  | draw => exact isTry_w _ (by decide +kernel)
  | lead hw =>
    simp only [leadW, List.mem_cons, List.not_mem_nil, or_false] at hw
    rcases hw with rfl | rfl | rfl | rfl <;> exact isTry_w _ (by decide +kernel)
theorem cntRow_flat {d : Nat} {x : PyData} (h : OkFlat x) : cntRow d x = 1 := by
  cases d with
  | zero => rfl
  | succ d => unfold cntRow; rw [h.notTry]; rfl
theorem isTry_try (t : List PyData) : isTry (.tuple (.str "try" :: t)) = true := by unfold isTry; exact decide_eq_true rfl
theorem cntRow_try (d : Nat) (a b : List PyData) (w : PyData) : cntRow (d + 1) (.tuple [.str "try", .tuple a, w, .tuple b]) = 1 + cnts d a + cnts d b := by
  unfold cntRow
  rw [isTry_try]
  rfl
theorem cnts_app (d : Nat) (xs ys : List PyData) : cnts d (xs ++ ys) = cnts d xs + cnts d ys := by unfold cnts; rw [List.map_append, List.sum_append]
theorem cnts_one (d : Nat) (x : PyData) : cnts d [x] = cntRow d x := by unfold cnts; simp
theorem cntRow_pos (d : Nat) (x : PyData) : 1 ≤ cntRow d x := by
  cases d with
  | zero => exact Nat.le_refl 1
  | succ d => unfold cntRow; split <;> omega
theorem len_le_cnts (d : Nat) : ∀ xs : List PyData, xs.length ≤ cnts d xs
  | [] => Nat.le_refl 0
  | x :: r => by
    have h1 := len_le_cnts d r
    have h2 := cntRow_pos d x
    unfold cnts at h1 ⊢
    rw [List.map_cons, List.sum_cons, List.length_cons]
    omega
mutual
theorem flat_strs : ∀ ws : List Str, flatAll (ws.map .str) = true
  | [] => rfl
  | w :: r => by
    show (flatD (.str w) && flatAll (r.map .str)) = true
    rw [flat_strs r]
    rfl
end
theorem flatAll_of : ∀ {xs : List PyData}, (∀ x ∈ xs, flatD x = true) → flatAll xs = true
  | [], _ => rfl
  | x :: r, h => by
    show (flatD x && flatAll r) = true
    rw [h x List.mem_cons_self, flatAll_of fun y hy => h y (List.mem_cons_of_mem _ hy)]
    rfl
theorem OkFlat.flat {x : PyData} (h : OkFlat x) : flatD x = true := by cases h <;> rfl
theorem OkRow.flatD : ∀ {d : Nat} {x : PyData}, OkRow d x → flatD x = true := by
  intro d
  induction d with
  | zero =>
    intro x h
    cases h with
    | flat h => exact h.flat
  | succ d ih =>
    intro x h
    cases h with
    | flat h => exact h.flat
    | tryr h1 h2 h3 =>
      show (true && (flatAll _ && (flatAll _ && (flatAll _ && true)))) = true
      rw [flatAll_of fun y hy => ih (h1 y hy), flatAll_of fun y hy => ih (h3 y hy), flat_strs]
      rfl
/-! data kept -/
theorem DpAll.snoc {K : PySem.W.Frag} {H : Hp} {v : V} {d : PyData} : ∀ {vs : List V} {ds : List PyData}, DpAll K H vs ds → Dp K H v d → DpAll K H (vs ++ [v]) (ds ++ [d])
  | _, _, .nil, h => .cons h .nil
  | _, _, .cons a b, h => .cons a (DpAll.snoc b h)
theorem DpAll.len {K : PySem.W.Frag} {H : Hp} : ∀ {vs : List V} {ds : List PyData}, DpAll K H vs ds → vs.length = ds.length
  | _, _, .nil => rfl
  | _, _, .cons _ b => congrArg (· + 1) (DpAll.len b)
theorem TupK.new {H : Hp} {t : Addr} {o : HO} (h : H t = none) : TupK H (upd H t o) := .of (W := []) (Kp.refl.upd_new h) fun x hx => absurd hx List.not_mem_nil
theorem TupK.lst {H : Hp} {l : Addr} {xs : List V} {o : HO} (h : H l = some (.lst xs)) : TupK H (upd H l o) :=
  .of (W := [l]) (Kp.refl.upd_mem List.mem_cons_self) fun x hx => by rw [List.mem_singleton.mp hx]; exact .lst h
theorem TupK.two {H H' : Hp} {p r : Addr} (k : Kp [p, r] H H') (hp : NoTup H p) (hr : NoTup H r) : TupK H H' := .of k fun x hx => by
  simp only [List.mem_cons, List.not_mem_nil, or_false] at hx
  rcases hx with rfl | rfl
  · exact hp
  · exact hr
theorem TupK.one {H H' : Hp} {p : Addr} (k : Kp [p] H H') (hp : NoTup H p) : TupK H H' := .of k fun x hx => by rw [List.mem_singleton.mp hx]; exact hp
theorem dpStrs {K : PySem.W.Frag} {H : Hp} : ∀ ws : List Str, DpAll K H (ws.map V.str) (ws.map PyData.str)
  | [] => .nil
  | x :: xs => .cons (.str x) (dpStrs xs)
theorem Kp.p_pr {p r : Addr} {A B : Hp} (k : Kp [p] A B) : Kp [p, r] A B := k.weak fun x hx => by rw [List.mem_singleton.mp hx]; exact List.mem_cons_self
theorem Kp.nil_pr {p r : Addr} {A B : Hp} (k : Kp [] A B) : Kp [p, r] A B := k.weak fun x hx => absurd hx List.not_mem_nil
theorem nin2 {a p r : Addr} (h1 : a ≠ p) (h2 : a ≠ r) : Nin a [p, r] := ⟨h1, h2, trivial⟩
/-! rows as they are judged -/
def isNameX : PyData → Bool
  | .str z => isNameL (tl z)
  | _ => false
def isPathX : PyData → Bool
  | .str z => isPathL (tl z)
  | _ => false
def isWholeX : PyData → Bool
  | .int _ => true
  | _ => false
/-- one part of a row that is no try -/
inductive Part : PyData → Prop
  | non : Part .none
  | int {n : Int} : n.natAbs < 10 ^ 400 → Part (.int n)
  | str {z : Str} : z.length ≤ 100000 → Part (.str z)
/-- a row as a text's reader makes it -/
inductive RowG : PyData → Prop
  | bare {w : Str} {ds : List PyData} : w.length ≤ 100000 → (∀ d ∈ ds, Part d) → ds.length ≤ 100000 → RowG (.tuple (.str w :: ds))
  | tryr {a b : List PyData} {ws : List Str} : (∀ y ∈ a, RowG y) → a.length ≤ 100000 → (∀ z ∈ ws, z.length ≤ 100000) → ws.length ≤ 100 → (∀ y ∈ b, RowG y) → b.length ≤ 100000 →
      RowG (.tuple [.str "try", .tuple a, .tuple (ws.map .str), .tuple b])
def nth (ds : List PyData) (k : Nat) : PyData := ds.getD k .none
/-- is_bare, of the parts behind the word w -/
def isBareX (w : Str) (t : List PyData) : Bool :=
  if w = "note" then decide (t.length = 1) && isPathX (nth t 0)
  else if w = "fail" then decide (t.length = 1) && isNameX (nth t 0)
  else if t.length < 2 then false
  else if isNameX (nth t 0) = false then false
  else if w = "set" then decide (t.length = 2) && isWholeX (nth t 1)
  else if w = "draw" then decide (t.length = 3) && (isPathX (nth t 1) && isNameX (nth t 2))
  else decide (w ∈ leadW) && (decide (t.length = 2) && isPathX (nth t 1))
/-- are_words, of texts -/
def areWordsX : PyData → Bool
  | .tuple ds => ds.all (fun d => match d with | .str z => isWordS z | _ => false) && decide (ds.map (fun d => match d with | .str z => z | _ => Str.empty)).Nodup
  | _ => false
/-- is_row_within -/
def isRowX : Nat → PyData → Bool
  | 0, .tuple (.str w :: t) => if w = "try" then false else isBareX w t
  | d + 1, .tuple (.str w :: t) => if w = "try" then decide (t.length = 3) && (areWordsX (nth t 1) &&
      ((partT 1 (.tuple (.str w :: t))).all (isRowX d) && (partT 3 (.tuple (.str w :: t))).all (isRowX d))) else isBareX w t
  | _, _ => false
theorem unlike_all (ks : List Str) : ∀ i, i ≤ ks.length → (unlike ks i = i ↔ (ks.take i).Nodup)
  | 0, _ => by simp [unlike]
  | i + 1, h => by
    have ih := unlike_all ks i (by omega)
    have le := unlike_le ks i
    have hi : i < ks.length := h
    have e : ks.take (i + 1) = ks.take i ++ [ks[i]] := by rw [List.take_add_one, List.getElem?_eq_getElem hi]; rfl
    have g : ks.getD i Str.empty = ks[i] := by rw [List.getD_eq_getElem?_getD, List.getElem?_eq_getElem hi]; rfl
    have any : (ks.take i).any (· == ks.getD i Str.empty) = decide (ks[i] ∈ ks.take i) := by
      rw [g, List.any_beq']
      exact Bool.eq_iff_iff.mpr (by simp)
    unfold unlike
    rw [any, e]
    by_cases c : ks[i] ∈ ks.take i
    · rw [if_pos (decide_eq_true c)]
      refine ⟨fun z => by omega, fun z => ?_⟩
      exact absurd rfl ((List.nodup_append.mp z).2.2 _ c _ (List.mem_singleton.mpr rfl))
    · rw [if_neg (by simpa using c)]
      refine ⟨fun z => List.nodup_append.mpr ⟨ih.mp (by omega), List.pairwise_singleton _ _, fun a ha b hb e => c (by rw [← List.mem_singleton.mp hb, ← e]; exact ha)⟩, fun z => ?_⟩
      rw [ih.mpr (List.nodup_append.mp z).1]
end HL

/-! HLt: rows as drawn are good rows. -/
namespace HL
open PySem PySem.Spec PyProof.Rows L2 TL
theorem sD_len {l : List Nat} {m : Nat} (h : l.length ≤ m) : (mkS l).length ≤ m := by rw [mkS_len]; exact h
theorem Part.name {l : List Nat} (h : isNameL l = true) : Part (sD l) := .str (sD_len (Nat.le_trans (isNameL_len h).2 (by decide)))
theorem Part.path {l : List Nat} (h : isPathL l = true) : Part (sD l) := .str (sD_len (Nat.le_trans (isPathL_facts h).2.1 (by decide)))
theorem isRowX_flat {d : Nat} {z : Str} {ds : List PyData} (h : z ≠ "try") : isRowX d (.tuple (.str z :: ds)) = isBareX z ds := by
  cases d with
  | zero => exact if_neg h
  | succ d => exact if_neg h
theorem parts1 {a : PyData} (h : Part a) : ∀ d ∈ [a], Part d := fun d hd => by rw [List.mem_singleton.mp hd]; exact h
theorem parts2 {a b : PyData} (h : Part a) (g : Part b) : ∀ d ∈ [a, b], Part d := fun d hd => by
  simp only [List.mem_cons, List.not_mem_nil, or_false] at hd
  rcases hd with rfl | rfl
  · exact h
  · exact g
theorem parts3 {a b c : PyData} (h : Part a) (g : Part b) (k : Part c) : ∀ d ∈ [a, b, c], Part d := fun d hd => by
  simp only [List.mem_cons, List.not_mem_nil, or_false] at hd
  rcases hd with rfl | rfl | rfl
  · exact h
  · exact g
  · exact k
theorem OkFlat.rowG {x : PyData} (h : OkFlat x) : RowG x := by
  cases h with
  | set h g => exact .bare (by decide +kernel) (parts2 (.name h) (.int g)) (by simp)
  | note h => exact .bare (by decide +kernel) (parts1 (.path h)) (by simp)
  | fail h => exact .bare (by decide +kernel) (parts1 (.name h)) (by simp)
  | draw h g k => exact .bare (by decide +kernel) (parts3 (.name h) (.path g) (.name k)) (by simp)
  | lead hw h g =>
    refine .bare ?_ (parts2 (.name h) (.path g)) (by simp)
    simp only [leadW, List.mem_cons, List.not_mem_nil, or_false] at hw
    rcases hw with rfl | rfl | rfl | rfl <;> decide +kernel
theorem isNameX_sD {l : List Nat} (h : isNameL l = true) : isNameX (sD l) = true := h
theorem isPathX_sD {l : List Nat} (h : isPathL l = true) : isPathX (sD l) = true := h
theorem OkFlat.isRow {x : PyData} (h : OkFlat x) (d : Nat) : isRowX d x = true := by
  have ne : ∀ {a b : Str}, decide (a = b) = false → a ≠ b := fun h => of_decide_eq_false h
  cases h with
  | @set l n h _ =>
    rw [isRowX_flat (by decide +kernel)]
    unfold isBareX
    rw [if_neg (ne (by decide +kernel)), if_neg (ne (by decide +kernel)), if_neg (by simp), if_neg (by show ¬ isNameX (sD l) = false; rw [isNameX_sD h]; simp), if_pos rfl]
    rfl
  | @note q h =>
    rw [isRowX_flat (by decide +kernel)]
    unfold isBareX
    rw [if_pos rfl]
    exact h
  | @fail l h =>
    rw [isRowX_flat (by decide +kernel)]
    unfold isBareX
    rw [if_neg (ne (by decide +kernel)), if_pos rfl]
    exact h
  | @draw l q m h g k =>
    rw [isRowX_flat (by decide +kernel)]
    unfold isBareX
    rw [if_neg (ne (by decide +kernel)), if_neg (ne (by decide +kernel)), if_neg (by simp), if_neg (by show ¬ isNameX (sD l) = false; rw [isNameX_sD h]; simp), if_neg (ne (by decide +kernel)), if_pos rfl]
    show (true && (isPathX (sD q) && isNameX (sD m))) = true
    rw [isPathX_sD g, isNameX_sD k]
    rfl
  | @lead w l q hw h g =>
    have hw2 := hw
    simp only [leadW, List.mem_cons, List.not_mem_nil, or_false] at hw2
    have n : w ≠ "try" ∧ w ≠ "note" ∧ w ≠ "fail" ∧ w ≠ "set" ∧ w ≠ "draw" := by
      rcases hw2 with rfl | rfl | rfl | rfl <;> decide +kernel
    rw [isRowX_flat n.1]
    unfold isBareX
    rw [if_neg n.2.1, if_neg n.2.2.1, if_neg (by simp), if_neg (by show ¬ isNameX (sD l) = false; rw [isNameX_sD h]; simp), if_neg n.2.2.2.1, if_neg n.2.2.2.2, decide_eq_true hw]
    exact g
theorem isWordS_len {z : Str} (h : isWordS z = true) : z.length ≤ 100000 := by
  unfold isWordS at h
  rw [Bool.or_eq_true] at h
  rcases h with h | h
  · rw [len_tl]; exact Nat.le_trans (isNameL_len h).2 (by decide)
  · have h := of_decide_eq_true h
    simp only [faultW, List.mem_cons, List.not_mem_nil, or_false] at h
    rcases h with rfl | rfl | rfl | rfl | rfl | rfl <;> decide +kernel
theorem le_sum_mem {d : Nat} : ∀ {xs : List PyData} {x : PyData}, x ∈ xs → cntRow d x ≤ cnts d xs
  | a :: r, x, h => by
    unfold cnts
    rw [List.map_cons, List.sum_cons]
    rcases List.mem_cons.mp h with rfl | h
    · omega
    · have := le_sum_mem (d := d) h
      unfold cnts at this
      omega
theorem areWordsX_ok {ws : List Str} (h : OkWords ws) : areWordsX (.tuple (ws.map .str)) = true := by
  have e : ∀ (f : Str → Str), (∀ z, f z = z) → ws.map f = ws := fun f h => (List.map_congr_left fun z _ => h z).trans (List.map_id' ws)
  have g := e ((fun d : PyData => match d with | .str z => z | _ => Str.empty) ∘ PyData.str) fun _ => rfl
  unfold areWordsX
  dsimp only
  rw [List.all_map, List.map_map, Bool.and_eq_true]
  refine ⟨List.all_eq_true.mpr fun z hz => h.all z hz, decide_eq_true ?_⟩
  exact (Iff.of_eq (congrArg List.Nodup g)).mpr h.nd
theorem OkRow.good : ∀ {d : Nat} {x : PyData}, OkRow d x → cntRow d x ≤ 100000 → RowG x ∧ isRowX d x = true := by
  intro d
  induction d with
  | zero =>
    intro x h _
    cases h with
    | flat h => exact ⟨h.rowG, h.isRow 0⟩
  | succ d ih =>
    intro x h c
    cases h with
    | flat h => exact ⟨h.rowG, h.isRow _⟩
    | @tryr _ a b ws h1 h2 h3 =>
      rw [cntRow_try] at c
      have ga : ∀ y ∈ a, RowG y ∧ isRowX d y = true := fun y hy => ih (h1 y hy) (Nat.le_trans (le_sum_mem hy) (by omega))
      have gb : ∀ y ∈ b, RowG y ∧ isRowX d y = true := fun y hy => ih (h3 y hy) (Nat.le_trans (le_sum_mem hy) (by omega))
      refine ⟨.tryr (fun y hy => (ga y hy).1) (Nat.le_trans (len_le_cnts d a) (by omega)) (fun z hz => isWordS_len (h2.all z hz)) h2.few (fun y hy => (gb y hy).1) (Nat.le_trans (len_le_cnts d b) (by omega)), ?_⟩
      show (if ("try" : Str) = "try" then _ else _) = true
      rw [if_pos rfl]
      show (true && (areWordsX (.tuple (ws.map .str)) && (a.all (isRowX d) && b.all (isRowX d)))) = true
      rw [areWordsX_ok h2, List.all_eq_true.mpr fun y hy => (ga y hy).2, List.all_eq_true.mpr fun y hy => (gb y hy).2]
      rfl
end HL

/-! HLu: rows as lines of a text, and back. -/
namespace HL
open PySem PySem.Spec PyProof.Rows L2 TL
/-- str of a part -/
def partS : PyData → Str
  | .str z => z
  | .int n => Str.ofString (toString n)
  | _ => Str.empty
def partsT : PyData → List PyData
  | .tuple xs => xs
  | _ => []
def lineS (x : PyData) : Str := Txt.join " " ((partsT x).map partS)
def caughtS (ws : List Str) : Str := Txt.join " " (("caught" : Str) :: ws)
def rowLines : Nat → PyData → List Str
  | 0, x => [lineS x]
  | d + 1, x => if isTry x then "try" :: ((partT 1 x).flatMap (rowLines d) ++ (caughtS ((partT 2 x).map partS) :: ((partT 3 x).flatMap (rowLines d) ++ [("done" : Str)]))) else [lineS x]
def rowsL (d : Nat) (xs : List PyData) : List Str := xs.flatMap (rowLines d)
theorem rowsL_app (d : Nat) (xs ys : List PyData) : rowsL d (xs ++ ys) = rowsL d xs ++ rowsL d ys := List.flatMap_append
theorem rowsL_one (d : Nat) (x : PyData) : rowsL d [x] = rowLines d x := List.flatMap_singleton ..
theorem rowsL_cons (d : Nat) (x : PyData) (r : List PyData) : rowsL d (x :: r) = rowLines d x ++ rowsL d r := List.flatMap_cons ..
theorem rowLines_flat {d : Nat} {x : PyData} (h : isTry x = false) : rowLines d x = [lineS x] := by
  cases d with
  | zero => rfl
  | succ d => unfold rowLines; rw [h]; rfl
theorem partS_strs (ws : List Str) : (ws.map PyData.str).map partS = ws := by
  rw [List.map_map]
  exact (List.map_congr_left fun z _ => rfl).trans (List.map_id' ws)
theorem rowLines_try (d : Nat) (a b : List PyData) (ws : List Str) : rowLines (d + 1) (.tuple [.str "try", .tuple a, .tuple (ws.map .str), .tuple b]) = ("try" : Str) :: (rowsL d a ++ (caughtS ws :: (rowsL d b ++ [("done" : Str)]))) := by
  unfold rowLines
  rw [isTry_try]
  show ("try" : Str) :: (a.flatMap (rowLines d) ++ (caughtS ((ws.map PyData.str).map partS) :: (b.flatMap (rowLines d) ++ [("done" : Str)]))) = _
  rw [partS_strs]
  rfl
/-! numbers in words -/
def figL : List Nat := tl "0123456789"
theorem mem_figL (c : Nat) : c ∈ figL ↔ 48 ≤ c ∧ c ≤ 57 := by
  rw [show figL = [48, 49, 50, 51, 52, 53, 54, 55, 56, 57] from by decide +kernel]
  simp only [List.mem_cons, List.not_mem_nil, or_false]
  omega
def figsL : List Nat → List Nat
  | [] => []
  | c :: r => if c = 45 then r else c :: r
def numX (z : Str) : PyData :=
  if figsL (tl z) = [] ∨ ((figsL (tl z)).all fun c => decide (c ∈ figL)) = false then .none
  else if figsL (tl z) = tl z then .int (NumText.digitsVal (figsL (tl z)) : Nat) else .int (-((NumText.digitsVal (figsL (tl z)) : Nat) : Int))
theorem starts_minus (z : Str) : Txt.startswith z "-" = pre [45] (tl z) := by
  have e : tl ("-" : Str) = [45] := by decide +kernel
  have h := at_iff (x := z) (y := "-") (by rw [e]; simp) 0
  rw [e, List.drop_zero] at h
  have g : Txt.startswith z "-" = true ↔ PySem.StrLaws.At z "-" z.length 0 := by
    unfold Txt.startswith PySem.StrLaws.At
    simp only [Bool.and_eq_true, decide_eq_true_eq]
  exact Bool.eq_iff_iff.mpr (g.trans h)
theorem tl_int (n : Int) : tl (Str.ofString (toString n)) = if n < 0 then 45 :: numL n.natAbs else numL n.natAbs := by
  cases n with
  | ofNat m =>
    rw [if_neg (by simp)]
    exact tl_num m
  | negSucc m =>
    rw [if_pos (Int.negSucc_lt_zero m)]
    have e : toString (Int.negSucc m) = "-" ++ toString (m + 1) := rfl
    have g : tl (Str.ofString (toString (((m + 1 : Nat)) : Int))) = numL (m + 1) := tl_num (m + 1)
    have g2 : (Str.ofString (toString (m + 1))).cps.toList = numL (m + 1) := g
    rw [signs_ofString] at g2
    show (Str.ofString (toString (Int.negSucc m))).cps.toList = _
    rw [signs_ofString, e, String.toList_append, List.map_append]
    show 45 :: (toString (m + 1)).toList.map Char.toNat = _
    exact congrArg _ g2
theorem numL_len400 {n : Nat} (h : n < 10 ^ 400) : (numL n).length ≤ 400 := numL_len (by decide) h
theorem numL_head {n c : Nat} {r : List Nat} (h : numL n = c :: r) : c ≠ 45 := fun e => numL_free (n := n) (s := 45) (.inl (by decide)) (by rw [h, e]; exact List.mem_cons_self)
theorem figsL_num (n : Nat) : figsL (numL n) = numL n := by
  cases h : numL n with
  | nil => rfl
  | cons c r => exact if_neg (numL_head h)
theorem figsL_minus (r : List Nat) : figsL (45 :: r) = r := by unfold figsL; exact if_pos rfl
theorem numX_int (n : Int) : numX (Str.ofString (toString n)) = .int n := by
  have ne := numL_ne n.natAbs
  have al : ((numL n.natAbs).all fun c => decide (c ∈ figL)) = true := List.all_eq_true.mpr fun c hc => decide_eq_true ((mem_figL c).mpr (numL_digits _ c hc))
  unfold numX
  rw [tl_int]
  by_cases h : n < 0
  · rw [if_pos h, figsL_minus, if_neg (by rw [al]; simp [ne]), if_neg (fun e => by have := congrArg List.length e; simp at this), numL_val]
    congr 1
    omega
  · rw [if_neg h, figsL_num, if_neg (by rw [al]; simp [ne]), if_pos rfl, numL_val]
    congr 1
    omega
/-! a row of words -/
def rowInX (ws : List Str) : PyData :=
  if ws.getD 0 "" = "set" ∧ ws.length = 3 then .tuple [.str "set", .str (ws.getD 1 ""), numX (ws.getD 2 "")] else .tuple (ws.map .str)
/-- a try under way -/
structure Fr where
  ahead : List PyData
  mid : Option (List PyData × List Str)
abbrev RSt := List Fr × List PyData
def stepR (s : RSt) (line : Str) : Option RSt :=
  if line = "try" then some (⟨s.2, none⟩ :: s.1, [])
  else if (Txt.split line " ").getD 0 "" = "caught" then
    match s.1 with
    | ⟨a, none⟩ :: r => some (⟨a, some (s.2, (Txt.split line " ").tail)⟩ :: r, [])
    | _ => none
  else if line = "done" then
    match s.1 with
    | ⟨a, some (f, c)⟩ :: r => some (r, a ++ [.tuple [.str "try", .tuple f, .tuple (c.map .str), .tuple s.2]])
    | _ => none
  else some (s.1, s.2 ++ [rowInX (Txt.split line " ")])
def runR : RSt → List Str → Option RSt
  | s, [] => some s
  | s, l :: r => match stepR s l with
    | some t => runR t r
    | none => none
theorem runR_app {s t : RSt} : ∀ {xs : List Str} (ys : List Str), runR s xs = some t → runR s (xs ++ ys) = runR t ys := by
  intro xs
  induction xs generalizing s with
  | nil => intro ys h; cases h; rfl
  | cons x r ih =>
    intro ys h
    unfold runR at h
    show (match stepR s x with | some t => runR t (r ++ ys) | none => none) = _
    cases e : stepR s x with
    | none => rw [e] at h; cases h
    | some u => rw [e] at h; exact ih ys h
/-! a line's words, again -/
def Clean (z : Str) : Prop := 32 ∉ tl z ∧ 10 ∉ tl z
theorem tl_blank : tl (" " : Str) = [32] := by decide +kernel
theorem tl_nl : tl ("\n" : Str) = [10] := by decide +kernel
theorem split_back {ws : List Str} (ne : ws ≠ []) (h : ∀ z ∈ ws, 32 ∉ tl z) : Txt.split (Txt.join " " ws) " " = ws :=
  split_join (s := 32) (S := []) tl_blank (by decide +kernel) ne h
theorem plets_clean : ∀ c ∈ plets, c ≠ 32 ∧ c ≠ 10 := by decide +kernel
theorem clean_name {l : List Nat} (h : isNameL l = true) : Clean (mkS l) := ⟨fun m => (plets_clean _ (List.mem_cons_of_mem _ (isNameL_mem h _ m))).1 rfl, fun m => (plets_clean _ (List.mem_cons_of_mem _ (isNameL_mem h _ m))).2 rfl⟩
theorem clean_path {l : List Nat} (h : isPathL l = true) : Clean (mkS l) := ⟨fun m => (plets_clean _ ((isPathL_facts h).2.2 _ m)).1 rfl, fun m => (plets_clean _ ((isPathL_facts h).2.2 _ m)).2 rfl⟩
theorem clean_int (n : Int) : Clean (Str.ofString (toString n)) := ⟨int_text_free' 32 ⟨by decide, by decide⟩ n, int_text_free' 10 ⟨by decide, by decide⟩ n⟩
theorem len_int {n : Int} (h : n.natAbs < 10 ^ 400) : (Str.ofString (toString n)).length ≤ 401 := by
  rw [PySem.ofString_length]
  exact int_text_length_le10 (by decide) h
theorem clean_word {z : Str} (h : isWordS z = true) : Clean z ∧ z.length ≤ 8 := by
  unfold isWordS at h
  rw [Bool.or_eq_true] at h
  rcases h with h | h
  · have c := clean_name h
    rw [mkS_tl] at c
    exact ⟨c, by rw [len_tl]; exact (isNameL_len h).2⟩
  · have h := of_decide_eq_true h
    simp only [faultW, List.mem_cons, List.not_mem_nil, or_false] at h
    have e : ∀ y ∈ faultW, (32 ∉ tl y ∧ 10 ∉ tl y) ∧ y.length ≤ 8 := by decide +kernel
    exact e z (by simp only [faultW, List.mem_cons, List.not_mem_nil, or_false]; exact h)
def rowW : List Str := ["set", "note", "fail", "draw", "now", "take", "late", "ask"]
theorem rowW_facts : ∀ z ∈ rowW, z ≠ "try" ∧ z ≠ "caught" ∧ z ≠ "done" ∧ (32 ∉ tl z ∧ 10 ∉ tl z) ∧ z.length ≤ 4 := by decide +kernel
/-- a row's part, and its word -/
structure PartOk (p : PyData) : Prop where
  cl : Clean (partS p)
  len : (partS p).length ≤ 402
  kind : (∃ z : Str, p = .str z ∧ z.length ≤ 35 ∧ OkL (tl z)) ∨ ∃ n : Int, p = .int n ∧ n.natAbs < 10 ^ 400
theorem PartOk.name {l : List Nat} (h : isNameL l = true) : PartOk (sD l) := ⟨clean_name h, by show (mkS l).length ≤ 402; rw [mkS_len]; have := (isNameL_len h).2; omega, .inl ⟨_, rfl, by rw [mkS_len]; have := (isNameL_len h).2; omega, by rw [tl_mkS]; exact isNameL_ok h⟩⟩
theorem PartOk.path {l : List Nat} (h : isPathL l = true) : PartOk (sD l) := ⟨clean_path h, by show (mkS l).length ≤ 402; rw [mkS_len]; have := (isPathL_facts h).2.1; omega, .inl ⟨_, rfl, by rw [mkS_len]; exact (isPathL_facts h).2.1, by rw [tl_mkS]; exact isPathL_ok h⟩⟩
theorem PartOk.int {n : Int} (h : n.natAbs < 10 ^ 400) : PartOk (.int n) := ⟨clean_int n, Nat.le_trans (len_int h) (by decide), .inr ⟨n, rfl, h⟩⟩
structure FlatShape (x : PyData) (w : Str) (ps : List PyData) : Prop where
  eq : x = .tuple (.str w :: ps)
  wd : w ∈ rowW
  ne : ps ≠ []
  few : ps.length ≤ 3
  ok : ∀ p ∈ ps, PartOk p
  back : rowInX (w :: ps.map partS) = x
theorem OkFlat.shape {x : PyData} (h : OkFlat x) : ∃ w ps, FlatShape x w ps := by
  have ns : ∀ {w : Str} {ys : List Str}, decide (w = "set") = false → rowInX (w :: ys) = .tuple (.str w :: ys.map .str) := fun h => if_neg fun z => of_decide_eq_false h z.1
  cases h with
  | @set l n h g =>
    refine ⟨"set", [sD l, .int n], rfl, by decide +kernel, by simp, by simp, fun p hp => ?_, ?_⟩
    · simp only [List.mem_cons, List.not_mem_nil, or_false] at hp
      rcases hp with rfl | rfl
      · exact .name h
      · exact .int g
    · unfold rowInX
      rw [if_pos ⟨rfl, rfl⟩]
      show PyData.tuple [_, _, numX (Str.ofString (toString n))] = _
      rw [numX_int]
      rfl
  | @note q h =>
    refine ⟨"note", [sD q], rfl, by decide +kernel, by simp, by simp, fun p hp => ?_, ns (by decide +kernel)⟩
    rw [List.mem_singleton.mp hp]
    exact .path h
  | @fail l h =>
    refine ⟨"fail", [sD l], rfl, by decide +kernel, by simp, by simp, fun p hp => ?_, ns (by decide +kernel)⟩
    rw [List.mem_singleton.mp hp]
    exact .name h
  | @draw l q m h g k =>
    refine ⟨"draw", [sD l, sD q, sD m], rfl, by decide +kernel, by simp, by simp, fun p hp => ?_, ns (by decide +kernel)⟩
    simp only [List.mem_cons, List.not_mem_nil, or_false] at hp
    rcases hp with rfl | rfl | rfl
    · exact .name h
    · exact .path g
    · exact .name k
  | @lead w l q hw h g =>
    have e : ∀ z ∈ leadW, z ∈ rowW ∧ decide (z = "set") = false := by decide +kernel
    refine ⟨w, [sD l, sD q], rfl, (e w hw).1, by simp, by simp, fun p hp => ?_, ns (e w hw).2⟩
    simp only [List.mem_cons, List.not_mem_nil, or_false] at hp
    rcases hp with rfl | rfl
    · exact .name h
    · exact .path g
section
variable {x : PyData} {w : Str} {ps : List PyData}
theorem FlatShape.words (h : FlatShape x w ps) : lineS x = Txt.join " " (w :: ps.map partS) ∧ Txt.split (lineS x) " " = w :: ps.map partS := by
  have e : lineS x = Txt.join " " (w :: ps.map partS) := by rw [h.eq]; rfl
  refine ⟨e, ?_⟩
  rw [e]
  refine split_back (by simp) fun z hz => ?_
  rcases List.mem_cons.mp hz with rfl | hz
  · exact (rowW_facts _ h.wd).2.2.2.1.1
  · obtain ⟨p, hp, rfl⟩ := List.mem_map.mp hz
    exact (h.ok p hp).cl.1
theorem FlatShape.not1 (h : FlatShape x w ps) {z : Str} (hz : Txt.split z " " = [z]) : lineS x ≠ z := fun e => by
  have g := h.words.2
  rw [e, hz] at g
  have := congrArg List.length g
  have n := List.length_pos_iff.mpr h.ne
  rw [List.length_cons, List.length_cons, List.length_map, List.length_nil] at this
  omega
theorem split_try : Txt.split "try" " " = [("try" : Str)] := split_back (ws := [("try" : Str)]) (by simp) (by decide +kernel)
theorem split_done : Txt.split "done" " " = [("done" : Str)] := split_back (ws := [("done" : Str)]) (by simp) (by decide +kernel)
theorem FlatShape.step (h : FlatShape x w ps) (s : RSt) : stepR s (lineS x) = some (s.1, s.2 ++ [x]) := by
  unfold stepR
  rw [if_neg (h.not1 split_try), h.words.2, if_neg (show ¬ (w :: ps.map partS).getD 0 "" = "caught" from (rowW_facts _ h.wd).2.1), if_neg (h.not1 split_done), h.back]
end
theorem caughtS_split {ws : List Str} (h : ∀ z ∈ ws, isWordS z = true) : Txt.split (caughtS ws) " " = ("caught" : Str) :: ws := split_back (by simp) fun z hz => by
  rcases List.mem_cons.mp hz with rfl | hz
  · decide +kernel
  · exact (clean_word (h z hz)).1.1
theorem OkRow.run : ∀ {d : Nat} {x : PyData}, OkRow d x → ∀ s : RSt, runR s (rowLines d x) = some (s.1, s.2 ++ [x]) := by
  have flat : ∀ {d : Nat} {x : PyData}, OkFlat x → ∀ s : RSt, runR s (rowLines d x) = some (s.1, s.2 ++ [x]) := fun h s => by
    obtain ⟨w, ps, g⟩ := h.shape
    rw [rowLines_flat h.notTry]
    unfold runR
    rw [g.step]
    rfl
  have many : ∀ {d : Nat}, (∀ {x : PyData}, OkRow d x → ∀ s : RSt, runR s (rowLines d x) = some (s.1, s.2 ++ [x])) → ∀ (xs : List PyData), (∀ y ∈ xs, OkRow d y) → ∀ s : RSt, runR s (rowsL d xs) = some (s.1, s.2 ++ xs) := by
    intro d ih xs
    induction xs with
    | nil => intro _ s; show some s = _; rw [List.append_nil]
    | cons y r ihr =>
      intro h s
      rw [rowsL_cons, runR_app _ (ih (h y List.mem_cons_self) s), ihr (fun z hz => h z (List.mem_cons_of_mem _ hz))]
      dsimp only
      rw [List.append_assoc]
      rfl
  intro d
  induction d with
  | zero =>
    intro x h
    cases h with
    | flat h => exact flat h
  | succ d ih =>
    intro x h s
    cases h with
    | flat h => exact flat h s
    | @tryr _ a b ws h1 h2 h3 =>
      rw [rowLines_try]
      have e1 : stepR s "try" = some (⟨s.2, none⟩ :: s.1, []) := if_pos rfl
      have e2 : ∀ t : RSt, stepR (⟨s.2, none⟩ :: s.1, t.2) (caughtS ws) = some (⟨s.2, some (t.2, ws)⟩ :: s.1, []) := fun t => by
        have g := caughtS_split h2.all
        have n : caughtS ws ≠ "try" := fun z => by
          rw [z, split_try] at g
          exact absurd (List.cons.inj g).1 (by decide +kernel)
        unfold stepR
        rw [if_neg n, g, if_pos (show (("caught" : Str) :: ws).getD 0 "" = "caught" from rfl)]
        rfl
      have e3 : ∀ t : RSt, stepR (⟨s.2, some (t.2, ws)⟩ :: s.1, b) "done" = some (s.1, s.2 ++ [.tuple [.str "try", .tuple t.2, .tuple (ws.map .str), .tuple b]]) := fun t => by
        unfold stepR
        rw [if_neg (by decide +kernel), split_done, if_neg (by decide +kernel), if_pos rfl]
      show (match stepR s "try" with | some t => runR t _ | none => none) = _
      rw [e1]
      dsimp only
      rw [runR_app _ (many ih a h1 _)]
      show (match stepR (⟨s.2, none⟩ :: s.1, [] ++ a) (caughtS ws) with | some t => runR t _ | none => none) = _
      rw [List.nil_append, e2 ([], a)]
      dsimp only
      rw [runR_app _ (many ih b h3 _)]
      show (match stepR (⟨s.2, some (a, ws)⟩ :: s.1, [] ++ b) "done" with | some t => runR t _ | none => none) = _
      rw [List.nil_append, e3 ([], a)]
      rfl
theorem OkRow.runs {d : Nat} : ∀ {xs : List PyData}, (∀ y ∈ xs, OkRow d y) → ∀ s : RSt, runR s (rowsL d xs) = some (s.1, s.2 ++ xs) := by
  intro xs
  induction xs with
  | nil => intro _ s; show some s = _; rw [List.append_nil]
  | cons y r ih =>
    intro h s
    rw [rowsL_cons, runR_app _ ((h y List.mem_cons_self).run s), ih (fun z hz => h z (List.mem_cons_of_mem _ hz))]
    dsimp only
    rw [List.append_assoc]
    rfl
/-! lines: clean of line feeds, how long, how many -/
theorem join_mem {c : Nat} {y : Str} {ws : List Str} (h : c ∈ tl (Txt.join y ws)) : c ∈ tl y ∨ ∃ z ∈ ws, c ∈ tl z := by
  rw [join_eq, tl_join] at h
  rcases joinL_mem _ h with h | ⟨p, hp, h⟩
  · exact .inl h
  · obtain ⟨z, hz, rfl⟩ := List.mem_map.mp hp
    exact .inr ⟨z, hz, h⟩
structure LineOk (z : Str) : Prop where
  nl : 10 ∉ tl z
  len : z.length ≤ 1300
  wd : ∀ y ∈ Txt.split z " ", y.length ≤ 640
theorem FlatShape.line {x : PyData} {w : Str} {ps : List PyData} (h : FlatShape x w ps) : LineOk (lineS x) := by
  have f := rowW_facts _ h.wd
  have sp := h.words.2
  rw [h.words.1] at sp ⊢
  refine ⟨fun m => ?_, ?_, fun y hy => ?_⟩
  · rcases join_mem m with m | ⟨z, hz, m⟩
    · rw [tl_blank] at m
      exact absurd (List.mem_singleton.mp m) (by decide)
    · rcases List.mem_cons.mp hz with e | hz
      · rw [e] at m; exact f.2.2.2.1.2 m
      · obtain ⟨p, hp, rfl⟩ := List.mem_map.mp hz
        exact (h.ok p hp).cl.2 m
  · have l := join_len " " (w :: ps.map partS)
    have s : ((ps.map partS).map (·.length)).sum ≤ (ps.map partS).length * 402 := sum_le_of fun y hy => by
      obtain ⟨p, hp, rfl⟩ := List.mem_map.mp hy
      exact (h.ok p hp).len
    have w4 := f.2.2.2.2
    have fw := h.few
    have b1 : (" " : Str).length = 1 := by decide +kernel
    rw [List.map_cons, List.sum_cons, List.length_cons, b1] at l
    rw [List.length_map] at l s
    omega
  · rw [sp] at hy
    rcases List.mem_cons.mp hy with rfl | hy
    · exact Nat.le_trans f.2.2.2.2 (by decide)
    · obtain ⟨p, hp, rfl⟩ := List.mem_map.mp hy
      exact Nat.le_trans (h.ok p hp).len (by decide)
theorem caught_line {ws : List Str} (h : OkWords ws) : LineOk (caughtS ws) := by
  refine ⟨fun m => ?_, ?_, fun y hy => ?_⟩
  · rcases join_mem m with m | ⟨z, hz, m⟩
    · rw [tl_blank] at m
      exact absurd (List.mem_singleton.mp m) (by decide)
    · rcases List.mem_cons.mp hz with rfl | hz
      · revert m; decide +kernel
      · exact (clean_word (h.all z hz)).1.2 m
  · have l := join_len " " (("caught" : Str) :: ws)
    have s : (ws.map (·.length)).sum ≤ ws.length * 8 := sum_le_of fun y hy => (clean_word (h.all y hy)).2
    have fw := h.few
    have b1 : (" " : Str).length = 1 := by decide +kernel
    have b2 : ("caught" : Str).length = 6 := by decide +kernel
    rw [List.map_cons, List.sum_cons, List.length_cons, b1, b2] at l
    unfold caughtS
    omega
  · rw [caughtS_split h.all] at hy
    rcases List.mem_cons.mp hy with rfl | hy
    · decide +kernel
    · exact Nat.le_trans (clean_word (h.all y hy)).2 (by decide)
theorem OkRow.lines : ∀ {d : Nat} {x : PyData}, OkRow d x → (∀ z ∈ rowLines d x, LineOk z) ∧ (rowLines d x).length ≤ 3 * cntRow d x := by
  have flat : ∀ {d : Nat} {x : PyData}, OkFlat x → (∀ z ∈ rowLines d x, LineOk z) ∧ (rowLines d x).length ≤ 3 * cntRow d x := fun h => by
    obtain ⟨w, ps, g⟩ := h.shape
    rw [rowLines_flat h.notTry, cntRow_flat h]
    refine ⟨fun z hz => ?_, by simp⟩
    rw [List.mem_singleton.mp hz]
    exact g.line
  have many : ∀ {d : Nat}, (∀ {x : PyData}, OkRow d x → (∀ z ∈ rowLines d x, LineOk z) ∧ (rowLines d x).length ≤ 3 * cntRow d x) → ∀ (xs : List PyData), (∀ y ∈ xs, OkRow d y) → (∀ z ∈ rowsL d xs, LineOk z) ∧ (rowsL d xs).length ≤ 3 * cnts d xs := by
    intro d ih xs
    induction xs with
    | nil => intro _; exact ⟨fun z hz => absurd hz List.not_mem_nil, Nat.zero_le _⟩
    | cons y r ihr =>
      intro h
      have h1 := ih (h y List.mem_cons_self)
      have h2 := ihr fun z hz => h z (List.mem_cons_of_mem _ hz)
      have ec : cnts d (y :: r) = cntRow d y + cnts d r := by unfold cnts; rw [List.map_cons, List.sum_cons]
      rw [rowsL_cons]
      refine ⟨fun z hz => (List.mem_append.mp hz).elim (h1.1 z) (h2.1 z), ?_⟩
      rw [List.length_append]
      omega
  intro d
  induction d with
  | zero =>
    intro x h
    cases h with
    | flat h => exact flat h
  | succ d ih =>
    intro x h
    cases h with
    | flat h => exact flat h
    | @tryr _ a b ws h1 h2 h3 =>
      have ha := many ih a h1
      have hb := many ih b h3
      rw [rowLines_try, cntRow_try]
      refine ⟨fun z hz => ?_, ?_⟩
      · rcases List.mem_cons.mp hz with rfl | hz
        · exact ⟨by decide +kernel, by decide +kernel, by rw [split_try]; decide +kernel⟩
        rcases List.mem_append.mp hz with hz | hz
        · exact ha.1 z hz
        rcases List.mem_cons.mp hz with rfl | hz
        · exact caught_line h2
        rcases List.mem_append.mp hz with hz | hz
        · exact hb.1 z hz
        · rw [List.mem_singleton.mp hz]
          exact ⟨by decide +kernel, by decide +kernel, by rw [split_done]; decide +kernel⟩
      · rw [List.length_cons, List.length_append, List.length_cons, List.length_append]
        simp only [List.length_singleton]
        omega
theorem OkRow.linesAll {d : Nat} : ∀ {xs : List PyData}, (∀ y ∈ xs, OkRow d y) → (∀ z ∈ rowsL d xs, LineOk z) ∧ (rowsL d xs).length ≤ 3 * cnts d xs := by
  intro xs
  induction xs with
  | nil => intro _; exact ⟨fun z hz => absurd hz List.not_mem_nil, Nat.zero_le _⟩
  | cons y r ihr =>
    intro h
    have h1 := (h y List.mem_cons_self).lines
    have h2 := ihr fun z hz => h z (List.mem_cons_of_mem _ hz)
    have ec : cnts d (y :: r) = cntRow d y + cnts d r := by unfold cnts; rw [List.map_cons, List.sum_cons]
    rw [rowsL_cons]
    refine ⟨fun z hz => (List.mem_append.mp hz).elim (h1.1 z) (h2.1 z), ?_⟩
    rw [List.length_append]
    omega
/-! the whole text -/
def textOf (ls : List Str) : Str := Txt.join "" (ls.map (fun z : Str => z ++ ("\n" : Str)))
theorem joinL_nl : ∀ ls : List (List Nat), joinL [] (ls.map (· ++ [10])) = joinL [10] (ls ++ [[]])
  | [] => rfl
  | [a] => by simp [joinL]
  | a :: b :: r => by
    have ih := joinL_nl (b :: r)
    rw [List.map_cons, joinL_cons [] _ (by simp), ih, List.cons_append (a := a), joinL_cons [10] a (by simp), List.nil_append, List.append_assoc]
theorem textOf_eq (ls : List Str) : textOf ls = Txt.join "\n" (ls ++ [("" : Str)]) := by
  unfold textOf
  refine ext_tl ?_
  have e := joinL_nl (ls.map tl)
  rw [join_eq, tl_join, join_eq, tl_join, tl_nl, show tl ("" : Str) = [] from by decide +kernel, List.map_append, List.map_map]
  rw [List.map_map] at e
  have g : (ls.map (tl ∘ fun z : Str => z ++ "\n")) = ls.map ((fun z : List Nat => z ++ [10]) ∘ tl) := List.map_congr_left fun z _ => by
    show tl (z ++ "\n") = tl z ++ [10]
    rw [tl_append, tl_nl]
  rw [g, e]
  rfl
theorem textOf_split {ls : List Str} (h : ∀ z ∈ ls, 10 ∉ tl z) : Txt.split (textOf ls) "\n" = ls ++ [("" : Str)] := by
  rw [textOf_eq]
  refine split_join (s := 10) (S := []) tl_nl (by decide +kernel) (by simp) fun z hz => ?_
  rcases List.mem_append.mp hz with hz | hz
  · exact h z hz
  · rw [List.mem_singleton.mp hz]
    decide +kernel
theorem nl_len (z : Str) : (z ++ ("\n" : Str)).length = z.length + 1 := by
  rw [len_tl, tl_append, List.length_append, ← len_tl, tl_nl]
  rfl
theorem nl_sum {ls : List Str} (h : ∀ z ∈ ls, z.length ≤ 1300) : ((ls.map (fun z : Str => z ++ ("\n" : Str))).map (·.length)).sum ≤ ls.length * 1301 := by
  have s : ((ls.map (fun z : Str => z ++ ("\n" : Str))).map (·.length)).sum ≤ (ls.map (fun z : Str => z ++ ("\n" : Str))).length * 1301 := sum_le_of fun y hy => by
    obtain ⟨z, hz, rfl⟩ := List.mem_map.mp hy
    have := h z hz
    rw [nl_len]
    omega
  rw [List.length_map] at s
  exact s
theorem textOf_len {ls : List Str} (h : ∀ z ∈ ls, z.length ≤ 1300) : (textOf ls).length ≤ ls.length * 1301 := by
  have l := join_len "" (ls.map (fun z : Str => z ++ ("\n" : Str)))
  have b : ("" : Str).length = 0 := by decide +kernel
  have s := nl_sum h
  rw [b, Nat.mul_zero, Nat.add_zero] at l
  unfold textOf
  omega
theorem ShowOk.part {p : PyData} {k : Nat} (h : PartOk p) : ShowOk p 35 k := by
  rcases h.kind with ⟨z, rfl, hz, o⟩ | ⟨n, rfl, hn⟩
  · have s := ShowOk.str (k := k) o
    exact ⟨s.sh, s.ok, s.nd, s.dp, Nat.le_trans s.bk hz⟩
  · refine ⟨?_, ?_, by simp only [PyData.hasDict], by simp only [PyData.depth]; exact Nat.zero_le _, by simp only [PyData.bulk]; exact Nat.zero_le _⟩
    · simp only [PyData.leavesShort, decide_eq_true_eq]
      have e : PyData.shown (.int n) = Str.ofString (toString n) := by simp only [PyData.shown]
      rw [e]
      exact Nat.le_trans (len_int hn) (by decide)
    · simp only [PyData.showable, decide_eq_true_eq]
      by_cases z : n.natAbs = 0
      · rw [z]; decide
      · exact (Nat.log2_lt z).mpr (Nat.lt_of_lt_of_le hn (by decide +kernel))
theorem OkL.word {z : Str} (h : isWordS z = true) : OkL (tl z) := by
  unfold isWordS at h
  rw [Bool.or_eq_true] at h
  rcases h with h | h
  · exact isNameL_ok h
  · have e : ∀ y ∈ faultW, ∀ c ∈ tl y, c < 1114112 := by decide +kernel
    exact e z (of_decide_eq_true h)
theorem rowW_ok : ∀ z ∈ rowW, ∀ c ∈ tl z, c < 1114112 := by decide +kernel
theorem OkRow.show : ∀ {d : Nat} {x : PyData}, OkRow d x → ShowOk x (1000 * cntRow d x - 1) (2 * d + 1) := by
  have flat : ∀ {d : Nat} {x : PyData}, OkFlat x → ShowOk x (1000 * cntRow d x - 1) (2 * d + 1) := fun {d x} h => by
    obtain ⟨w, ps, g⟩ := h.shape
    rw [cntRow_flat h, g.eq]
    have b := bulk_all (xs := ps) (n := 35) fun p hp => (ShowOk.part (k := 0) (g.ok p hp)).bk
    have w4 := (rowW_facts _ g.wd).2.2.2.2
    have fw := g.few
    refine .tup (fun x hx => ?_) ?_
    · rcases List.mem_cons.mp hx with rfl | hx
      · exact ⟨_, .str (rowW_ok _ g.wd)⟩
      · exact ⟨_, .part (g.ok _ hx)⟩
    · simp only [PyData.bulkAll, PyData.bulk]
      have e : w.cps.size = w.length := rfl
      rw [e]
      omega
  have many : ∀ {d : Nat}, (∀ {x : PyData}, OkRow d x → ShowOk x (1000 * cntRow d x - 1) (2 * d + 1)) → ∀ (xs : List PyData), (∀ y ∈ xs, OkRow d y) → PyData.bulkAll xs ≤ 1000 * cnts d xs := by
    intro d ih xs
    induction xs with
    | nil => intro _; exact Nat.zero_le _
    | cons y r ihr =>
      intro h
      have h1 := (ih (h y List.mem_cons_self)).bk
      have h2 := ihr fun z hz => h z (List.mem_cons_of_mem _ hz)
      have ec : cnts d (y :: r) = cntRow d y + cnts d r := by unfold cnts; rw [List.map_cons, List.sum_cons]
      have := cntRow_pos d y
      simp only [PyData.bulkAll]
      omega
  intro d
  induction d with
  | zero =>
    intro x h
    cases h with
    | flat h => exact flat h
  | succ d ih =>
    intro x h
    cases h with
    | flat h => exact flat h
    | @tryr _ a b ws h1 h2 h3 =>
      have ba := many ih a h1
      have bb := many ih b h3
      have bw : PyData.bulkAll (ws.map .str) ≤ (ws.map PyData.str).length * (8 + 1) := bulk_all fun x hx => by
        obtain ⟨z, hz, rfl⟩ := List.mem_map.mp hx
        simp only [PyData.bulk]
        exact (clean_word (h2.all z hz)).2
      have fw := h2.few
      rw [List.length_map] at bw
      rw [cntRow_try]
      have sa : ShowOk (.tuple a) (1000 * cnts d a) (2 * d + 1 + 1) := .tup (fun x hx => ⟨_, ih (h1 x hx)⟩) ba
      have sb : ShowOk (.tuple b) (1000 * cnts d b) (2 * d + 1 + 1) := .tup (fun x hx => ⟨_, ih (h3 x hx)⟩) bb
      have sw : ShowOk (.tuple (ws.map .str)) 900 (2 * d + 1 + 1) := .tup (fun x hx => by
        obtain ⟨z, hz, rfl⟩ := List.mem_map.mp hx
        exact ⟨_, .str (OkL.word (h2.all z hz))⟩) (by omega)
      refine .tup (k := 2 * d + 1 + 1) (fun x hx => ?_) ?_
      · simp only [List.mem_cons, List.not_mem_nil, or_false] at hx
        rcases hx with rfl | rfl | rfl | rfl
        · exact ⟨_, .str (by decide +kernel : ∀ c ∈ tl ("try" : Str), c < 1114112)⟩
        · exact ⟨_, sa⟩
        · exact ⟨_, sw⟩
        · exact ⟨_, sb⟩
      · have e : ("try" : Str).cps.size = 3 := by decide +kernel
        simp only [PyData.bulkAll, PyData.bulk]
        rw [e]
        omega
/-- a body's repr -/
theorem OkRow.shows {d : Nat} {xs : List PyData} (h : ∀ x ∈ xs, OkRow d x) (c : cnts d xs ≤ 40) : ShowOk (.tuple xs) 40000 (2 * d + 2) := by
  have many : ∀ (xs : List PyData), (∀ y ∈ xs, OkRow d y) → PyData.bulkAll xs ≤ 1000 * cnts d xs := by
    intro xs
    induction xs with
    | nil => intro _; exact Nat.zero_le _
    | cons y r ihr =>
      intro h
      have h1 := (h y List.mem_cons_self).show.bk
      have h2 := ihr fun z hz => h z (List.mem_cons_of_mem _ hz)
      have ec : cnts d (y :: r) = cntRow d y + cnts d r := by unfold cnts; rw [List.map_cons, List.sum_cons]
      have := cntRow_pos d y
      simp only [PyData.bulkAll]
      omega
  exact .tup (fun x hx => ⟨_, (h x hx).show⟩) (Nat.le_trans (many xs h) (by omega))
theorem ShowOk.fits {x : PyData} {k : Nat} (h : ShowOk x 40000 k) : x.shown.length ≤ sizeLine := by
  have b := PyData.shown_le_bulk 410 (by decide) x h.sh
  have := h.bk
  have e : sizeLine = 16777216 := rfl
  omega
end HL

/-! HLv: more steps; tuples of texts; a row's data. -/
namespace HL
open PySem PySem.Spec PyProof.Rows L2 TL
theorem log2_400 {n : Nat} (h : n < 10 ^ 400) : n.log2 < 1920 := by
  by_cases z : n = 0
  · subst z; decide
  · exact (Nat.log2_lt z).mpr (Nat.lt_of_lt_of_le h (by decide +kernel))
theorem dp_strs_inv {K : PySem.W.Frag} {H : Hp} : ∀ {ws : List Str} {vs : List V}, DpAll K H vs (ws.map PyData.str) → vs = ws.map V.str
  | [], _, .nil => rfl
  | z :: ws, _, .cons h t => by
    cases h
    rw [dp_strs_inv t]
    rfl
theorem dp_words {K : PySem.W.Frag} {H : Hp} {v : V} {ws : List Str} (h : Dp K H v (.tuple (ws.map .str))) : ∃ a, v = .ref a ∧ SqT K H a (ws.map V.str) := by
  cases h with
  | tup hs ha => exact ⟨_, rfl, dp_strs_inv ha ▸ hs⟩
theorem dp_nth {K : PySem.W.Frag} {H : Hp} : ∀ {vs : List V} {ds : List PyData}, DpAll K H vs ds → ∀ {k : Nat} {v : V}, vs[k]? = some v → ∃ d, ds[k]? = some d ∧ Dp K H v d
  | _, _, .nil, k, v, h => by simp at h
  | _, _, .cons a b, 0, v, h => by cases h; exact ⟨_, rfl, a⟩
  | _, _, .cons a b, k + 1, v, h => dp_nth b h
/-- a row as it lies: a word and parts, or a try -/
theorem dp_flat {K : PySem.W.Frag} {H : Hp} {v : V} {w : Str} {ps : List PyData} (h : Dp K H v (.tuple (.str w :: ps))) : ∃ a vs, v = .ref a ∧ SqT K H a (.str w :: vs) ∧ DpAll K H vs ps := by
  cases h with
  | tup hs ha =>
    cases ha with
    | cons h0 ht => cases h0; exact ⟨_, _, rfl, hs, ht⟩
theorem dp_try {K : PySem.W.Frag} {H : Hp} {v : V} {w : Str} {x y z : PyData} (h : Dp K H v (.tuple [.str w, x, y, z])) : ∃ a u1 u2 u3, v = .ref a ∧ SqT K H a [.str w, u1, u2, u3] ∧ Dp K H u1 x ∧ Dp K H u2 y ∧ Dp K H u3 z := by
  cases h with
  | tup hs ha =>
    obtain _ | ⟨h0, _ | ⟨d1, _ | ⟨d2, _ | ⟨d3, h4⟩⟩⟩⟩ := ha
    cases h4
    cases h0
    exact ⟨_, _, _, _, rfl, hs, d1, d2, d3⟩
/-- str of a row's part -/
theorem s_strP {K : PySem.W.Frag} {H : Hp} {Q : VK} {v : V} {p : PyData} (h : Dp K H v p) (o : PartOk p) (q : Q (.str (partS p)) H) : rStrOf [v] H Q := by
  rcases o.kind with ⟨z, rfl, _⟩ | ⟨n, rfl, hn⟩
  · cases h; exact s_strS q
  · cases h; exact s_strI (log2_400 hn) q
theorem PartOk.word {w : Str} (h : w ∈ rowW) : PartOk (.str w) := ⟨(rowW_facts _ h).2.2.2.1, Nat.le_trans (rowW_facts _ h).2.2.2.2 (by decide), .inl ⟨_, rfl, Nat.le_trans (rowW_facts _ h).2.2.2.2 (by decide), rowW_ok _ h⟩⟩
theorem OkRow.cases {d : Nat} {x : PyData} (h : OkRow d x) : (∃ w ps, FlatShape x w ps ∧ OkFlat x) ∨
    (∃ (e : Nat) (a b : List PyData) (ws : List Str), d = e + 1 ∧ x = .tuple [.str "try", .tuple a, .tuple (ws.map .str), .tuple b] ∧ (∀ y ∈ a, OkRow e y) ∧ OkWords ws ∧ (∀ y ∈ b, OkRow e y)) := by
  cases h with
  | flat h => obtain ⟨w, ps, g⟩ := h.shape; exact .inl ⟨w, ps, g, h⟩
  | tryr h1 h2 h3 => exact .inr ⟨_, _, _, _, rfl, rfl, h1, h2, h3⟩
theorem cnts_cons (d : Nat) (x : PyData) (r : List PyData) : cnts d (x :: r) = cntRow d x + cnts d r := by unfold cnts; rw [List.map_cons, List.sum_cons]
theorem take_rows {d : Nat} {xs : List PyData} {i : Nat} {x : PyData} (h : xs[i]? = some x) : rowsL d (xs.take (i + 1)) = rowsL d (xs.take i) ++ rowLines d x := by
  rw [take_put h, rowsL_app, rowsL_one]
theorem sum_le_mem {l : List Str} {m : Nat} (h : ∀ y ∈ l, y.length ≤ m) : (l.map (·.length)).sum ≤ l.length * m := sum_le_of h
theorem rowsL_len {d : Nat} {xs : List PyData} (h : ∀ x ∈ xs, OkRow d x) (c : cnts d xs ≤ 1000) : (rowsL d xs).length ≤ 3000 := by
  have := (OkRow.linesAll h).2
  omega
theorem cnts_take (d : Nat) (xs : List PyData) (i : Nat) : cnts d (xs.take i) ≤ cnts d xs := by
  conv => rhs; rw [← List.take_append_drop i xs, cnts_app]
  omega
theorem cnts_mem {d : Nat} {xs : List PyData} {x : PyData} (h : x ∈ xs) : cntRow d x ≤ cnts d xs := le_sum_mem h
theorem seqT_tups {K : PySem.W.Frag} {H H' : Hp} {a : Addr} {xs : List V} (k : TupK H H') (h : SqT K H a xs) : SqT K H' a xs := h.elim (fun h => .inl (k _ _ h)) .inr
theorem joinL_snoc (S p : List Nat) : ∀ {ps : List (List Nat)}, ps ≠ [] → joinL S (ps ++ [p]) = joinL S ps ++ (S ++ p)
  | [], h => absurd rfl h
  | [a], _ => rfl
  | a :: b :: r, _ => by
    have ih := joinL_snoc S p (ps := b :: r) (by simp)
    rw [List.cons_append, joinL_cons S a (by simp), ih, joinL_cons S a (by simp)]
    simp
theorem join_snoc {y w : Str} {ws : List Str} (h : ws ≠ []) : Txt.join y (ws ++ [w]) = Txt.join y ws ++ y ++ w := ext_tl (by
  rw [join_eq, join_eq, tl_join, tl_append, tl_append, tl_join, List.map_append, List.map_cons, List.map_nil, joinL_snoc _ _ (by simpa using h), List.append_assoc])
end HL

/-! HLw: the reader's heap: tries under way. -/
namespace HL
open PySem PySem.Spec PyProof.Rows L2 TL
def Tr (H : Hp) (x : Addr) : Prop := ∃ o, H x = some o
theorem Tr.upd {H : Hp} {x a : Addr} {o : HO} (h : Tr H x) : Tr (upd H a o) x := by
  by_cases e : x = a
  · subst e; exact ⟨o, upd_same⟩
  · obtain ⟨u, hu⟩ := h; exact ⟨u, (upd_ne e).trans hu⟩
theorem Tr.ne {H : Hp} {x a : Addr} (h : Tr H x) (n : H a = none) : x ≠ a := by
  obtain ⟨u, hu⟩ := h; exact ne_of_none hu n
theorem Tr.kp {H H' : Hp} {x : Addr} (h : Tr H x) (k : Kp [] H H') : Tr H' x := by
  obtain ⟨u, hu⟩ := h; exact ⟨u, k.get trivial hu⟩
structure FrAt (K : PySem.W.Frag) (H : Hp) (f : Fr) (p : Addr × Addr) : Prop where
  ah : ∃ vs, H p.2 = some (.lst vs) ∧ DpAll K H vs f.ahead
  fl : flatAll f.ahead = true
  md : (f.mid = none ∧ H p.1 = some (.lst [.ref p.2, .non, .non])) ∨
    (∃ fs c u1 u2, f.mid = some (fs, c) ∧ H p.1 = some (.lst [.ref p.2, .ref u1, .ref u2]) ∧ Dp K H (.ref u1) (.tuple fs) ∧ Dp K H (.ref u2) (.tuple (c.map .str)) ∧ flatAll fs = true)
inductive Frs (K : PySem.W.Frag) (H : Hp) : List Fr → List (Addr × Addr) → Prop
  | nil : Frs K H [] []
  | cons {f : Fr} {p : Addr × Addr} {fs : List Fr} {ps : List (Addr × Addr)} : FrAt K H f p → Frs K H fs ps → Frs K H (f :: fs) (p :: ps)
def adrs (ps : List (Addr × Addr)) : List Addr := ps.flatMap fun p => [p.1, p.2]
theorem adrs_cons (p : Addr × Addr) (ps : List (Addr × Addr)) : adrs (p :: ps) = p.1 :: p.2 :: adrs ps := rfl
section
variable {K : PySem.W.Frag} {H H' : Hp} {W : List Addr} {f : Fr} {p : Addr × Addr} {fs : List Fr} {ps : List (Addr × Addr)}
theorem FrAt.kp (h : FrAt K H f p) (k : Kp W H H') (tk : TupK H H') (n1 : Nin p.1 W) (n2 : Nin p.2 W) : FrAt K H' f p := by
  obtain ⟨vs, e, d⟩ := h.ah
  refine ⟨⟨vs, k.get n2 e, Dp.tupsAll tk _ _ h.fl d⟩, h.fl, ?_⟩
  rcases h.md with ⟨a, b⟩ | ⟨gs, c, u1, u2, a, b, d1, d2, fl⟩
  · exact .inl ⟨a, k.get n1 b⟩
  · exact .inr ⟨gs, c, u1, u2, a, k.get n1 b, Dp.tups tk _ _ fl d1, Dp.tups tk _ _ (flat_strs c) d2, fl⟩
theorem Frs.kp (h : Frs K H fs ps) (k : Kp W H H') (tk : TupK H H') (n : ∀ x ∈ adrs ps, Nin x W) : Frs K H' fs ps := by
  induction h with
  | nil => exact .nil
  | cons a b ih =>
    refine .cons (a.kp k tk (n _ (by rw [adrs_cons]; simp)) (n _ (by rw [adrs_cons]; simp))) (ih fun x hx => n x (by rw [adrs_cons]; simp [hx]))
theorem FrAt.tr1 (h : FrAt K H f p) : Tr H p.1 := by
  rcases h.md with ⟨_, b⟩ | ⟨_, _, _, _, _, b, _⟩
  · exact ⟨_, b⟩
  · exact ⟨_, b⟩
theorem FrAt.tr2 (h : FrAt K H f p) : Tr H p.2 := by
  obtain ⟨vs, e, _⟩ := h.ah
  exact ⟨_, e⟩
theorem Frs.tr (h : Frs K H fs ps) : ∀ x ∈ adrs ps, Tr H x := by
  induction h with
  | nil => intro x hx; cases hx
  | cons a b ih =>
    intro x hx
    rw [adrs_cons] at hx
    rcases List.mem_cons.mp hx with rfl | hx
    · exact a.tr1
    rcases List.mem_cons.mp hx with rfl | hx
    · exact a.tr2
    · exact ih x hx
theorem Frs.len (h : Frs K H fs ps) : fs.length = ps.length := by
  induction h with
  | nil => rfl
  | cons a b ih => exact congrArg (· + 1) ih
end
theorem nin1 {x t : Addr} (h : x ≠ t) : Nin x [t] := ⟨h, trivial⟩
theorem atI_last1 {α : Type} (l : List α) (x : α) : atI (l ++ [x]) (-1) = some x := atI_last l x
theorem rev_refs (p : Addr × Addr) (ps : List (Addr × Addr)) : ((p :: ps).map fun p => V.ref p.1).reverse = (ps.map fun p => V.ref p.1).reverse ++ [.ref p.1] := by
  rw [List.map_cons, List.reverse_cons]
/-- what the reader's two lists hold -/
structure RelR (K : PySem.W.Frag) (H0 H : Hp) (t h : Addr) (s : RSt) (i : Nat) (ps : List (Addr × Addr)) : Prop where
  fr : Frs K H s.1 ps
  tl : H t = some (.lst (ps.map fun p => V.ref p.1).reverse)
  nd : (t :: h :: adrs ps).Nodup
  p0 : ∀ p ∈ ps, H0 p.1 = none
  here : ∃ vs, H h = some (.lst vs) ∧ DpAll K H vs s.2
  fl : flatAll s.2 = true
  t0 : H0 t = none
  h0 : H0 h = none
  kp : Kp [] H0 H
  n1 : s.1.length ≤ i
  n2 : s.2.length ≤ i
  n3 : ∀ f ∈ s.1, f.ahead.length ≤ i
theorem flat_snoc {xs : List PyData} {x : PyData} (h : flatAll xs = true) (g : flatD x = true) : flatAll (xs ++ [x]) = true := by
  induction xs with
  | nil => show (flatD x && true) = true; rw [g]; rfl
  | cons y r ih =>
    simp only [flatAll, Bool.and_eq_true] at h
    show (flatD y && flatAll (r ++ [x])) = true
    rw [h.1, ih h.2]
    rfl
theorem flat_rowIn (ws : List Str) : flatD (rowInX ws) = true := by
  unfold rowInX
  split
  · have e : flatD (numX (ws.getD 2 "")) = true := by
      unfold numX
      split
      · rfl
      · split <;> rfl
    show (true && (true && (flatD (numX (ws.getD 2 "")) && true))) = true
    rw [e]
    rfl
  · exact flat_strs ws
theorem runR_take {ls : List Str} {i : Nat} {s t u : RSt} {z : Str} (h : runR s (ls.take i) = some t) (e : ls[i]? = some z) (g : stepR t z = some u) : runR s (ls.take (i + 1)) = some u := by
  rw [take_put e, runR_app _ h]
  show (match stepR t z with | some t => runR t [] | none => none) = _
  rw [g]
  rfl
theorem runR_fail {ls : List Str} {i : Nat} {s t : RSt} {z : Str} (h : runR s (ls.take i) = some t) (e : ls[i]? = some z) (g : stepR t z = none) : runR s ls = none := by
  have e2 : ls = ls.take i ++ z :: ls.drop (i + 1) := by
    conv => lhs; rw [← List.take_append_drop i ls]
    congr 1
    obtain ⟨hi, rfl⟩ := List.getElem?_eq_some_iff.mp e
    exact List.drop_eq_getElem_cons hi
  rw [e2, runR_app _ h]
  show (match stepR t z with | some t => runR t _ | none => none) = _
  rw [g]
theorem cut1 {z : Str} {c : Nat} {r : List Nat} (h : tl z = c :: r) : cutS z (some 1) none = mkS r := by
  have hl : z.length = r.length + 1 := by rw [len_tl, h]; rfl
  have e : HT.sIx z.length 0 (some 1) = 1 := by
    have := HT.sIx_nat z.length 0 1
    rw [hl] at this ⊢
    exact this.trans (by omega)
  unfold cutS mkS
  rw [e, show HT.sIx z.length z.length none = z.length from rfl, show z.cps.toList = tl z from rfl, h, hl]
  simp
theorem split_ne (z y : Str) (hy : tl y ≠ []) (hk : y.cps.all (· < 256) = true) : Txt.split z y ≠ [] := fun e => by
  have h := split_spl z y hy (kind_ok hk)
  rw [e] at h
  have n : ∀ (S l : List Nat) (k : Nat) (acc : List Nat), spl S k acc l ≠ [] := by
    intro S l
    induction l with
    | nil => intro k acc; rw [spl_nil]; simp
    | cons c r ih =>
      intro k acc
      cases k with
      | zero =>
        cases hp : pre S (c :: r) with
        | true => rw [spl_hit hp]; simp
        | false => rw [spl_miss hp]; exact ih 0 _
      | succ k =>
        rw [spl_pass]
        have := ih k acc
        rw [spl_pass] at this
        exact this
  exact n _ _ _ _ h.symm
theorem split_count (z y : Str) (hy : tl y ≠ []) (hk : y.cps.all (· < 256) = true) : (Txt.split z y).length ≤ z.length + 1 := by
  have h := split_spl z y hy (kind_ok hk)
  have e : ((Txt.split z y).map tl).length = (Txt.split z y).length := List.length_map ..
  have n : ∀ (S l : List Nat) (k : Nat) (acc : List Nat), (spl S k acc l).length ≤ l.length + 1 := by
    intro S l
    induction l with
    | nil => intro k acc; rw [spl_nil]; simp
    | cons c r ih =>
      intro k acc
      cases k with
      | zero =>
        cases hp : pre S (c :: r) with
        | true => rw [spl_hit hp]; have := ih (S.length - 1) []; simp; omega
        | false => rw [spl_miss hp]; have := ih 0 (acc ++ [c]); simp; omega
      | succ k =>
        have := ih k acc
        rw [spl_pass] at this ⊢
        simp only [List.drop_succ_cons, List.length_cons] at this ⊢
        omega
  rw [← e, h, len_tl]
  exact n _ _ _ _
/-! the reader's steps, by what they leave -/
section
variable {K : PySem.W.Frag} {H0 H H' : Hp} {t h x y D hn u1 u2 : Addr} {s : RSt} {i : Nat} {ps : List (Addr × Addr)} {fs : List Fr} {a f hr : List PyData} {c : List Str} {vs : List V}
theorem RelR.trk (R : RelR K H0 H t h s i ps) : ∀ z ∈ t :: h :: adrs ps, Tr H z := fun z hz => by
  rcases List.mem_cons.mp hz with rfl | hz
  · exact ⟨_, R.tl⟩
  rcases List.mem_cons.mp hz with rfl | hz
  · obtain ⟨vs, e, _⟩ := R.here; exact ⟨_, e⟩
  · exact R.fr.tr z hz
theorem RelR.off (R : RelR K H0 H t h s i ps) (n : H D = none) : D ∉ t :: h :: adrs ps := fun m => (R.trk D m).ne n rfl
theorem TupK.same (k : Kp [] H H') : TupK H H' := .of k fun x hx => absurd hx List.not_mem_nil
theorem RelR.same (R : RelR K H0 H t h s i ps) (k : Kp [] H H') : RelR K H0 H' t h s i ps := by
  obtain ⟨vs, e, d⟩ := R.here
  exact ⟨R.fr.kp k (.same k) fun _ _ => trivial, k.get trivial R.tl, R.nd, R.p0, ⟨vs, k.get trivial e, Dp.tupsAll (.same k) _ _ R.fl d⟩, R.fl, R.t0, R.h0, R.kp.tr k, R.n1, R.n2, R.n3⟩
theorem RelR.push (R : RelR K H0 H t h s i ps) (k : Kp [t] H H') (tk : TupK H H') (e1 : H' t = some (.lst ((ps.map fun p => V.ref p.1).reverse ++ [.ref D]))) (e2 : H' D = some (.lst [.ref h, .non, .non])) (nD : H D = none) (nh : H hn = none) (e3 : H' hn = some (.lst [])) (ne : D ≠ hn) :
    RelR K H0 H' t hn (⟨s.2, none⟩ :: s.1, []) (i + 1) ((D, h) :: ps) := by
  have oD := R.off nD
  have oh := R.off nh
  have nd := R.nd
  simp only [List.nodup_cons, List.mem_cons, not_or] at nd oD oh
  obtain ⟨⟨a1, a2⟩, a3, a4⟩ := nd
  obtain ⟨vs, e, d⟩ := R.here
  refine ⟨.cons ⟨⟨vs, k.get (nin1 fun z => a1 z.symm) e, Dp.tupsAll tk _ _ R.fl d⟩, R.fl, .inl ⟨rfl, e2⟩⟩ (R.fr.kp k tk fun z hz => nin1 fun q => a2 (q ▸ hz)), by rw [rev_refs, e1], ?_, ?_, ⟨[], e3, .nil⟩, rfl, R.t0, R.kp.free trivial nh, R.kp.step k fun z hz => .inr (by rw [List.mem_singleton.mp hz]; exact R.t0), ?_, Nat.zero_le _, ?_⟩
  · rw [adrs_cons]
    simp only [List.nodup_cons, List.mem_cons, not_or]
    exact ⟨⟨fun z => oh.1 z.symm, fun z => oD.1 z.symm, a1, a2⟩, ⟨fun z => ne z.symm, oh.2.1, oh.2.2⟩, ⟨oD.2.1, oD.2.2⟩, a3, a4⟩
  · intro p hp
    rcases List.mem_cons.mp hp with rfl | hp
    · exact R.kp.free trivial nD
    · exact R.p0 p hp
  · have := R.n1
    simp only [List.length_cons]
    omega
  · intro g hg
    rcases List.mem_cons.mp hg with rfl | hg
    · exact Nat.le_succ_of_le R.n2
    · exact Nat.le_succ_of_le (R.n3 g hg)
theorem RelR.mid (R : RelR K H0 H t h (⟨a, none⟩ :: fs, hr) i ((x, y) :: ps)) (k : Kp [x] H H') (tk : TupK H H') (e1 : H' x = some (.lst [.ref y, .ref u1, .ref u2])) (d1 : Dp K H' (.ref u1) (.tuple hr)) (d2 : Dp K H' (.ref u2) (.tuple (c.map .str))) (nh : H hn = none) (e3 : H' hn = some (.lst [])) :
    RelR K H0 H' t hn (⟨a, some (hr, c)⟩ :: fs, []) (i + 1) ((x, y) :: ps) := by
  have oh := R.off nh
  have nd := R.nd
  rw [adrs_cons] at nd oh
  simp only [List.nodup_cons, List.mem_cons, not_or] at nd oh
  obtain ⟨⟨a1, a2, a3, a4⟩, ⟨b1, b2, b3⟩, ⟨c1, c2⟩, g1, g2⟩ := nd
  have fr := R.fr
  cases fr with
  | cons F0 Fr =>
    obtain ⟨vs, e, d⟩ := F0.ah
    refine ⟨.cons ⟨⟨vs, k.get (nin1 fun z => c1 z.symm) e, Dp.tupsAll tk _ _ F0.fl d⟩, F0.fl, .inr ⟨hr, c, u1, u2, rfl, e1, d1, d2, R.fl⟩⟩ (Fr.kp k tk fun z hz => nin1 fun q => c2 (q ▸ hz)), k.get (nin1 a2) R.tl, ?_, R.p0, ⟨[], e3, .nil⟩, rfl, R.t0, R.kp.free trivial nh, R.kp.step k fun z hz => .inr (by rw [List.mem_singleton.mp hz]; exact R.p0 _ List.mem_cons_self), Nat.le_succ_of_le R.n1, Nat.zero_le _, ?_⟩
    · rw [adrs_cons]
      simp only [List.nodup_cons, List.mem_cons, not_or]
      exact ⟨⟨fun z => oh.1 z.symm, a2, a3, a4⟩, ⟨oh.2.2.1, oh.2.2.2.1, oh.2.2.2.2⟩, ⟨c1, c2⟩, g1, g2⟩
    · intro g hg
      rcases List.mem_cons.mp hg with rfl | hg
      · exact Nat.le_succ_of_le (R.n3 ⟨a, none⟩ List.mem_cons_self)
      · exact Nat.le_succ_of_le (R.n3 g (List.mem_cons_of_mem _ hg))
theorem RelR.pop {g : Fr} {x' : PyData} (R : RelR K H0 H t h (g :: fs, hr) i ((x, y) :: ps)) (k : Kp [t] H H') (tk : TupK H H') (e1 : H' t = some (.lst (ps.map fun p => V.ref p.1).reverse)) (nh : H hn = none) (e3 : H' hn = some (.lst vs)) (d : DpAll K H' vs (g.ahead ++ [x'])) (fl : flatD x' = true) :
    RelR K H0 H' t hn (fs, g.ahead ++ [x']) (i + 1) ps := by
  have oh := R.off nh
  have nd := R.nd
  rw [adrs_cons] at nd oh
  simp only [List.nodup_cons, List.mem_cons, not_or] at nd oh
  obtain ⟨⟨a1, a2, a3, a4⟩, ⟨b1, b2, b3⟩, ⟨c1, c2⟩, g1, g2⟩ := nd
  have fr := R.fr
  cases fr with
  | cons F0 Fr =>
    refine ⟨Fr.kp k tk fun z hz => nin1 fun q => a4 (q ▸ hz), e1, ?_, fun p hp => R.p0 p (List.mem_cons_of_mem _ hp), ⟨vs, e3, d⟩, flat_snoc F0.fl fl, R.t0, R.kp.free trivial nh, R.kp.step k fun z hz => .inr (by rw [List.mem_singleton.mp hz]; exact R.t0), ?_, ?_, fun g hg => Nat.le_succ_of_le (R.n3 g (List.mem_cons_of_mem _ hg))⟩
    · simp only [List.nodup_cons, List.mem_cons, not_or]
      exact ⟨⟨fun z => oh.1 z.symm, a4⟩, oh.2.2.2.2, g2⟩
    · have := R.n1
      simp only [List.length_cons] at this
      show fs.length ≤ i + 1
      omega
    · have := R.n3 g List.mem_cons_self
      rw [List.length_append, List.length_singleton]
      omega
theorem RelR.add {x' : PyData} (R : RelR K H0 H t h (fs, hr) i ps) (k : Kp [h] H H') (tk : TupK H H') (e3 : H' h = some (.lst vs)) (d : DpAll K H' vs (hr ++ [x'])) (fl : flatD x' = true) : RelR K H0 H' t h (fs, hr ++ [x']) (i + 1) ps := by
  have nd := R.nd
  simp only [List.nodup_cons, List.mem_cons, not_or] at nd
  obtain ⟨⟨a1, a2⟩, a3, a4⟩ := nd
  refine ⟨R.fr.kp k tk fun z hz => nin1 fun q => a3 (q ▸ hz), k.get (nin1 a1) R.tl, R.nd, R.p0, ⟨vs, e3, d⟩, flat_snoc R.fl fl, R.t0, R.h0, R.kp.step k fun z hz => .inr (by rw [List.mem_singleton.mp hz]; exact R.h0), Nat.le_succ_of_le R.n1, ?_, fun g hg => Nat.le_succ_of_le (R.n3 g hg)⟩
  have : hr.length ≤ i := R.n2
  rw [List.length_append, List.length_singleton]
  omega
end
theorem stepR_try (s : RSt) : stepR s "try" = some (⟨s.2, none⟩ :: s.1, []) := if_pos rfl
section
variable {z w0 : Str} {wr : List Str} {fs : List Fr} {a f hr : List PyData} {c : List Str} {g : Fr}
theorem stepR_mid (h1 : z ≠ "try") (h2 : Txt.split z " " = w0 :: wr) (h3 : w0 = "caught") : stepR (⟨a, none⟩ :: fs, hr) z = some (⟨a, some (hr, wr)⟩ :: fs, []) := by
  unfold stepR
  rw [if_neg h1, h2, if_pos (show (w0 :: wr).getD 0 "" = "caught" from h3)]
  rfl
theorem stepR_mid0 (h1 : z ≠ "try") (h2 : Txt.split z " " = w0 :: wr) (h3 : w0 = "caught") : stepR ([], hr) z = none := by
  unfold stepR
  rw [if_neg h1, h2, if_pos (show (w0 :: wr).getD 0 "" = "caught" from h3)]
theorem stepR_mid1 (h1 : z ≠ "try") (h2 : Txt.split z " " = w0 :: wr) (h3 : w0 = "caught") {m : List PyData × List Str} (hg : g.mid = some m) : stepR (g :: fs, hr) z = none := by
  obtain ⟨a, _ | m⟩ := g
  · cases hg
  unfold stepR
  rw [if_neg h1, h2, if_pos (show (w0 :: wr).getD 0 "" = "caught" from h3)]
theorem stepR_done (h1 : z ≠ "try") (h2 : Txt.split z " " = w0 :: wr) (h3 : w0 ≠ "caught") (h4 : z = "done") (hg : g.mid = some (f, c)) : stepR (g :: fs, hr) z = some (fs, g.ahead ++ [.tuple [.str "try", .tuple f, .tuple (c.map .str), .tuple hr]]) := by
  obtain ⟨a, _ | m⟩ := g
  · cases hg
  cases hg
  unfold stepR
  rw [if_neg h1, h2, if_neg (show ¬ (w0 :: wr).getD 0 "" = "caught" from h3), if_pos h4]
theorem stepR_done0 (h1 : z ≠ "try") (h2 : Txt.split z " " = w0 :: wr) (h3 : w0 ≠ "caught") (h4 : z = "done") : stepR ([], hr) z = none := by
  unfold stepR
  rw [if_neg h1, h2, if_neg (show ¬ (w0 :: wr).getD 0 "" = "caught" from h3), if_pos h4]
theorem stepR_done1 (h1 : z ≠ "try") (h2 : Txt.split z " " = w0 :: wr) (h3 : w0 ≠ "caught") (h4 : z = "done") (hg : g.mid = none) : stepR (g :: fs, hr) z = none := by
  obtain ⟨a, _ | m⟩ := g
  · unfold stepR
    rw [if_neg h1, h2, if_neg (show ¬ (w0 :: wr).getD 0 "" = "caught" from h3), if_pos h4]
  · cases hg
theorem stepR_row (h1 : z ≠ "try") (h2 : Txt.split z " " = w0 :: wr) (h3 : w0 ≠ "caught") (h4 : z ≠ "done") (s : RSt) : stepR s z = some (s.1, s.2 ++ [rowInX (w0 :: wr)]) := by
  unfold stepR
  rw [if_neg h1, h2, if_neg (show ¬ (w0 :: wr).getD 0 "" = "caught" from h3), if_neg h4]
end
end HL

namespace K13
open PySem PySem.Spec PyProof.Rows L2 HL TL
local macro_rules | `(tactic| walk_at "N") => `(tactic| first
  | with_reducible assumption
  | (apply Ne.symm; with_reducible assumption)
  | (refine' ne_of_none (H := ?H0) ?h1 ?h2; (case h2 => with_reducible assumption); (case h1 => walk_at "L"))
  | (apply Ne.symm; refine' ne_of_none (H := ?H0) ?h1 ?h2; (case h2 => with_reducible assumption); (case h1 => walk_at "L"))
  | fail "no")
local macro_rules | `(tactic| walk_at "M") => `(tactic| first
  | exact trivial
  | exact True.intro
  | (refine ⟨?_, ?_⟩; (walk_at "N"); (walk_at "M"))
  | fail "no")
local macro_rules | `(tactic| walk_at "L") => `(tactic| first
  | with_reducible assumption
  | with_reducible exact upd_same
  | ((with_reducible refine' (upd_ne ?n1).trans ?l1); (case n1 => walk_at "N"); (case l1 => walk_at "L"))
  | ((with_reducible refine' Kp.get ?k1 ?m1 ?l1); (case k1 => with_reducible assumption); (case l1 => walk_at "L"); (case m1 => walk_at "M"))
  | fail "no")
local macro_rules | `(tactic| walk_at "Q") => `(tactic| first
  | with_reducible assumption
  | ((with_reducible refine' sq_l ?e1); (case e1 => walk_at "L"))
  | ((with_reducible refine' sq_t ?e1); (case e1 => walk_at "L"))
  | ((with_reducible refine' Kp.seqL ?k1 ?m1 ?l1); (case k1 => with_reducible assumption); (case l1 => walk_at "Q"); (case m1 => walk_at "M"))
  | fail "no")
local macro_rules | `(tactic| walk_at "K") => `(tactic| first
  | with_reducible assumption
  | with_reducible exact Kp.refl
  | ((with_reducible refine' Kp.upd_mem ?k1 ?m1); (case m1 => simp only [List.mem_cons, true_or, or_true]); (case k1 => walk_at "K"))
  | ((with_reducible refine' Kp.upd_new ?k1 ?m1); (case m1 => with_reducible assumption); (case k1 => walk_at "K"))
  | ((with_reducible refine' Kp.upd_loc ?k1 ?m1); (case m1 => with_reducible assumption); (case k1 => walk_at "K"))
  | ((with_reducible refine' Kp.step ?k1 ?k2 ?m1); (case k2 => with_reducible assumption); (case m1 => (intro z hz; first | exact (List.not_mem_nil hz).elim | exact .inl hz | (simp only [List.mem_cons, List.not_mem_nil, or_false] at hz ⊢; first | (left; assumption) | (subst hz; first | (left; rfl) | (right; assumption))))); (case k1 => walk_at "K"))
  | fail "no")
local macro_rules | `(tactic| walk_at "C") => `(tactic| first | decide | assumption | omega | (show (0 : Int) < _; omega) | exact ⟨by decide, by decide⟩ | exact ⟨by omega, by omega⟩ | (left; exact ⟨by omega, by omega⟩) | (right; exact ⟨by omega, by omega⟩) | fail "no")
local macro_rules | `(tactic| walk_at "S1") => `(tactic| first
  | ((with_reducible refine' s_var ?h1 ?_); (case h1 => exact rfl))
  | with_reducible refine' s_c ?_
  | with_reducible refine' s_op ?_
  | with_reducible refine' s_un ?_
  | with_reducible refine' s_nil ?_
  | with_reducible refine' s_cons ?_
  | with_reducible refine' s_cb ?_
  | with_reducible refine' s_call ?_
  | with_reducible refine' s_test ?_
  | with_reducible refine' s_B ?_
  | with_reducible refine' s_and ?_
  | with_reducible refine' s_or ?_
  | with_reducible refine' s_not ?_
  | with_reducible refine' s_andV ?_
  | with_reducible refine' s_orV ?_
  | with_reducible refine' s_notV ?_
  | with_reducible refine' s_ifE ?_
  | with_reducible refine' s_chain ?_
  | with_reducible refine' s_tup ?_
  | with_reducible refine' s_lst ?_
  | with_reducible refine' s_sl ?_
  | with_reducible refine' s_noPart ?_
  | with_reducible refine' s_part ?_
  | with_reducible refine' s_fld ?_
  | with_reducible refine' s_bm ?_
  | with_reducible refine' s_bm0 ?_
  | with_reducible refine' s_m1 ?_
  | with_reducible refine' s_m0 ?_
  | with_reducible refine' s_seq ?_
  | with_reducible refine' s_next ?_
  | with_reducible refine' s_asg ?_
  | with_reducible refine' s_gname ?_
  | with_reducible refine' s_drop ?_
  | with_reducible refine' s_ret ?_
  | with_reducible refine' s_retN ?_
  | with_reducible refine' s_ifS ?_
  | with_reducible refine' s_gsub ?_
  | with_reducible refine' s_par ?_
  | with_reducible refine' s_bl ?_
  | with_reducible refine' s_iStr ?_
  | with_reducible refine' s_iList ?_
  | with_reducible refine' s_iTup ?_
  | with_reducible refine' s_iRng1 ?_
  | with_reducible refine' s_str ?_
  | with_reducible refine' s_ref ?_
  | with_reducible refine' s_yes ?_
  | with_reducible refine' s_for ?_
  | with_reducible refine' s_lc ?_
  | with_reducible refine' i_T ?_
  | with_reducible refine' i_F ?_
  | with_reducible refine' i_nT ?_
  | with_reducible refine' i_nF ?_
  | with_reducible refine' s_int ?_
  | with_reducible refine' s_ints2 ?_
  | with_reducible refine' s_ints1 ?_
  | with_reducible refine' s_strs1 ?_
  | with_reducible refine' s_vals2 ?_
  | with_reducible refine' s_vals3 ?_
  | ((with_reducible refine' s_gtup ?h1 ?l1 ?_); (case h1 => walk_at "Q"); (case l1 => exact rfl))
  | with_reducible refine' s_gcons ?_
  | with_reducible refine' s_gnil ?_
  | with_reducible refine' s_par3 ?_
  | with_reducible refine' s_ex ?_
  | with_reducible refine' s_I0 ?_
  | ((with_reducible refine' s_I ?c1 ?_); (case c1 => walk_at "C"))
  | ((with_reducible refine' s_eq ?h1 ?_); (case h1 => exact rfl))
  | ((with_reducible refine' s_ne ?h1 ?_); (case h1 => exact rfl))
  | ((with_reducible refine' s_ixL ?h1 ?a1 ?_); (case h1 => walk_at "Q"); (case a1 => exact rfl))
  | ((with_reducible refine' s_ixT ?h1 ?a1 ?_); (case h1 => walk_at "Q"); (case a1 => exact rfl))
  | ((with_reducible refine' s_setL ?h1 ?a1 ?_); (case h1 => walk_at "L"); (case a1 => exact rfl))
  | ((with_reducible refine' s_lenL ?h1 ?_); (case h1 => walk_at "Q"))
  | ((with_reducible refine' s_lenT ?h1 ?_); (case h1 => walk_at "Q"))
  | ((with_reducible refine' s_lenStr ?h1 ?_); (case h1 => assumption))
  | ((with_reducible refine' s_slL ?h1 ?_); (case h1 => walk_at "Q"))
  | ((with_reducible refine' s_slS ?h1 ?_); (case h1 => assumption))
  | with_reducible refine' s_U ?_
  | ((with_reducible refine' s_tyL ?h1 ?_); (case h1 => walk_at "L"))
  | with_reducible refine' s_inSg ?_
  | with_reducible refine' s_nn ?_
  | with_reducible refine' s_meth ?_
  | with_reducible refine' s_make ?_
  | with_reducible refine' s_dnew ?_
  | with_reducible refine' s_dget ?_
  | with_reducible refine' s_din ?_
  | with_reducible refine' s_dnotin ?_
  | with_reducible refine' s_dput ?_
  | with_reducible refine' s_dget1 ?_
  | with_reducible refine' s_sfld ?_
  | with_reducible refine' s_revL ?_
  | with_reducible refine' s_iZip3 ?_
  | with_reducible refine' s_iRng2 ?_
  | dsimp only
  | fail "no")
local macro_rules | `(tactic| walk_at "S") => `(tactic| repeat walk_at "S1")

def topS (i : Nat) : Stmt := PySem.Challenge.pw_halfmade_k13_whole_bodies_written.main.body.getD i (.Pass ⟨0, 0, 0, 0⟩)
abbrev s_is_name : Stmt := topS 8
abbrev N_is_name : List Str := ["thing", "sign"]
theorem sc_is_name : FnScope ["thing", "sign"] ["thing"] (defScope s_is_name) := ⟨rfl, rfl, rfl, by decide +kernel, rfl, by decide +kernel, by decide +kernel⟩
abbrev s_is_path : Stmt := topS 9
abbrev N_is_path : List Str := ["thing", "names", "name"]
theorem sc_is_path : FnScope ["thing", "names", "name"] ["thing"] (defScope s_is_path) := ⟨rfl, rfl, rfl, by decide +kernel, rfl, by decide +kernel, by decide +kernel⟩
abbrev s_is_whole : Stmt := topS 15
abbrev N_is_whole : List Str := ["thing"]
theorem sc_is_whole : FnScope ["thing"] ["thing"] (defScope s_is_whole) := ⟨rfl, rfl, rfl, by decide +kernel, rfl, by decide +kernel, by decide +kernel⟩
abbrev s_is_word : Stmt := topS 16
abbrev N_is_word : List Str := ["thing"]
theorem sc_is_word : FnScope ["thing"] ["thing"] (defScope s_is_word) := ⟨rfl, rfl, rfl, by decide +kernel, rfl, by decide +kernel, by decide +kernel⟩
abbrev s_are_words : Stmt := topS 17
abbrev N_are_words : List Str := ["thing", "word"]
theorem sc_are_words : FnScope ["thing", "word"] ["thing"] (defScope s_are_words) := ⟨rfl, rfl, rfl, by decide +kernel, rfl, by decide +kernel, by decide +kernel⟩
abbrev s_is_bare : Stmt := topS 18
abbrev N_is_bare : List Str := ["row", "word"]
theorem sc_is_bare : FnScope ["row", "word"] ["row"] (defScope s_is_bare) := ⟨rfl, rfl, rfl, by decide +kernel, rfl, by decide +kernel, by decide +kernel⟩
abbrev s_is_row_within : Stmt := topS 19
abbrev N_is_row_within : List Str := ["thing", "tries"]
theorem sc_is_row_within : FnScope ["thing", "tries"] ["thing", "tries"] (defScope s_is_row_within) := ⟨rfl, rfl, rfl, by decide +kernel, rfl, by decide +kernel, by decide +kernel⟩
abbrev s_are_rows : Stmt := topS 20
abbrev N_are_rows : List Str := ["thing", "tries", "row"]
theorem sc_are_rows : FnScope ["thing", "tries", "row"] ["thing", "tries"] (defScope s_are_rows) := ⟨rfl, rfl, rfl, by decide +kernel, rfl, by decide +kernel, by decide +kernel⟩
abbrev s_counted : Stmt := topS 21
abbrev N_counted : List Str := ["body", "found", "row"]
theorem sc_counted : FnScope ["body", "found", "row"] ["body"] (defScope s_counted) := ⟨rfl, rfl, rfl, by decide +kernel, rfl, by decide +kernel, by decide +kernel⟩
abbrev s_is_body : Stmt := topS 22
abbrev N_is_body : List Str := ["thing"]
theorem sc_is_body : FnScope ["thing"] ["thing"] (defScope s_is_body) := ⟨rfl, rfl, rfl, by decide +kernel, rfl, by decide +kernel, by decide +kernel⟩
abbrev s_lines_of : Stmt := topS 25
abbrev N_lines_of : List Str := ["rows", "found", "row", "part"]
theorem sc_lines_of : FnScope ["rows", "found", "row", "part"] ["rows"] (defScope s_lines_of) := ⟨rfl, rfl, rfl, by decide +kernel, rfl, by decide +kernel, by decide +kernel⟩
abbrev s_body_text : Stmt := topS 26
abbrev N_body_text : List Str := ["body", "line"]
theorem sc_body_text : FnScope ["body", "line"] ["body"] (defScope s_body_text) := ⟨rfl, rfl, rfl, by decide +kernel, rfl, by decide +kernel, by decide +kernel⟩
abbrev s_number_in : Stmt := topS 27
abbrev N_number_in : List Str := ["word", "figures", "number", "sign"]
theorem sc_number_in : FnScope ["word", "figures", "number", "sign"] ["word"] (defScope s_number_in) := ⟨rfl, rfl, rfl, by decide +kernel, rfl, by decide +kernel, by decide +kernel⟩
abbrev s_row_in : Stmt := topS 28
abbrev N_row_in : List Str := ["words"]
theorem sc_row_in : FnScope ["words"] ["words"] (defScope s_row_in) := ⟨rfl, rfl, rfl, by decide +kernel, rfl, by decide +kernel, by decide +kernel⟩
abbrev s_rows_in : Stmt := topS 29
abbrev N_rows_in : List Str := ["lines", "tries", "here", "line", "words", "ahead", "first", "caught"]
theorem sc_rows_in : FnScope ["lines", "tries", "here", "line", "words", "ahead", "first", "caught"] ["lines"] (defScope s_rows_in) := ⟨rfl, rfl, rfl, by decide +kernel, rfl, by decide +kernel, by decide +kernel⟩
abbrev s_read_body : Stmt := topS 30
abbrev N_read_body : List Str := ["text", "body"]
theorem sc_read_body : FnScope ["text", "body"] ["text"] (defScope s_read_body) := ⟨rfl, rfl, rfl, by decide +kernel, rfl, by decide +kernel, by decide +kernel⟩
abbrev s_l_at : Stmt := topS 32
abbrev N_l_at : List Str := ["_law_script", "_law_k"]
theorem sc_l_at : FnScope ["_law_script", "_law_k"] ["_law_script", "_law_k"] (defScope s_l_at) := ⟨rfl, rfl, rfl, by decide +kernel, rfl, by decide +kernel, by decide +kernel⟩
abbrev s_l_pot : Stmt := topS 33
abbrev N_l_pot : List Str := ["_law_script", "_law_k", "_law_cell"]
theorem sc_l_pot : FnScope ["_law_script", "_law_k", "_law_cell"] ["_law_script", "_law_k"] (defScope s_l_pot) := ⟨rfl, rfl, rfl, by decide +kernel, rfl, by decide +kernel, by decide +kernel⟩
abbrev s_l_draw : Stmt := topS 34
abbrev N_l_draw : List Str := ["_law_pot_here", "_law_many", "_law_digit"]
theorem sc_l_draw : FnScope ["_law_pot_here", "_law_many", "_law_digit"] ["_law_pot_here", "_law_many"] (defScope s_l_draw) := ⟨rfl, rfl, rfl, by decide +kernel, rfl, by decide +kernel, by decide +kernel⟩
abbrev s_l_name : Stmt := topS 35
abbrev N_l_name : List Str := ["_law_pot_here", "_law_k"]
theorem sc_l_name : FnScope ["_law_pot_here", "_law_k"] ["_law_pot_here"] (defScope s_l_name) := ⟨rfl, rfl, rfl, by decide +kernel, rfl, by decide +kernel, by decide +kernel⟩
abbrev s_l_path : Stmt := topS 36
abbrev N_l_path : List Str := ["_law_pot_here", "_law_k"]
theorem sc_l_path : FnScope ["_law_pot_here", "_law_k"] ["_law_pot_here"] (defScope s_l_path) := ⟨rfl, rfl, rfl, by decide +kernel, rfl, by decide +kernel, by decide +kernel⟩
abbrev s_l_number : Stmt := topS 37
abbrev N_l_number : List Str := ["_law_pot_here"]
theorem sc_l_number : FnScope ["_law_pot_here"] ["_law_pot_here"] (defScope s_l_number) := ⟨rfl, rfl, rfl, by decide +kernel, rfl, by decide +kernel, by decide +kernel⟩
abbrev s_l_fault_words : Stmt := topS 38
abbrev N_l_fault_words : List Str := ["_law_pot_here", "_law_found", "_law_k", "_law_word"]
theorem sc_l_fault_words : FnScope ["_law_pot_here", "_law_found", "_law_k", "_law_word"] ["_law_pot_here"] (defScope s_l_fault_words) := ⟨rfl, rfl, rfl, by decide +kernel, rfl, by decide +kernel, by decide +kernel⟩
abbrev s_l_row : Stmt := topS 39
abbrev N_l_row : List Str := ["_law_pot_here", "_law_room", "_law_deep", "_law_way", "_law_first", "_law_words"]
theorem sc_l_row : FnScope ["_law_pot_here", "_law_room", "_law_deep", "_law_way", "_law_first", "_law_words"] ["_law_pot_here", "_law_room", "_law_deep"] (defScope s_l_row) := ⟨rfl, rfl, rfl, by decide +kernel, rfl, by decide +kernel, by decide +kernel⟩
abbrev s_l_rows : Stmt := topS 40
abbrev N_l_rows : List Str := ["_law_pot_here", "_law_room", "_law_deep", "_law_most", "_law_found", "_law_k"]
theorem sc_l_rows : FnScope ["_law_pot_here", "_law_room", "_law_deep", "_law_most", "_law_found", "_law_k"] ["_law_pot_here", "_law_room", "_law_deep"] (defScope s_l_rows) := ⟨rfl, rfl, rfl, by decide +kernel, rfl, by decide +kernel, by decide +kernel⟩
abbrev s_l_lines : Stmt := topS 41
abbrev N_l_lines : List Str := ["_law_rows_here", "_law_found", "_law_row_here", "_law_caught", "_law_word", "_law_first", "_law_part"]
theorem sc_l_lines : FnScope ["_law_rows_here", "_law_found", "_law_row_here", "_law_caught", "_law_word", "_law_first", "_law_part"] ["_law_rows_here"] (defScope s_l_lines) := ⟨rfl, rfl, rfl, by decide +kernel, rfl, by decide +kernel, by decide +kernel⟩
abbrev s_l_right : Stmt := topS 42
abbrev N_l_right : List Str := ["_law_body", "_law_kept", "_law_due", "_law_said", "_law_line"]
theorem sc_l_right : FnScope ["_law_body", "_law_kept", "_law_due", "_law_said", "_law_line"] ["_law_body"] (defScope s_l_right) := ⟨rfl, rfl, rfl, by decide +kernel, rfl, by decide +kernel, by decide +kernel⟩
abbrev s_law : Stmt := topS 43
abbrev N_law : List Str := ["_law_script", "_law_bodies", "_law_k", "_law_body"]
theorem sc_law : FnScope ["_law_script", "_law_bodies", "_law_k", "_law_body"] ["_law_script"] (defScope s_law) := ⟨rfl, rfl, rfl, by decide +kernel, rfl, by decide +kernel, by decide +kernel⟩
structure Txt (K : PySem.W.Frag) (mg : Str → Option Value) : Prop where
  n_len : mg "len" = none
  n_isinstance : mg "isinstance" = none
  n_str : mg "str" = none
  n_all : mg "all" = none
  n_bool : mg "bool" = none
  n_int : mg "int" = none
  n_tuple : mg "tuple" = none
  n_set : mg "set" = none
  n_list : mg "list" = none
  n_max : mg "max" = none
  n_divmod : mg "divmod" = none
  n_range : mg "range" = none
  n_repr : mg "repr" = none
  n_min : mg "min" = none
  c_MOST_LETTERS : ∃ t, mg "MOST_LETTERS" = some (.int 8 t)
  c_LETTERS : ∃ t, mg "LETTERS" = some (.str "abcdefghijklmnopqrstuvwxyz" t)
  c_DOT : ∃ t, mg "DOT" = some (.str "." t)
  c_MOST_NAMES : ∃ t, mg "MOST_NAMES" = some (.int 4 t)
  c_FAULT_WORDS : ∃ a, mg "FAULT_WORDS" = some (.ref a) ∧ ∀ H, SqT K H a [.str "NOMODULE", .str "NONAME", .str "HALF", .str "FLAT", .str "NOTASK", .str "ALL"]
  c_LEADING : ∃ a, mg "LEADING" = some (.ref a) ∧ ∀ H, SqT K H a [.str "now", .str "take", .str "late", .str "ask"]
  c_MOST_ROWS : ∃ t, mg "MOST_ROWS" = some (.int 40 t)
  c_MOST_TRIES : ∃ t, mg "MOST_TRIES" = some (.int 3 t)
  c_FIGURES : ∃ t, mg "FIGURES" = some (.str "0123456789" t)
theorem small_le {n : Nat} (h : n ≤ 100010) : n ≤ sizeLine := Nat.le_trans h (by decide)
theorem small_lt {n : Nat} (h : n ≤ 100010) : n < sizeLine := Nat.lt_of_le_of_lt h (by decide)
/-! the pot -/
abbrev Pot := Int × Int
def PotOk (H : Hp) (p : Addr) : Prop := ∃ s : Pot, H p = some (.lst [.int s.1, .int s.2])
theorem PotOk.upd {H : Hp} {p D : Addr} {o : HO} (h : PotOk H p) (n : p ≠ D) : PotOk (upd H D o) p := by
  obtain ⟨s, e⟩ := h
  exact ⟨s, (upd_ne n).trans e⟩
theorem PotOk.ne {H : Hp} {p D : Addr} (h : PotOk H p) (n : H D = none) : p ≠ D := by
  obtain ⟨s, e⟩ := h
  exact ne_of_none e n
theorem PotOk.kp {H H' : Hp} {p : Addr} {W : List Addr} (h : PotOk H p) (k : Kp W H H') (n : Nin p W) : PotOk H' p := by
  obtain ⟨s, e⟩ := h
  exact ⟨s, k.get n e⟩
theorem PotOk.noTup {H : Hp} {p : Addr} (h : PotOk H p) : NoTup H p := by
  obtain ⟨s, e⟩ := h
  exact .lst e
def spAt (K : PySem.W.Frag) : Sp := fun vs H Q _ => ∃ (a : Addr) (ns : List Int) (k : Nat), vs = [.ref a, .int k] ∧ SqL K H a (ns.map V.int) ∧ Q (.int (ns.getD k 0)) H
def spPot (K : PySem.W.Frag) : Sp := fun vs H Q _ => ∃ (a : Addr) (ns : List Int) (k : Nat), vs = [.ref a, .int k] ∧ SqL K H a (ns.map V.int) ∧ k ≤ 1000 ∧
  ∀ H' p, Kp [] H H' → H p = none → PotOk H' p → Q (.ref p) H'
/-- a draw: some number below m -/
def spDraw : Sp := fun vs H Q _ => ∃ (p : Addr) (m : Int), vs = [.ref p, .int m] ∧ PotOk H p ∧ 0 < m ∧ m ≤ 2000000000000000000000000000000000000000000000000000000000000 ∧
  ∀ H' v, Kp [p] H H' → PotOk H' p → 0 ≤ v → v < m → Q (.int v) H'
section
variable {P : Program} {w : World} {K : PySem.W.Frag} {mg : Str → Option Value} {base : Heap}
theorem ok_at {f : Addr} {fd : FuncData} (F : Fun K "_law_at" "_law_at" s_l_at f fd) (T : Txt K mg) : FnOk P w K mg base CX0 1 f fd ["_law_script", "_law_k"] (spAt K) := by
  refine F.ok sc_l_at (fun vs H Q E h => ?_) (fun cdv A outer s H vs Q E hr h => ?_)
  · obtain ⟨a, ns, j, rfl, _⟩ := h
    rfl
  · obtain ⟨a, ns, j, rfl, hs, q⟩ := h
    refine ⟨_, (pss_one (ps_ret (pe_ifExp (pt_cmpR op_lt (pv 1) (pe_callB (lenK (K := K) rfl) (by rfl) T.n_len (by decide +kernel) (pa_cons (pv 0) pa_nil)) (nomark _)) (pe_ix (ixLK (K := K) rfl) (pv 0) (pv 1) (fun _ _ => rfl)) pe_int))), ?_⟩
    refine st_start (σ' := [some (.ref a), some (.int j)]) rfl ?_
    walk_at "S"
    rw [List.length_map]
    refine s_dec (fun h1 => ?_) (fun h1 => ?_)
    · walk_at "S"
      have hj : j < ns.length := by omega
      have e : (ns.map V.int)[j]? = some (.int (ns.getD j 0)) := by
        rw [List.getElem?_map, List.getD_eq_getElem?_getD, List.getElem?_eq_getElem hj]
        rfl
      exact s_ixL hs (atI_nat e) q
    · walk_at "S"
      have e : ns.getD j 0 = 0 := by
        rw [List.getD_eq_getElem?_getD, List.getElem?_eq_none (Nat.le_of_not_lt fun z => h1 (by omega))]
        rfl
      rw [e] at q
      exact q
theorem ok_pot {f : Addr} {fd : FuncData} (F : Fun K "_law_pot" "_law_pot" s_l_pot f fd) (T : Txt K mg)
    (D_l_at : DnF P w K mg base 1 "_law_at" ["_law_script", "_law_k"] (spAt K)) : FnOk P w K mg base CX0 2 f fd ["_law_script", "_law_k"] (spPot K) := by
  refine F.ok sc_l_pot (fun vs H Q E h => ?_) (fun cdv A outer s H vs Q E hr h => ?_)
  · obtain ⟨a, ns, j, rfl, _⟩ := h
    rfl
  · obtain ⟨f_l_at, fd_l_at, G_l_at, m_l_at, k_l_at, b_l_at⟩ := D_l_at
    obtain ⟨a, ns, j, rfl, hs, hj, q⟩ := h
    refine ⟨_, (pss_cons (ps_set (i := 2) sc_l_pot.nd rfl (Or.inl rfl) (pe_call G_l_at (hr.mono (by first | decide | omega)) (by rfl) m_l_at k_l_at b_l_at .nil pass0 (pa_cons (pv 0) (pa_cons (pv 1) pa_nil))))
      (pss_one (ps_ret (pe_lst (pa_cons (pe_callB (call_max2 rfl) (by rfl) T.n_max (by decide +kernel) (pa_cons pe_int (pa_cons (pe_op op_sub (pv 2) (pe_op op_pow pe_int pe_int)) pa_nil))) (pa_cons (pe_op op_add (pe_op op_mod (pe_op op_pow (pe_op op_add (pe_op op_mod (pv 2) pe_int) (pe_op op_mul pe_int (pe_op op_add (pv 1) pe_int))) pe_int) pe_int) pe_int) pa_nil)))))), ?_⟩
    refine st_start (σ' := [some (.ref a), some (.int j), none]) rfl ?_
    walk_at "S"
    refine ⟨a, ns, j, rfl, hs, ?_⟩
    walk_at "S"
    exact ⟨small_le (by simp), fun p hp => q _ _ (Kp.refl.upd_new hp) hp ⟨(_, _), upd_same⟩⟩
theorem ok_draw {f : Addr} {fd : FuncData} (F : Fun K "_law_draw" "_law_draw" s_l_draw f fd) (T : Txt K mg) : FnOk P w K mg base CX0 1 f fd ["_law_pot_here", "_law_many"] spDraw := by
  refine F.ok sc_l_draw (fun vs H Q E h => ?_) (fun cdv A outer s H vs Q E hr h => ?_)
  · obtain ⟨p, m, rfl, _⟩ := h
    rfl
  · obtain ⟨p, m, rfl, ⟨⟨a, b⟩, hp⟩, m0, m1, k⟩ := h
    dsimp only at hp
    refine ⟨_, (pss_cons (ps_if (pt_cmpR op_gt (pe_ix (ixLK (K := K) rfl) (pv 0) pe_int (fun _ _ => rfl)) pe_int (nomark _)) (pss_cons (ps_asg (pe_callB divmodPR (by rfl) T.n_divmod (by decide +kernel) (pa_cons (pe_ix (ixLK (K := K) rfl) (pv 0) pe_int (fun _ _ => rfl)) (pa_cons (pv 1) pa_nil))) (kgT (K := K) rfl (pg_tup rfl (pgs_cons (pg_sub (pv 0) pe_int set_list) (pgs_cons (pg_name (i := 2) sc_l_draw.nd rfl (Or.inl rfl)) pgs_nil)))))
      (pss_one (ps_ret (pv 2)))) pss_nil)
      (pss_cons (ps_asg (pe_op op_mod (pe_op op_add (pe_op op_mul (pe_ix (ixLK (K := K) rfl) (pv 0) pe_int (fun _ _ => rfl)) pe_int) pe_int) pe_int) (pg_sub (pv 0) pe_int set_list))
      (pss_one (ps_ret (pe_op op_mod (pe_op op_fdiv (pe_op op_mod (pe_op op_mul (pe_ix (ixLK (K := K) rfl) (pv 0) pe_int (fun _ _ => rfl)) (pe_ix (ixLK (K := K) rfl) (pv 0) pe_int (fun _ _ => rfl))) pe_int) pe_int) (pv 1)))))), ?_⟩
    refine st_start (σ' := [some (.ref p), some (.int m), none]) rfl ?_
    walk_at "S"
    refine s_dec (fun h => ?_) (fun h => ?_)
    · walk_at "S"
      refine s_divP m0 m1 fun t ht => ?_
      walk_at "S"
      exact k _ _ (by walk_at "K") ⟨(_, _), upd_same⟩ (Int.emod_nonneg _ (by omega)) (Int.emod_lt_of_pos _ m0)
    · walk_at "S"
      exact k _ _ (by walk_at "K") ⟨(_, _), upd_same⟩ (Int.emod_nonneg _ (by omega)) (Int.emod_lt_of_pos _ m0)
end

def spName : Sp := fun vs H Q _ => ∃ p : Addr, vs = [.ref p] ∧ PotOk H p ∧
  ∀ H' (l : List Nat), Kp [p] H H' → PotOk H' p → isNameL l = true → Q (.str (mkS l)) H'
def spPath : Sp := fun vs H Q _ => ∃ p : Addr, vs = [.ref p] ∧ PotOk H p ∧
  ∀ H' (l : List Nat), Kp [p] H H' → PotOk H' p → isPathL l = true → Q (.str (mkS l)) H'
def spNumber : Sp := fun vs H Q _ => ∃ p : Addr, vs = [.ref p] ∧ PotOk H p ∧
  ∀ H' (n : Int), Kp [p] H H' → PotOk H' p → n.natAbs < 10 ^ 60 → Q (.int n) H'
def names8 : List V := [.str "try", .str "done", .str "caught", .str "set", .str "ask", .str "note", .str "fail", .str "begin"]
theorem names8_ok : ∀ y ∈ names8, ∃ l, y = .str (mkS l) ∧ isNameL l = true := by
  intro y hy
  simp only [names8, List.mem_cons, List.not_mem_nil, or_false] at hy
  rcases hy with rfl | rfl | rfl | rfl | rfl | rfl | rfl | rfl <;> exact ⟨_, (congrArg V.str (mkS_tl _)).symm, by decide +kernel⟩
section
variable {P : Program} {w : World} {K : PySem.W.Frag} {mg : Str → Option Value} {base : Heap}
theorem ok_name {f : Addr} {fd : FuncData} (F : Fun K "_law_name" "_law_name" s_l_name f fd) (T : Txt K mg)
    (D_l_draw : DnF P w K mg base 1 "_law_draw" ["_law_pot_here", "_law_many"] spDraw) : FnOk P w K mg base CX0 2 f fd ["_law_pot_here"] spName := by
  refine F.ok sc_l_name (fun vs H Q E h => ?_) (fun cdv A outer s H vs Q E hr h => ?_)
  · obtain ⟨p, rfl, _⟩ := h
    rfl
  · obtain ⟨f_l_draw, fd_l_draw, G_l_draw, m_l_draw, k_l_draw, b_l_draw⟩ := D_l_draw
    obtain ⟨p, rfl, hp, q⟩ := h
    refine ⟨_, (pss_cons (ps_if (pt_cmpR op_eq (pe_call G_l_draw (hr.mono (by first | decide | omega)) (by rfl) m_l_draw k_l_draw b_l_draw .nil pass0 (pa_cons (pv 0) (pa_cons pe_int pa_nil))) pe_int (nomark _)) (pss_one (ps_ret (pe_ix (ixLK (K := K) rfl) (pe_lst (pa_cons pe_str (pa_cons pe_str (pa_cons pe_str (pa_cons pe_str (pa_cons pe_str (pa_cons pe_str (pa_cons pe_str (pa_cons pe_str pa_nil))))))))) (pe_call G_l_draw (hr.mono (by first | decide | omega)) (by rfl) m_l_draw k_l_draw b_l_draw .nil pass0 (pa_cons (pv 0) (pa_cons pe_int pa_nil))) (fun _ _ => rfl)))) pss_nil)
      (pss_one (ps_ret (pe_m1 PySem.F.slot_str_join PySem.F.type_str_join (joinK (K := K) rfl) pe_str (pe_lc (own := [("_law_k", 1)]) (g := gName 1) (tt := tYes) rfl sc_l_name.nd (pi_range1 rfl T.n_range (pa_cons (pe_op op_add pe_int (pe_call G_l_draw (hr.mono (by first | decide | omega)) (by rfl) m_l_draw k_l_draw b_l_draw .nil pass0 (pa_cons (pv 0) (pa_cons pe_int pa_nil)))) pa_nil)) (blkOk_by (own := [("_law_k", 1)]) (N := N_l_name) (sc := (defScope s_l_name)) (by decide +kernel)) (fun _ _ _ _ _ => (pg_name (i := 1) sc_l_name.nd rfl (Or.inl rfl))) (fun _ _ _ _ _ => pts_nil) (fun _ _ _ _ _ => (pe_ix ix_str pe_str (pe_call G_l_draw (hr.mono (by first | decide | omega)) (by rfl) m_l_draw k_l_draw b_l_draw .nil pass0 (pa_cons (pv 0) (pa_cons pe_int pa_nil))) (fun _ _ => rfl)))))))), ?_⟩
    refine st_start (σ' := [some (.ref p), none]) rfl ?_
    walk_at "S"
    refine ⟨p, _, rfl, hp, by omega, by omega, fun H1 v1 k1 hp1 a0 a1 => ?_⟩
    walk_at "S"
    refine s_dec (fun h4 => ?_) (fun h4 => ?_)
    · walk_at "S"
      refine ⟨small_le (by simp), fun l hl => ?_⟩
      walk_at "S"
      have np := hp1.ne hl
      refine ⟨p, _, rfl, hp1.upd np, by omega, by omega, fun H2 v2 k2 hp2 b0 b1 => ?_⟩
      obtain ⟨y, hy, hm⟩ := pick (xs := names8) b0 b1
      obtain ⟨z, rfl, hz⟩ := names8_ok y hm
      refine s_ixL (xs := names8) (sq_l (k2.get ⟨np.symm, trivial⟩ upd_same)) hy ?_
      exact q _ _ (((k1.upd_new hl).step k2 fun x hx => .inl hx)) hp2 hz
    · walk_at "S"
      refine ⟨p, _, rfl, hp1, by omega, by omega, fun H2 v2 k2 hp2 b0 b1 => ?_⟩
      have kk : Kp [p] H H2 := k1.step k2 fun x hx => .inl hx
      walk_at "S"
      refine ⟨by omega, by omega, fun l hl => ?_⟩
      have np : p ≠ l := hp2.ne hl
      let PL : Nat → List V → Prop := fun i xs => ∃ cs : List Nat, xs = (cs.map sg).map V.str ∧ (∀ c ∈ cs, c ∈ lets) ∧ cs.length = i
      have L : LcOkP l (1 + v2).toNat PL [p] H2 (fun _ H => PotOk H p) :=
        ⟨small_le (by omega), ⟨[], rfl, by simp, rfl⟩, hl, ⟨np.symm, trivial⟩, fun _ _ _ h => h.upd np⟩
      refine lc_goP walk_range L hp2 (fun _ _ => trivial) (fun i x Ha Hb hi I y => ?_) fun H5 I => ?_
      · obtain ⟨rfl, rfl⟩ := y
        obtain ⟨_, _, hpI⟩ := id I
        walk_at "S"
        refine ⟨rfl, ?_⟩
        walk_at "S"
        refine ⟨p, _, rfl, hpI, by omega, by omega, fun Hc v kc hpc e0 e1 => ?_⟩
        obtain ⟨c, hc, hm⟩ := pickS (z := "abcdefghijklmnopqrstuvwxyz") e0 (by rw [show (tl ("abcdefghijklmnopqrstuvwxyz" : Str)).length = 26 from by decide +kernel]; omega)
        refine s_ixS (by decide +kernel) hc ?_
        refine I.put L hi (fun xs hx => ?_) kc hpc
        obtain ⟨cs, rfl, h1, h2⟩ := hx
        refine ⟨cs ++ [c], by simp, fun d hd => ?_, by simp [h2]⟩
        rcases List.mem_append.mp hd with hd | hd
        · exact h1 d hd
        · rw [List.mem_singleton.mp hd]
          exact hm
      obtain ⟨⟨xs, x0, ⟨cs, rfl, hcs, hcl⟩, _⟩, k5, hp5⟩ := I
      walk_at "S"
      have eL : ("" : Str).length = 0 := by decide +kernel
      refine s_joinL (zs := cs.map sg) (sq_l x0) (by rw [sg_sum, List.length_map, eL]; omega) ?_
      rw [join_sg]
      exact q _ _ (kk.step k5 fun x hx => .inl hx) hp5 (isNameL_of (by omega) (by omega) hcs)
theorem ok_path {f : Addr} {fd : FuncData} (F : Fun K "_law_path" "_law_path" s_l_path f fd) (T : Txt K mg)
    (D_l_draw : DnF P w K mg base 1 "_law_draw" ["_law_pot_here", "_law_many"] spDraw)
    (D_l_name : DnF P w K mg base 2 "_law_name" ["_law_pot_here"] spName) : FnOk P w K mg base CX0 3 f fd ["_law_pot_here"] spPath := by
  refine F.ok sc_l_path (fun vs H Q E h => ?_) (fun cdv A outer s H vs Q E hr h => ?_)
  · obtain ⟨p, rfl, _⟩ := h
    rfl
  · obtain ⟨f_l_draw, fd_l_draw, G_l_draw, m_l_draw, k_l_draw, b_l_draw⟩ := D_l_draw; obtain ⟨f_l_name, fd_l_name, G_l_name, m_l_name, k_l_name, b_l_name⟩ := D_l_name
    obtain ⟨p, rfl, hp, q⟩ := h
    refine ⟨_, (pss_one (ps_ret (pe_m1 PySem.F.slot_str_join PySem.F.type_str_join (joinK (K := K) rfl) pe_str (pe_lc (own := [("_law_k", 1)]) (g := gName 1) (tt := tYes) rfl sc_l_path.nd (pi_range1 rfl T.n_range (pa_cons (pe_op op_add pe_int (pe_op op_mul (pe_call G_l_draw (hr.mono (by first | decide | omega)) (by rfl) m_l_draw k_l_draw b_l_draw .nil pass0 (pa_cons (pv 0) (pa_cons pe_int pa_nil))) (pe_call G_l_draw (hr.mono (by first | decide | omega)) (by rfl) m_l_draw k_l_draw b_l_draw .nil pass0 (pa_cons (pv 0) (pa_cons pe_int pa_nil))))) pa_nil)) (blkOk_by (own := [("_law_k", 1)]) (N := N_l_path) (sc := (defScope s_l_path)) (by decide +kernel)) (fun _ _ _ _ _ => (pg_name (i := 1) sc_l_path.nd rfl (Or.inl rfl))) (fun _ _ _ _ _ => pts_nil) (fun _ _ _ _ _ => (pe_call G_l_name (hr.mono (by first | decide | omega)) (by rfl) m_l_name k_l_name b_l_name .nil pass0 (pa_cons (pv 0) pa_nil))))))), ?_⟩
    refine st_start (σ' := [some (.ref p), none]) rfl ?_
    walk_at "S"
    refine ⟨p, _, rfl, hp, by omega, by omega, fun H1 v1 k1 hp1 a0 a1 => ?_⟩
    walk_at "S"
    refine ⟨p, _, rfl, hp1, by omega, by omega, fun H2 v2 k2 hp2 b0 b1 => ?_⟩
    have kk : Kp [p] H H2 := k1.step k2 fun x hx => .inl hx
    have b3 : 0 ≤ v1 * v2 ∧ v1 * v2 ≤ 3 := by
      rcases (show v1 = 0 ∨ v1 = 1 by omega) with rfl | rfl
      · simp
      · simp only [Int.one_mul]; omega
    walk_at "S"
    generalize v1 * v2 = m at b3 ⊢
    refine ⟨by omega, by omega, fun l hl => ?_⟩
    have np : p ≠ l := hp2.ne hl
    let PL : Nat → List V → Prop := fun i xs => ∃ ps : List (List Nat), xs = (ps.map mkS).map V.str ∧ (∀ c ∈ ps, isNameL c = true) ∧ ps.length = i
    have L : LcOkP l (1 + m).toNat PL [p] H2 (fun _ H => PotOk H p) :=
      ⟨small_le (by omega), ⟨[], rfl, by simp, rfl⟩, hl, ⟨np.symm, trivial⟩, fun _ _ _ h => h.upd np⟩
    refine lc_goP walk_range L hp2 (fun _ _ => trivial) (fun i x Ha Hb hi I y => ?_) fun H5 I => ?_
    · obtain ⟨rfl, rfl⟩ := y
      obtain ⟨_, _, hpI⟩ := id I
      walk_at "S"
      refine ⟨rfl, ?_⟩
      walk_at "S"
      refine ⟨p, rfl, hpI, fun Hc c kc hpc hm => ?_⟩
      refine I.put L hi (fun xs hx => ?_) kc hpc
      obtain ⟨cs, rfl, h1, h2⟩ := hx
      refine ⟨cs ++ [c], by simp, fun d hd => ?_, by simp [h2]⟩
      rcases List.mem_append.mp hd with hd | hd
      · exact h1 d hd
      · rw [List.mem_singleton.mp hd]
        exact hm
    obtain ⟨⟨xs, x0, ⟨cs, rfl, hcs, hcl⟩, _⟩, k5, hp5⟩ := I
    walk_at "S"
    have eL : ("." : Str).length = 1 := by decide +kernel
    have e1 : ((cs.map mkS).map (·.length)).sum ≤ cs.length * 8 := by
      rw [List.map_map, show (cs.map ((fun (z : Str) => z.length) ∘ mkS)) = cs.map List.length from List.map_congr_left fun a _ => mkS_len a]
      exact len_le_of_sum fun c hc => (isNameL_len (hcs c hc)).2
    refine s_joinL (zs := cs.map mkS) (sq_l x0) (by rw [List.length_map, eL]; omega) ?_
    rw [joinS46]
    exact q _ _ (kk.step k5 fun x hx => .inl hx) hp5 (isPathL_of (fun z => by rw [z] at hcl; simp at hcl; omega) (by omega) hcs)
theorem ok_number {f : Addr} {fd : FuncData} (F : Fun K "_law_number" "_law_number" s_l_number f fd)
    (D_l_draw : DnF P w K mg base 1 "_law_draw" ["_law_pot_here", "_law_many"] spDraw) : FnOk P w K mg base CX0 2 f fd ["_law_pot_here"] spNumber := by
  refine F.ok sc_l_number (fun vs H Q E h => ?_) (fun cdv A outer s H vs Q E hr h => ?_)
  · obtain ⟨p, rfl, _⟩ := h
    rfl
  · obtain ⟨f_l_draw, fd_l_draw, G_l_draw, m_l_draw, k_l_draw, b_l_draw⟩ := D_l_draw
    obtain ⟨p, rfl, hp, q⟩ := h
    refine ⟨_, (pss_cons (ps_if (pt_cmpR op_eq (pe_call G_l_draw (hr.mono (by first | decide | omega)) (by rfl) m_l_draw k_l_draw b_l_draw .nil pass0 (pa_cons (pv 0) (pa_cons pe_int pa_nil))) pe_int (nomark _)) (pss_one (ps_ret (pe_op op_sub (pe_call G_l_draw (hr.mono (by first | decide | omega)) (by rfl) m_l_draw k_l_draw b_l_draw .nil pass0 (pa_cons (pv 0) (pa_cons pe_int pa_nil))) pe_int))) pss_nil)
      (pss_one (ps_ret (pe_op op_add (pe_op op_sub (pe_call G_l_draw (hr.mono (by first | decide | omega)) (by rfl) m_l_draw k_l_draw b_l_draw .nil pass0 (pa_cons (pv 0) (pa_cons (pe_op op_sub (pe_op op_mul pe_int (pe_op op_pow pe_int pe_int)) pe_int) pa_nil))) (pe_op op_pow pe_int pe_int)) pe_int)))), ?_⟩
    refine st_start (σ' := [some (.ref p)]) rfl ?_
    walk_at "S"
    refine ⟨p, _, rfl, hp, by omega, by omega, fun H1 v1 k1 hp1 a0 a1 => ?_⟩
    walk_at "S"
    refine s_dec (fun h4 => ?_) (fun h4 => ?_)
    · walk_at "S"
      refine ⟨p, _, rfl, hp1, by omega, by omega, fun H2 v2 k2 hp2 b0 b1 => ?_⟩
      walk_at "S"
      exact q _ _ (k1.step k2 fun x hx => .inl hx) hp2 (by omega)
    · walk_at "S"
      have e : (10 : Int) ^ (60 : Int).toNat = 1000000000000000000000000000000000000000000000000000000000000 := by decide +kernel
      rw [e]
      refine ⟨p, _, rfl, hp1, by omega, by omega, fun H2 v2 k2 hp2 b0 b1 => ?_⟩
      walk_at "S"
      rw [e]
      exact q _ _ (k1.step k2 fun x hx => .inl hx) hp2 (by omega)
end

def RoomAt (H : Hp) (r : Addr) (n : Nat) : Prop := H r = some (.lst [.int n])
theorem pot_room {H : Hp} {p r : Addr} {n : Nat} (h : PotOk H p) (g : RoomAt H r n) : p ≠ r := by
  rintro rfl
  obtain ⟨s, e⟩ := h
  have z := e.symm.trans g
  simp at z
def spWords : Sp := fun vs H Q _ => ∃ p : Addr, vs = [.ref p] ∧ PotOk H p ∧
  ∀ H' a (ws : List Str), Kp [p] H H' → PotOk H' p → OkWords ws → H a = none → H' a = some (.tup (ws.map V.str)) → Q (.ref a) H'
def spRow (K : PySem.W.Frag) (d : Nat) : Sp := fun vs H Q _ => ∃ (p r : Addr) (n : Nat), vs = [.ref p, .ref r, .int (3 - (d : Int))] ∧ PotOk H p ∧ RoomAt H r n ∧ n ≤ 40 ∧
  ∀ H' v x (m : Nat), Kp [p, r] H H' → PotOk H' p → RoomAt H' r m → OkRow d x → Dp K H' v x → cntRow d x + m ≤ n + 1 → Q v H'
def spRows (K : PySem.W.Frag) (d : Nat) : Sp := fun vs H Q _ => ∃ (p r : Addr) (n : Nat), vs = [.ref p, .ref r, .int (3 - (d : Int))] ∧ PotOk H p ∧ RoomAt H r n ∧ n ≤ 40 ∧
  ∀ H' v xs (m : Nat), Kp [p, r] H H' → PotOk H' p → RoomAt H' r m → (∀ x ∈ xs, OkRow d x) → Dp K H' v (.tuple xs) → cnts d xs + m ≤ n → Q v H'
def spRowsP (K : PySem.W.Frag) : Nat → Sp
  | 0 => fun _ _ _ _ => False
  | d + 1 => spRows K d
def words8 : List V := [.str "NOMODULE", .str "NONAME", .str "HALF", .str "FLAT", .str "NOTASK", .str "ALL", .str "", .str ""]
theorem words8_ok : ∀ y ∈ words8, ∃ z : Str, y = .str z ∧ (z = "" ∨ isWordS z = true) := by
  intro y hy
  simp only [words8, List.mem_cons, List.not_mem_nil, or_false] at hy
  rcases hy with rfl | rfl | rfl | rfl | rfl | rfl | rfl | rfl
  · exact ⟨_, rfl, .inr (by decide +kernel)⟩
  · exact ⟨_, rfl, .inr (by decide +kernel)⟩
  · exact ⟨_, rfl, .inr (by decide +kernel)⟩
  · exact ⟨_, rfl, .inr (by decide +kernel)⟩
  · exact ⟨_, rfl, .inr (by decide +kernel)⟩
  · exact ⟨_, rfl, .inr (by decide +kernel)⟩
  · exact ⟨_, rfl, .inl rfl⟩
  · exact ⟨_, rfl, .inl rfl⟩
theorem inV_strs (z : Str) (ws : List Str) : inV (.str z) (ws.map V.str) = decide (z ∈ ws) := by
  unfold inV
  rw [List.any_map]
  induction ws with
  | nil => simp
  | cons a r ih =>
    rw [List.any_cons, ih]
    show (eqV (.str a) (.str z) || _) = _
    have e : eqV (.str a) (.str z) = decide (z = a) := by
      show decide _ = _
      exact decide_eq_decide.mpr ⟨fun h => Eq.symm h, fun h => Eq.symm h⟩
    rw [e]
    by_cases c : z = a
    · simp [c]
    · simp [c]
theorem flatV_strs (ws : List Str) : (ws.map V.str).all flatV = true := by
  rw [List.all_map, List.all_eq_true]
  exact fun _ _ => rfl
section
variable {P : Program} {w : World} {K : PySem.W.Frag} {mg : Str → Option Value} {base : Heap}
theorem ok_words {f : Addr} {fd : FuncData} (F : Fun K "_law_fault_words" "_law_fault_words" s_l_fault_words f fd) (T : Txt K mg)
    (D_l_draw : DnF P w K mg base 1 "_law_draw" ["_law_pot_here", "_law_many"] spDraw)
    (D_l_name : DnF P w K mg base 2 "_law_name" ["_law_pot_here"] spName) : FnOk P w K mg base CX0 3 f fd ["_law_pot_here"] spWords := by
  refine F.ok sc_l_fault_words (fun vs H Q E h => ?_) (fun cdv A outer s H vs Q E hr h => ?_)
  · obtain ⟨p, rfl, _⟩ := h
    rfl
  · obtain ⟨f_l_draw, fd_l_draw, G_l_draw, m_l_draw, k_l_draw, b_l_draw⟩ := D_l_draw; obtain ⟨f_l_name, fd_l_name, G_l_name, m_l_name, k_l_name, b_l_name⟩ := D_l_name
    obtain ⟨p, rfl, hp, q⟩ := h
    refine ⟨_, (pss_cons (ps_set (i := 1) sc_l_fault_words.nd rfl (Or.inl rfl) (pe_lst pa_nil))
      (pss_cons (ps_for PassesOwn.never rfl (pi_range1 rfl T.n_range (pa_cons (pe_call G_l_draw (hr.mono (by first | decide | omega)) (by rfl) m_l_draw k_l_draw b_l_draw .nil pass0 (pa_cons (pv 0) (pa_cons pe_int pa_nil))) pa_nil)) (pg_name (i := 2) sc_l_fault_words.nd rfl (Or.inl rfl)) (pss_cons (ps_set (i := 3) sc_l_fault_words.nd rfl (Or.inl rfl) (pe_ix (ixLK (K := K) rfl) (pe_lst (pa_cons pe_str (pa_cons pe_str (pa_cons pe_str (pa_cons pe_str (pa_cons pe_str (pa_cons pe_str (pa_cons pe_str (pa_cons pe_str pa_nil))))))))) (pe_call G_l_draw (hr.mono (by first | decide | omega)) (by rfl) m_l_draw k_l_draw b_l_draw .nil pass0 (pa_cons (pv 0) (pa_cons pe_int pa_nil))) (fun _ _ => rfl)))
      (pss_cut2 (ps_if (pt_cmpR op_eq (pv 3) pe_str (nomark _)) (pss_one (ps_set (i := 3) sc_l_fault_words.nd rfl (Or.inl rfl) (pe_call G_l_name (hr.mono (by first | decide | omega)) (by rfl) m_l_name k_l_name b_l_name .nil pass0 (pa_cons (pv 0) pa_nil)))) pss_nil)
      (pss_one (ps_if (pt_cmpR (ninK (K := K) rfl) (pv 3) (pv 1) (by rfl)) (pss_one (ps_expr (kBM (K := K) rfl (pe_bm PySem.F.plainAttrs_list PySem.F.slot_list_append PySem.F.type_list_append mt_append (pv 1) (pa_cons (pv 3) pa_nil))))) pss_nil)))))
      (pss_one (ps_ret (pe_callTy (tupleK (K := K) rfl) (by rfl) T.n_tuple (by decide +kernel) (pa_cons (pv 1) pa_nil)))))), ?_⟩
    refine st_start (σ' := [some (.ref p), none, none, none]) rfl ?_
    walk_at "S"
    refine ⟨small_le (by simp), fun l hl => ?_⟩
    walk_at "S"
    have np := hp.ne hl
    refine ⟨p, _, rfl, hp.upd np, by omega, by omega, fun H1 v1 k1 hp1 a0 a1 => ?_⟩
    have k01 : Kp [p] H H1 := by walk_at "K"
    have x1 : H1 l = some (.lst []) := k1.get ⟨np.symm, trivial⟩ upd_same
    walk_at "S"
    refine ⟨by omega, by omega, ?_⟩
    refine for_go walk_range (fun i σ H2 => ∃ (ws : List Str) (v2 v3 : Option V), σ = [some (.ref p), some (.ref l), v2, v3] ∧ Kp [p] H H2 ∧ PotOk H2 p ∧ H2 l = some (.lst (ws.map V.str)) ∧ ws.Nodup ∧ (∀ z ∈ ws, isWordS z = true) ∧ ws.length ≤ i)
      ⟨[], _, _, rfl, k01, hp1, x1, .nil, by simp, Nat.le_refl _⟩ (fun _ _ _ _ _ => trivial) (fun i x σ Ha Hb hi I y => ?_) fun σ H2 I => ?_
    · obtain ⟨rfl, rfl⟩ := y
      obtain ⟨ws, v2, v3, rfl, k2, hp2, x2, nd, hw, hl2⟩ := I
      dsimp only
      have put : ∀ (Hc : Hp) (z : Str), isWordS z = true → Kp [p] H Hc → PotOk Hc p → Hc l = some (.lst (ws.map V.str)) → ∀ v2 v3 : Option V, z ∉ ws →
          ∃ (ws' : List Str) (v2' v3' : Option V), [some (V.ref p), some (V.ref l), v2, v3] = [some (V.ref p), some (V.ref l), v2', v3'] ∧ Kp [p] H (upd Hc l (.lst (ws.map V.str ++ [.str z]))) ∧ PotOk (upd Hc l (.lst (ws.map V.str ++ [.str z]))) p ∧
            (upd Hc l (.lst (ws.map V.str ++ [.str z]))) l = some (.lst (ws'.map V.str)) ∧ ws'.Nodup ∧ (∀ z ∈ ws', isWordS z = true) ∧ ws'.length ≤ i + 1 := fun Hc z hz kc hpc xc v2 v3 hn =>
        ⟨ws ++ [z], _, _, rfl, kc.upd_loc hl, hpc.upd np, by rw [upd_same, List.map_append]; rfl, List.nodup_append.mpr ⟨nd, List.pairwise_singleton _ z, fun a ha b hb e => hn (by rw [← List.mem_singleton.mp hb, ← e]; exact ha)⟩, fun y hy => by
          rcases List.mem_append.mp hy with hy | hy
          · exact hw y hy
          · rw [List.mem_singleton.mp hy]; exact hz, by rw [List.length_append, List.length_singleton]; omega⟩
      walk_at "S"
      refine ⟨small_le (by simp), fun l2 hl2' => ?_⟩
      walk_at "S"
      have np2 := hp2.ne hl2'
      refine ⟨p, _, rfl, hp2.upd np2, by omega, by omega, fun H3 v4 k3 hp3 b0 b1 => ?_⟩
      have nl : l ≠ l2 := ne_of_none x2 hl2'
      have x3 : H3 l = some (.lst (ws.map V.str)) := k3.get ⟨np.symm, trivial⟩ ((upd_ne nl).trans x2)
      have k23 : Kp [p] H H3 := (k2.upd_new hl2').step k3 fun x hx => .inl hx
      obtain ⟨y, hy, hm⟩ := pick (xs := words8) b0 b1
      obtain ⟨z, rfl, hz⟩ := words8_ok y hm
      refine s_ixL (xs := words8) (sq_l (k3.get ⟨np2.symm, trivial⟩ upd_same)) hy ?_
      walk_at "S"
      refine s_cut (fun σ H4 => ∃ (z : Str) (v2 : Option V), σ = [some (.ref p), some (.ref l), v2, some (.str z)] ∧ Kp [p] H H4 ∧ PotOk H4 p ∧ H4 l = some (.lst (ws.map V.str)) ∧ isWordS z = true) (fun J hJ => ?_) ?_
      · walk_at "S"
        refine s_dec (fun h => ?_) (fun h => ?_)
        · walk_at "S"
          refine ⟨p, rfl, hp3, fun H4 c k4 hp4 hc => ?_⟩
          walk_at "S"
          exact hJ _ _ ⟨_, _, rfl, k23.step k4 fun x hx => .inl hx, hp4, k4.get ⟨np.symm, trivial⟩ x3, by unfold isWordS; rw [tl_mkS, hc]; rfl⟩
        · walk_at "S"
          exact hJ _ _ ⟨_, _, rfl, k23, hp3, x3, hz.resolve_left fun e => h (by rw [e])⟩
      · rintro σ H4 ⟨z, v2, rfl, k4, hp4, x4, hz⟩
        walk_at "S"
        refine ⟨l, _, rfl, .inl (sq_l x4), rfl, flatV_strs ws, ?_⟩
        rw [inV_strs]
        walk_at "S"
        refine s_ndec (fun h => ?_) (fun h => ?_)
        · walk_at "S"
          refine s_append x4 (small_lt (by rw [List.length_map]; omega)) ?_
          exact put H4 z hz k4 hp4 x4 _ _ h
        · walk_at "S"
          exact ⟨ws, _, _, rfl, k4, hp4, x4, nd, hw, by omega⟩
    · obtain ⟨ws, v2, v3, rfl, k2, hp2, x2, nd, hw, hl2⟩ := I
      walk_at "S"
      refine s_tupL (sq_l x2) fun t ht => ?_
      exact q _ _ ws (k2.upd_new ht) (hp2.upd (hp2.ne ht)) ⟨nd, hw, by omega⟩ (k2.free ⟨fun e => by subst e; exact absurd ht (by obtain ⟨s, e⟩ := hp2; rw [e]; simp), trivial⟩ ht) upd_same
end

theorem lead4_ok : ∀ y ∈ ([.str "now", .str "take", .str "late", .str "ask"] : List V), ∃ z : Str, y = .str z ∧ z ∈ leadW := by
  intro y hy
  simp only [List.mem_cons, List.not_mem_nil, or_false] at hy
  rcases hy with rfl | rfl | rfl | rfl <;> exact ⟨_, rfl, by decide +kernel⟩
theorem most8_ok : ∀ y ∈ ([.int 4, .int 4, .int 4, .int 4, .int 4, .int 9, .int 9, .int 41] : List V), ∃ m : Int, y = .int m ∧ 0 < m ∧ m ≤ 41 := by
  intro y hy
  simp only [List.mem_cons, List.not_mem_nil, or_false] at hy
  rcases hy with rfl | rfl | rfl | rfl | rfl | rfl | rfl | rfl <;> exact ⟨_, rfl, by decide, by decide⟩
section
variable {P : Program} {w : World} {K : PySem.W.Frag} {mg : Str → Option Value} {base : Heap}
theorem RoomAt.upd {H : Hp} {r D : Addr} {n : Nat} {o : HO} (h : RoomAt H r n) (e : r ≠ D) : RoomAt (upd H D o) r n := (upd_ne e).trans h
theorem RoomAt.ne {H : Hp} {r D : Addr} {n : Nat} (h : RoomAt H r n) (e : H D = none) : r ≠ D := ne_of_none h e
theorem ok_row {d : Nat} (hd : d ≤ 3) {f : Addr} {fd : FuncData} (F : Fun K "_law_row" "_law_row" s_l_row f fd)
    (D_l_draw : DnF P w K mg base 1 "_law_draw" ["_law_pot_here", "_law_many"] spDraw)
    (D_l_name : DnF P w K mg base 2 "_law_name" ["_law_pot_here"] spName) (D_l_path : DnF P w K mg base 3 "_law_path" ["_law_pot_here"] spPath)
    (D_l_number : DnF P w K mg base 2 "_law_number" ["_law_pot_here"] spNumber) (D_l_fault_words : DnF P w K mg base 3 "_law_fault_words" ["_law_pot_here"] spWords)
    (D_l_rows : DnF P w K mg base (3 + 2 * d) "_law_rows" ["_law_pot_here", "_law_room", "_law_deep"] (spRowsP K d)) :
    FnOk P w K mg base CX0 (3 + 2 * d + 1) f fd ["_law_pot_here", "_law_room", "_law_deep"] (spRow K d) := by
  refine F.ok sc_l_row (fun vs H Q E h => ?_) (fun cdv A outer s H vs Q E hr h => ?_)
  · obtain ⟨p, r, n, rfl, _⟩ := h
    rfl
  · obtain ⟨f_l_draw, fd_l_draw, G_l_draw, m_l_draw, k_l_draw, b_l_draw⟩ := D_l_draw; obtain ⟨f_l_rows, fd_l_rows, G_l_rows, m_l_rows, k_l_rows, b_l_rows⟩ := D_l_rows; obtain ⟨f_l_fault_words, fd_l_fault_words, G_l_fault_words, m_l_fault_words, k_l_fault_words, b_l_fault_words⟩ := D_l_fault_words; obtain ⟨f_l_path, fd_l_path, G_l_path, m_l_path, k_l_path, b_l_path⟩ := D_l_path; obtain ⟨f_l_name, fd_l_name, G_l_name, m_l_name, k_l_name, b_l_name⟩ := D_l_name; obtain ⟨f_l_number, fd_l_number, G_l_number, m_l_number, k_l_number, b_l_number⟩ := D_l_number
    obtain ⟨p, r, n, rfl, hp, hrm, hn, q⟩ := h
    have npr := pot_room hp hrm
    have flat : ∀ {Hc : Hp} {t : Addr} {xs : List V} {ds : List PyData}, Kp [p] H Hc → PotOk Hc p → Hc t = none → DpAll K (upd Hc t (.tup xs)) xs ds → OkFlat (.tuple ds) → Q (.ref t) (upd Hc t (.tup xs)) := by
      intro Hc t xs ds k hpc ht hd ho
      refine q _ _ (.tuple ds) n ((Kp.p_pr k).upd_new ht) (hpc.upd (hpc.ne ht)) ?_ (.flat ho) (.tup (sq_t upd_same) hd) (by rw [cntRow_flat ho]; omega)
      have hr2 : RoomAt Hc r n := k.get ⟨npr.symm, trivial⟩ hrm
      exact hr2.upd (hr2.ne ht)
    refine ⟨_, (pss_cons (ps_set (i := 3) sc_l_row.nd rfl (Or.inl rfl) (pe_call G_l_draw (hr.mono (by first | decide | omega)) (by rfl) m_l_draw k_l_draw b_l_draw .nil pass0 (pa_cons (pv 0) (pa_cons pe_int pa_nil))))
      (pss_cons (ps_if (PW.pt (pw_and (pt_cmpR op_gt (pv 3) pe_int (nomark _)) (pw_and1 (pt_cmpR op_lt (pv 2) pe_int (nomark _))))) (pss_cons (ps_set (i := 4) sc_l_row.nd rfl (Or.inl rfl) (pe_call G_l_rows (hr.mono (by first | decide | omega)) (by rfl) m_l_rows k_l_rows b_l_rows .nil pass0 (pa_cons (pv 0) (pa_cons (pv 1) (pa_cons (pe_op op_add (pv 2) pe_int) pa_nil)))))
      (pss_cons (ps_set (i := 5) sc_l_row.nd rfl (Or.inl rfl) (pe_call G_l_fault_words (hr.mono (by first | decide | omega)) (by rfl) m_l_fault_words k_l_fault_words b_l_fault_words .nil pass0 (pa_cons (pv 0) pa_nil)))
      (pss_one (ps_ret (pe_tup (pa_cons pe_str (pa_cons (pv 4) (pa_cons (pv 5) (pa_cons (pe_call G_l_rows (hr.mono (by first | decide | omega)) (by rfl) m_l_rows k_l_rows b_l_rows .nil pass0 (pa_cons (pv 0) (pa_cons (pv 1) (pa_cons (pe_op op_add (pv 2) pe_int) pa_nil)))) pa_nil))))))))) pss_nil)
      (pss_cons (ps_if (pt_cmpR op_eq (pv 3) pe_int (nomark _)) (pss_one (ps_ret (pe_tup (pa_cons pe_str (pa_cons (pe_call G_l_path (hr.mono (by first | decide | omega)) (by rfl) m_l_path k_l_path b_l_path .nil pass0 (pa_cons (pv 0) pa_nil)) pa_nil))))) pss_nil)
      (pss_cons (ps_if (pt_cmpR op_eq (pv 3) pe_int (nomark _)) (pss_one (ps_ret (pe_tup (pa_cons pe_str (pa_cons (pe_call G_l_name (hr.mono (by first | decide | omega)) (by rfl) m_l_name k_l_name b_l_name .nil pass0 (pa_cons (pv 0) pa_nil)) pa_nil))))) pss_nil)
      (pss_cons (ps_if (pt_cmpR op_eq (pv 3) pe_int (nomark _)) (pss_one (ps_ret (pe_tup (pa_cons pe_str (pa_cons (pe_call G_l_name (hr.mono (by first | decide | omega)) (by rfl) m_l_name k_l_name b_l_name .nil pass0 (pa_cons (pv 0) pa_nil)) (pa_cons (pe_call G_l_path (hr.mono (by first | decide | omega)) (by rfl) m_l_path k_l_path b_l_path .nil pass0 (pa_cons (pv 0) pa_nil)) (pa_cons (pe_call G_l_name (hr.mono (by first | decide | omega)) (by rfl) m_l_name k_l_name b_l_name .nil pass0 (pa_cons (pv 0) pa_nil)) pa_nil))))))) pss_nil)
      (pss_cons (ps_if (PW.pt (pw_or (pt_cmpR op_gt (pv 3) pe_int (nomark _)) (pw_or1 (pt_cmpR op_eq (pv 3) pe_int (nomark _))))) (pss_one (ps_ret (pe_tup (pa_cons pe_str (pa_cons (pe_call G_l_name (hr.mono (by first | decide | omega)) (by rfl) m_l_name k_l_name b_l_name .nil pass0 (pa_cons (pv 0) pa_nil)) (pa_cons (pe_call G_l_number (hr.mono (by first | decide | omega)) (by rfl) m_l_number k_l_number b_l_number .nil pass0 (pa_cons (pv 0) pa_nil)) pa_nil)))))) pss_nil)
      (pss_one (ps_ret (pe_tup (pa_cons (pe_ix (ixLK (K := K) rfl) (pe_lst (pa_cons pe_str (pa_cons pe_str (pa_cons pe_str (pa_cons pe_str pa_nil))))) (pe_op op_sub (pv 3) pe_int) (fun _ _ => rfl)) (pa_cons (pe_call G_l_name (hr.mono (by first | decide | omega)) (by rfl) m_l_name k_l_name b_l_name .nil pass0 (pa_cons (pv 0) pa_nil)) (pa_cons (pe_call G_l_path (hr.mono (by first | decide | omega)) (by rfl) m_l_path k_l_path b_l_path .nil pass0 (pa_cons (pv 0) pa_nil)) pa_nil)))))))))))), ?_⟩
    refine st_start (σ' := [some (.ref p), some (.ref r), some (.int (3 - (d : Int))), none, none, none]) rfl ?_
    walk_at "S"
    refine ⟨p, _, rfl, hp, by omega, by omega, fun H1 v1 k1 hp1 a0 a1 => ?_⟩
    have rest : v1 > 7 ∨ v1 ≤ 7 := by omega
    have hr1 : RoomAt H1 r n := k1.get ⟨npr.symm, trivial⟩ hrm
    have set_end : ∀ (Hc : Hp) (l : List Nat) (m : Int) (t : Addr), Kp [p] H Hc → PotOk Hc p → Hc t = none → isNameL l = true → m.natAbs < 10 ^ 60 → Q (.ref t) (upd Hc t (.tup [.str "set", .str (mkS l), .int m])) :=
      fun Hc l m t k hpc ht h1 h2 => flat k hpc ht (.cons (.str _) (.cons (.str _) (.cons (.int _) .nil))) (.set h1 (Nat.lt_trans h2 (by decide +kernel)))
    walk_at "S"
    refine s_dec (fun h7 => ?_) (fun h7 => ?_)
    · walk_at "S"
      refine s_dec (fun h3 => ?_) (fun h3 => ?_)
      · -- a try
        obtain ⟨e, rfl⟩ : ∃ e, d = e + 1 := ⟨d - 1, by omega⟩
        have ed : (3 - ((e + 1 : Nat) : Int)) + 1 = 3 - (e : Int) := by omega
        walk_at "S"
        rw [ed]
        refine ⟨p, r, n, rfl, hp1, hr1, hn, fun H2 u1 xs1 m1 k2 hp2 hr2 ok1 dp1 c1 => ?_⟩
        walk_at "S"
        refine ⟨p, rfl, hp2, fun H3 a ws k3 hp3 okw na ha => ?_⟩
        have hr3 : RoomAt H3 r m1 := k3.get ⟨npr.symm, trivial⟩ hr2
        walk_at "S"
        rw [ed]
        refine ⟨p, r, m1, rfl, hp3, hr3, by omega, fun H4 u2 xs2 m2 k4 hp4 hr4 ok2 dp2 c2 => ?_⟩
        walk_at "S"
        refine ⟨small_le (by simp), fun t ht => ?_⟩
        have t34 := TupK.two k4 hp3.noTup (.lst hr3)
        have t4 : TupK H4 (upd H4 t (.tup [.str "try", u1, .ref a, u2])) := .new ht
        have f1 : flatD (.tuple xs1) = true := flatAll_of fun y hy => (ok1 y hy).flatD
        have f2 : flatD (.tuple xs2) = true := flatAll_of fun y hy => (ok2 y hy).flatD
        have fw : flatD (.tuple (ws.map .str)) = true := flat_strs ws
        have d1 := Dp.tups t4 _ _ f1 (Dp.tups t34 _ _ f1 (Dp.tups (TupK.one k3 hp2.noTup) _ _ f1 dp1))
        have dw := Dp.tups (K := K) t4 _ _ fw (Dp.tups t34 _ _ fw (Dp.tup (sq_t ha) (dpStrs ws)))
        have d2 := Dp.tups t4 _ _ f2 dp2
        refine q _ _ (.tuple [.str "try", .tuple xs1, .tuple (ws.map .str), .tuple xs2]) m2 ((((Kp.p_pr k1).tr k2).tr (Kp.p_pr k3)).tr k4 |>.upd_new ht) (hp4.upd (hp4.ne ht)) (hr4.upd (hr4.ne ht)) (.tryr ok1 okw ok2) (.tup (sq_t upd_same) (.cons (.str _) (.cons d1 (.cons dw (.cons d2 .nil))))) ?_
        rw [cntRow_try]
        omega
      · walk_at "S"
        refine s_dec (fun h => absurd h (by simp; omega)) (fun _ => ?_)
        walk_at "S"
        refine s_dec (fun h => absurd h (by simp; omega)) (fun _ => ?_)
        walk_at "S"
        refine s_dec (fun h => absurd h (by simp; omega)) (fun _ => ?_)
        walk_at "S"
        refine s_dec (fun _ => ?_) (fun h => absurd h7 h)
        walk_at "S"
        refine ⟨p, rfl, hp1, fun H2 l k2 hp2 hl => ?_⟩
        walk_at "S"
        refine ⟨p, rfl, hp2, fun H3 m k3 hp3 hm => ?_⟩
        walk_at "S"
        exact ⟨small_le (by simp), fun t ht => set_end _ _ _ _ ((k1.tr k2).tr k3) hp3 ht hl hm⟩
    · walk_at "S"
      refine s_dec (fun h => ?_) (fun h6 => ?_)
      · walk_at "S"
        refine ⟨p, rfl, hp1, fun H2 l k2 hp2 hl => ?_⟩
        walk_at "S"
        exact ⟨small_le (by simp), fun t ht => flat (k1.tr k2) hp2 ht (.cons (.str _) (.cons (.str _) .nil)) (.note hl)⟩
      walk_at "S"
      refine s_dec (fun h => ?_) (fun h7' => ?_)
      · walk_at "S"
        refine ⟨p, rfl, hp1, fun H2 l k2 hp2 hl => ?_⟩
        walk_at "S"
        exact ⟨small_le (by simp), fun t ht => flat (k1.tr k2) hp2 ht (.cons (.str _) (.cons (.str _) .nil)) (.fail hl)⟩
      walk_at "S"
      refine s_dec (fun h => ?_) (fun h5 => ?_)
      · walk_at "S"
        refine ⟨p, rfl, hp1, fun H2 l k2 hp2 hl => ?_⟩
        walk_at "S"
        refine ⟨p, rfl, hp2, fun H3 l3 k3 hp3 hl3 => ?_⟩
        walk_at "S"
        refine ⟨p, rfl, hp3, fun H4 l4 k4 hp4 hl4 => ?_⟩
        walk_at "S"
        exact ⟨small_le (by simp), fun t ht => flat (((k1.tr k2).tr k3).tr k4) hp4 ht (.cons (.str _) (.cons (.str _) (.cons (.str _) (.cons (.str _) .nil)))) (.draw hl hl3 hl4)⟩
      walk_at "S"
      refine s_dec (fun h => absurd h h7) (fun _ => ?_)
      walk_at "S"
      refine s_dec (fun h => ?_) (fun h0 => ?_)
      · walk_at "S"
        refine ⟨p, rfl, hp1, fun H2 l k2 hp2 hl => ?_⟩
        walk_at "S"
        refine ⟨p, rfl, hp2, fun H3 m k3 hp3 hm => ?_⟩
        walk_at "S"
        exact ⟨small_le (by simp), fun t ht => set_end _ _ _ _ ((k1.tr k2).tr k3) hp3 ht hl hm⟩
      walk_at "S"
      refine ⟨small_le (by simp), fun l hl => ?_⟩
      walk_at "S"
      have b0 : (0 : Int) ≤ v1 - 1 := by
        have : v1 ≠ 0 := fun e => h0 (by rw [e])
        omega
      have b1 : v1 - 1 < 4 := by
        have : v1 ≠ 5 := fun e => h5 (by rw [e])
        have : v1 ≠ 6 := fun e => h6 (by rw [e])
        have : v1 ≠ 7 := fun e => h7' (by rw [e])
        omega
      obtain ⟨y, hy, hm⟩ := pick (xs := [.str "now", .str "take", .str "late", .str "ask"]) b0 b1
      obtain ⟨z, rfl, hz⟩ := lead4_ok y hm
      refine s_ixL (xs := [.str "now", .str "take", .str "late", .str "ask"]) (sq_l upd_same) hy ?_
      walk_at "S"
      have npl := hp1.ne hl
      have k1' : Kp [p] H (upd H1 l (.lst [.str "now", .str "take", .str "late", .str "ask"])) := k1.upd_new hl
      refine ⟨p, rfl, hp1.upd npl, fun H2 l2 k2 hp2 hl2 => ?_⟩
      walk_at "S"
      refine ⟨p, rfl, hp2, fun H3 l3 k3 hp3 hl3 => ?_⟩
      walk_at "S"
      exact ⟨small_le (by simp), fun t ht => flat ((k1'.tr k2).tr k3) hp3 ht (.cons (.str _) (.cons (.str _) (.cons (.str _) .nil))) (.lead hz hl2 hl3)⟩
end

section
variable {P : Program} {w : World} {K : PySem.W.Frag} {mg : Str → Option Value} {base : Heap}
theorem ok_rows {d : Nat} (hd : d ≤ 3) {f : Addr} {fd : FuncData} (F : Fun K "_law_rows" "_law_rows" s_l_rows f fd) (T : Txt K mg)
    (D_l_draw : DnF P w K mg base 1 "_law_draw" ["_law_pot_here", "_law_many"] spDraw)
    (D_l_row : DnF P w K mg base (3 + 2 * d + 1) "_law_row" ["_law_pot_here", "_law_room", "_law_deep"] (spRow K d)) :
    FnOk P w K mg base CX0 (3 + 2 * d + 1 + 1) f fd ["_law_pot_here", "_law_room", "_law_deep"] (spRows K d) := by
  refine F.ok sc_l_rows (fun vs H Q E h => ?_) (fun cdv A outer s H vs Q E hr h => ?_)
  · obtain ⟨p, r, n, rfl, _⟩ := h
    rfl
  · obtain ⟨f_l_draw, fd_l_draw, G_l_draw, m_l_draw, k_l_draw, b_l_draw⟩ := D_l_draw; obtain ⟨f_l_row, fd_l_row, G_l_row, m_l_row, k_l_row, b_l_row⟩ := D_l_row
    obtain ⟨p, r, n, rfl, hp, hrm, hn, q⟩ := h
    have npr := pot_room hp hrm
    refine ⟨_, (pss_cons (ps_set (i := 3) sc_l_rows.nd rfl (Or.inl rfl) (pe_ix (ixLK (K := K) rfl) (pe_lst (pa_cons pe_int (pa_cons pe_int (pa_cons pe_int (pa_cons pe_int (pa_cons pe_int (pa_cons pe_int (pa_cons pe_int (pa_cons pe_int pa_nil))))))))) (pe_call G_l_draw (hr.mono (by first | decide | omega)) (by rfl) m_l_draw k_l_draw b_l_draw .nil pass0 (pa_cons (pv 0) (pa_cons pe_int pa_nil))) (fun _ _ => rfl)))
      (pss_cons (ps_set (i := 4) sc_l_rows.nd rfl (Or.inl rfl) (pe_lst pa_nil))
      (pss_cons (ps_for PassesOwn.never rfl (pi_range1 rfl T.n_range (pa_cons (pe_call G_l_draw (hr.mono (by first | decide | omega)) (by rfl) m_l_draw k_l_draw b_l_draw .nil pass0 (pa_cons (pv 0) (pa_cons (pv 3) pa_nil))) pa_nil)) (pg_name (i := 5) sc_l_rows.nd rfl (Or.inl rfl)) (pss_one (ps_if (pt_cmpR op_gt (pe_ix (ixLK (K := K) rfl) (pv 1) pe_int (fun _ _ => rfl)) pe_int (nomark _)) (pss_cons (ps_asg (pe_op op_sub (pe_ix (ixLK (K := K) rfl) (pv 1) pe_int (fun _ _ => rfl)) pe_int) (pg_sub (pv 1) pe_int set_list))
      (pss_one (ps_expr (kBM (K := K) rfl (pe_bm PySem.F.plainAttrs_list PySem.F.slot_list_append PySem.F.type_list_append mt_append (pv 4) (pa_cons (pe_call G_l_row (hr.mono (by first | decide | omega)) (by rfl) m_l_row k_l_row b_l_row .nil pass0 (pa_cons (pv 0) (pa_cons (pv 1) (pa_cons (pv 2) pa_nil)))) pa_nil)))))) pss_nil)))
      (pss_one (ps_ret (pe_callTy (tupleK (K := K) rfl) (by rfl) T.n_tuple (by decide +kernel) (pa_cons (pv 4) pa_nil))))))), ?_⟩
    refine st_start (σ' := [some (.ref p), some (.ref r), some (.int (3 - (d : Int))), none, none, none]) rfl ?_
    walk_at "S"
    refine ⟨small_le (by simp), fun l0 hl0 => ?_⟩
    walk_at "S"
    have np0 := hp.ne hl0
    refine ⟨p, _, rfl, hp.upd np0, by omega, by omega, fun H1 v1 k1 hp1 a0 a1 => ?_⟩
    obtain ⟨y, hy, hm⟩ := pick (xs := [.int 4, .int 4, .int 4, .int 4, .int 4, .int 9, .int 9, .int 41]) a0 a1
    obtain ⟨M, rfl, hM0, hM1⟩ := most8_ok y hm
    have k01 : Kp [p] H H1 := by walk_at "K"
    refine s_ixL (xs := [.int 4, .int 4, .int 4, .int 4, .int 4, .int 9, .int 9, .int 41]) (sq_l (k1.get ⟨np0.symm, trivial⟩ upd_same)) hy ?_
    walk_at "S"
    refine ⟨small_le (by simp), fun l hl => ?_⟩
    have npl := hp1.ne hl
    have hr1 : RoomAt H1 r n := k01.get ⟨npr.symm, trivial⟩ hrm
    have nrl := hr1.ne hl
    have hlH : H l = none := k01.free ⟨npl.symm, trivial⟩ hl
    walk_at "S"
    refine ⟨p, _, rfl, hp1.upd npl, by omega, by omega, fun H2 v2 k2 hp2 b0 b1 => ?_⟩
    walk_at "S"
    refine ⟨by omega, by omega, ?_⟩
    refine for_go walk_range (fun i σ H3 => ∃ (vs : List V) (xs : List PyData) (m : Nat) (o : Option V), σ = [some (.ref p), some (.ref r), some (.int (3 - (d : Int))), some (.int M), some (.ref l), o] ∧
        Kp [p, r] H H3 ∧ PotOk H3 p ∧ RoomAt H3 r m ∧ H3 l = some (.lst vs) ∧ DpAll K H3 vs xs ∧ (∀ x ∈ xs, OkRow d x) ∧ cnts d xs + m ≤ n)
      ⟨[], [], n, _, rfl, ((Kp.p_pr k01).upd_new hl).tr (Kp.p_pr k2), hp2, k2.get ⟨npr.symm, trivial⟩ (hr1.upd nrl), k2.get ⟨npl.symm, trivial⟩ upd_same, .nil, by simp, by unfold cnts; simp⟩
      (fun _ _ _ _ _ => trivial) (fun i x σ Ha Hb hi I y => ?_) fun σ H3 I => ?_
    · obtain ⟨rfl, rfl⟩ := y
      obtain ⟨vs, xs, m, o, rfl, k3, hp3, hr3, x3, dp3, ok3, c3⟩ := I
      have x3' := x3
      have hr3' : Hb r = some (.lst [.int m]) := hr3
      walk_at "S"
      refine s_dec (fun h => ?_) (fun h => ?_)
      · walk_at "S"
        have m1 : (m : Int) - 1 = ((m - 1 : Nat) : Int) := by omega
        have nlr : l ≠ r := nrl.symm
        have lst_r : TupK Hb (upd Hb r (.lst ([V.int (m : Int)].set 0 (.int ((m : Int) - 1))))) := .lst hr3'
        have hr4 : RoomAt (upd Hb r (.lst ([V.int (m : Int)].set 0 (.int ((m : Int) - 1))))) r (m - 1) := by
          unfold RoomAt
          rw [upd_same, m1]
          rfl
        refine ⟨p, r, m - 1, rfl, hp3.upd npr, hr4, by omega, fun H5 v x m5 k5 hp5 hr5 ok5 dp5 c5 => ?_⟩
        have x5 : H5 l = some (.lst vs) := k5.get (nin2 npl.symm nlr) ((upd_ne nlr).trans x3)
        walk_at "S"
        have flr : flatAll xs = true := flatAll_of fun y hy => (ok3 y hy).flatD
        have t5 : TupK H5 (upd H5 l (.lst (vs ++ [v]))) := .lst x5
        have dps := Dp.tupsAll t5 _ _ flr (Dp.tupsAll (TupK.two k5 (hp3.upd npr).noTup (.lst hr4)) _ _ flr (Dp.tupsAll lst_r _ _ flr dp3))
        have cl := len_le_cnts d xs
        refine s_append x5 (small_lt (by rw [DpAll.len dp3]; omega)) ?_
        refine ⟨vs ++ [v], xs ++ [x], m5, _, rfl, ?_, hp5.upd npl, hr5.upd nrl, upd_same, DpAll.snoc dps (Dp.tups t5 _ _ ok5.flatD dp5), fun y hy => ?_, ?_⟩
        · exact ((k3.upd_mem (by simp)).tr k5).upd_loc hlH
        · rcases List.mem_append.mp hy with hy | hy
          · exact ok3 y hy
          · rw [List.mem_singleton.mp hy]; exact ok5
        · rw [cnts_app, cnts_one]
          omega
      · walk_at "S"
        exact ⟨vs, xs, m, _, rfl, k3, hp3, hr3, x3, dp3, ok3, c3⟩
    · obtain ⟨vs, xs, m, o, rfl, k3, hp3, hr3, x3, dp3, ok3, c3⟩ := I
      walk_at "S"
      refine s_tupL (sq_l x3) fun t ht => ?_
      have flr : flatAll xs = true := flatAll_of fun y hy => (ok3 y hy).flatD
      exact q _ _ xs m (k3.upd_new ht) (hp3.upd (hp3.ne ht)) (hr3.upd (hr3.ne ht)) ok3 (.tup (sq_t upd_same) (Dp.tupsAll (.new ht) _ _ flr dp3)) c3
theorem dn_false {k : Nat} {x : Str} {ps : List Str} {sp sp2 : Sp} (h : DnF P w K mg base k x ps sp) (n : ∀ vs H Q E, ¬ sp2 vs H Q E) (j : Nat) : DnF P w K mg base j x ps sp2 := by
  obtain ⟨f, fd, _, m, kp, b⟩ := h
  exact ⟨f, fd, ⟨fun vs H Q E z => (n vs H Q E z).elim, fun _ _ _ _ _ _ vs Q E _ _ _ _ z => (n vs _ Q E z).elim⟩, m, kp, b⟩
/-- the drawn rows, whatever the depth -/
theorem rows_all {f_l_rows f_l_row : Addr} {fd_l_rows fd_l_row : FuncData} (F1 : Fun K "_law_rows" "_law_rows" s_l_rows f_l_rows fd_l_rows) (F2 : Fun K "_law_row" "_law_row" s_l_row f_l_row fd_l_row) (T : Txt K mg)
    (D_l_draw : DnF P w K mg base 1 "_law_draw" ["_law_pot_here", "_law_many"] spDraw)
    (D_l_name : DnF P w K mg base 2 "_law_name" ["_law_pot_here"] spName) (D_l_path : DnF P w K mg base 3 "_law_path" ["_law_pot_here"] spPath)
    (D_l_number : DnF P w K mg base 2 "_law_number" ["_law_pot_here"] spNumber) (D_l_fault_words : DnF P w K mg base 3 "_law_fault_words" ["_law_pot_here"] spWords)
    (m1 : mg "_law_rows" = some (.ref f_l_rows)) (k1 : PySem.W.keepIn K (.ref f_l_rows) = true) (b1 : Binds K fd_l_rows ["_law_pot_here", "_law_room", "_law_deep"] [])
    (m2 : mg "_law_row" = some (.ref f_l_row)) (k2 : PySem.W.keepIn K (.ref f_l_row) = true) (b2 : Binds K fd_l_row ["_law_pot_here", "_law_room", "_law_deep"] []) :
    ∀ d : Nat, d ≤ 3 → FnOk P w K mg base CX0 (3 + 2 * d + 1 + 1) f_l_rows fd_l_rows ["_law_pot_here", "_law_room", "_law_deep"] (spRows K d)
  | 0, hd => ok_rows hd F1 T D_l_draw ⟨_, _, ok_row hd F2 D_l_draw D_l_name D_l_path D_l_number D_l_fault_words
      ⟨_, _, ⟨fun _ _ _ _ z => z.elim, fun _ _ _ _ _ _ _ _ _ _ _ _ _ z => z.elim⟩, m1, k1, b1⟩, m2, k2, b2⟩
  | d + 1, hd => ok_rows hd F1 T D_l_draw ⟨_, _, ok_row hd F2 D_l_draw D_l_name D_l_path D_l_number D_l_fault_words
      ⟨_, _, rows_all F1 F2 T D_l_draw D_l_name D_l_path D_l_number D_l_fault_words m1 k1 b1 m2 k2 b2 d (by omega), m1, k1, b1⟩, m2, k2, b2⟩
end

def spIsName (K : PySem.W.Frag) : Sp := fun vs H Q _ =>
  (∃ z : Str, vs = [.str z] ∧ z.length ≤ 100010 ∧ ∀ H', Kp [] H H' → Q (.bl (isNameL (tl z))) H') ∨
  (∃ (x : V) (t : String), vs = [x] ∧ TyX K H x (.type t) ∧ kitB t "str" = some false ∧ Q (.bl false) H)
def spIsPath (K : PySem.W.Frag) : Sp := fun vs H Q _ =>
  (∃ z : Str, vs = [.str z] ∧ z.length ≤ 100000 ∧ ∀ H', Kp [] H H' → Q (.bl (isPathL (tl z))) H') ∨
  (∃ (x : V) (t : String), vs = [x] ∧ TyX K H x (.type t) ∧ kitB t "str" = some false ∧ Q (.bl false) H)
section
variable {P : Program} {w : World} {K : PySem.W.Frag} {mg : Str → Option Value} {base : Heap}
theorem ok_is_name {f : Addr} {fd : FuncData} (F : Fun K "is_name" "is_name" s_is_name f fd) (T : Txt K mg) : FnOk P w K mg base CX0 1 f fd ["thing"] (spIsName K) := by
  refine F.ok sc_is_name (fun vs H Q E h => ?_) (fun cdv A outer s H vs Q E hr h => ?_)
  · rcases h with ⟨z, rfl, _⟩ | ⟨x, t, rfl, _⟩ <;> rfl
  · obtain ⟨t_MOST_LETTERS, hc_MOST_LETTERS⟩ := T.c_MOST_LETTERS; obtain ⟨t_LETTERS, hc_LETTERS⟩ := T.c_LETTERS
    rcases h with ⟨z, rfl, hz', k⟩ | ⟨x, t, rfl, ht, hk, q⟩
    · have hz := small_le hz'
      have kz := len_tl z
      refine ⟨_, (pss_cons (ps_if (PW.pt (pw_or (pt_not (pt_val (pe_callB (isiK (K := K) rfl) (by rfl) T.n_isinstance (by decide +kernel) (pa_cons (pv 0) (pa_cons (pe_bltn (v := .ty "str") (by rfl) T.n_str (by decide +kernel) rfl) pa_nil))))) (pw_or (pt_cmpR op_lt (pe_callB lenS (by rfl) T.n_len (by decide +kernel) (pa_cons (pv 0) pa_nil)) pe_int (nomark _)) (pw_or1 (pt_cmpR op_gt (pe_callB lenS (by rfl) T.n_len (by decide +kernel) (pa_cons (pv 0) pa_nil)) (pe_glob (v := .int 8) rfl hc_MOST_LETTERS ⟨_, rfl⟩) (nomark _)))))) (pss_one (ps_ret pe_bl)) pss_nil)
      (pss_one (ps_ret (pe_callB (allK (K := K) rfl rfl) (by rfl) T.n_all (by decide +kernel) (pa_cons (pe_lc (own := [("sign", 1)]) (g := gName 1) (tt := tYes) rfl sc_is_name.nd (pi_str (pv 0)) (blkOk_by (own := [("sign", 1)]) (N := N_is_name) (sc := (defScope s_is_name)) (by decide +kernel)) (fun _ _ _ _ _ => (pg_name (i := 1) sc_is_name.nd rfl (Or.inl rfl))) (fun _ _ _ _ _ => pts_nil) (fun _ _ _ _ _ => (pe_cmpR inSg (pv 1) (pe_glob (v := .str "abcdefghijklmnopqrstuvwxyz") rfl hc_LETTERS ⟨_, rfl⟩) rfl))) pa_nil))))), ?_⟩
      refine st_start (σ' := [some (.str z), none]) rfl ?_
      walk_at "S"
      refine isi_ty (.base (.str z)) (b := true) (by decide +kernel) ?_
      walk_at "S"
      have e0 : isNameL (tl z) = (decide (1 ≤ z.length) && decide (z.length ≤ 8) && (tl z).all fun c => decide (c ∈ lets)) := by
        unfold isNameL
        rw [kz]
      rw [e0] at k
      refine s_dec (fun h1 => ?_) (fun h1 => ?_)
      · walk_at "S"
        rw [decide_eq_false (p := 1 ≤ z.length) (by omega)] at k
        exact k _ Kp.refl
      walk_at "S"
      refine s_dec (fun h2 => ?_) (fun h2 => ?_)
      · walk_at "S"
        rw [decide_eq_false (p := z.length ≤ 8) (by omega), Bool.and_false] at k
        exact k _ Kp.refl
      walk_at "S"
      intro D hD
      have L : LcOk D z.cps.size (fun i => (((tl z).map fun c => decide (c ∈ lets)).take i).map V.bl) [] H (fun _ _ => True) :=
        ⟨by have := hz; unfold Str.length at this; exact this, rfl, fun i hi => by rw [List.length_map, List.length_take]; omega, hD, trivial, fun _ _ _ h => h⟩
      refine lc_go walk_str L trivial (fun _ _ => trivial) (fun i x H2 H' hi I y => ?_) fun H2 I => ?_
      · obtain ⟨rfl, c, hc, rfl⟩ := y
        walk_at "S"
        refine ⟨rfl, ?_⟩
        walk_at "S"
        refine I.put L hi ?_ Kp.refl trivial
        have e1 : ((tl z).map fun c => decide (c ∈ lets))[i]? = some (decide (c ∈ lets)) := by
          rw [List.getElem?_map, show (tl z)[i]? = some c by simpa using hc]
          rfl
        show List.map V.bl (List.take (i + 1) _) = _
        rw [take_put e1, List.map_append]
        rfl
      · obtain ⟨p1, p2, _⟩ := I
        walk_at "S"
        refine s_all (sq_l p1) ?_
        rw [decide_eq_true (p := 1 ≤ z.length) (by omega), decide_eq_true (p := z.length ≤ 8) (by omega)] at k
        rw [List.take_of_length_le (by simp), List.all_map]
        exact k _ p2
    · refine ⟨_, (pss_cons (ps_if (PW.pt (pw_or (pt_not (pt_val (pe_callB (isiK (K := K) rfl) (by rfl) T.n_isinstance (by decide +kernel) (pa_cons (pv 0) (pa_cons (pe_bltn (v := .ty "str") (by rfl) T.n_str (by decide +kernel) rfl) pa_nil))))) (pw_or (pt_cmpR op_lt (pe_callB lenS (by rfl) T.n_len (by decide +kernel) (pa_cons (pv 0) pa_nil)) pe_int (nomark _)) (pw_or1 (pt_cmpR op_gt (pe_callB lenS (by rfl) T.n_len (by decide +kernel) (pa_cons (pv 0) pa_nil)) (pe_glob (v := .int 8) rfl hc_MOST_LETTERS ⟨_, rfl⟩) (nomark _)))))) (pss_one (ps_ret pe_bl)) pss_nil)
      (pss_one (ps_ret (pe_callB (allK (K := K) rfl rfl) (by rfl) T.n_all (by decide +kernel) (pa_cons (pe_lc (own := [("sign", 1)]) (g := gName 1) (tt := tYes) rfl sc_is_name.nd (pi_str (pv 0)) (blkOk_by (own := [("sign", 1)]) (N := N_is_name) (sc := (defScope s_is_name)) (by decide +kernel)) (fun _ _ _ _ _ => (pg_name (i := 1) sc_is_name.nd rfl (Or.inl rfl))) (fun _ _ _ _ _ => pts_nil) (fun _ _ _ _ _ => (pe_cmpR inSg (pv 1) (pe_glob (v := .str "abcdefghijklmnopqrstuvwxyz") rfl hc_LETTERS ⟨_, rfl⟩) rfl))) pa_nil))))), ?_⟩
      refine st_start (σ' := [some x, none]) rfl ?_
      walk_at "S"
      refine isi_ty ht hk ?_
      walk_at "S"
      exact q
theorem ok_is_path {f : Addr} {fd : FuncData} (F : Fun K "is_path" "is_path" s_is_path f fd) (T : Txt K mg)
    (D_is_name : DnF P w K mg base 1 "is_name" ["thing"] (spIsName K)) : FnOk P w K mg base CX0 2 f fd ["thing"] (spIsPath K) := by
  refine F.ok sc_is_path (fun vs H Q E h => ?_) (fun cdv A outer s H vs Q E hr h => ?_)
  · rcases h with ⟨z, rfl, _⟩ | ⟨x, t, rfl, _⟩ <;> rfl
  · obtain ⟨f_is_name, fd_is_name, G_is_name, m_is_name, k_is_name, b_is_name⟩ := D_is_name; obtain ⟨t_DOT, hc_DOT⟩ := T.c_DOT; obtain ⟨t_MOST_NAMES, hc_MOST_NAMES⟩ := T.c_MOST_NAMES
    rcases h with ⟨z, rfl, hz, k⟩ | ⟨x, t, rfl, ht, hk, q⟩
    · have hzl : (tl z).length ≤ 100000 := by rw [← len_tl]; exact hz
      have hwl := wds_length (tl z) []
      refine ⟨_, (pss_cons (ps_if (pt_not (pt_val (pe_callB (isiK (K := K) rfl) (by rfl) T.n_isinstance (by decide +kernel) (pa_cons (pv 0) (pa_cons (pe_bltn (v := .ty "str") (by rfl) T.n_str (by decide +kernel) rfl) pa_nil))))) (pss_one (ps_ret pe_bl)) pss_nil)
      (pss_cons (ps_set (i := 1) sc_is_path.nd rfl (Or.inl rfl) (pe_m1 PySem.F.slot_str_split PySem.F.type_str_split splitR (pv 0) (pe_glob (v := .str ".") rfl hc_DOT ⟨_, rfl⟩)))
      (pss_one (ps_ret (pe_and (pe_cmpR op_le (pe_callB (lenK (K := K) rfl) (by rfl) T.n_len (by decide +kernel) (pa_cons (pv 1) pa_nil)) (pe_glob (v := .int 4) rfl hc_MOST_NAMES ⟨_, rfl⟩) (nomark _)) (pe_one (pe_callB (allK (K := K) rfl rfl) (by rfl) T.n_all (by decide +kernel) (pa_cons (pe_lc (own := [("name", 2)]) (g := gName 2) (tt := tYes) rfl sc_is_path.nd (kiL (K := K) rfl (pi_list (pv 1))) (blkOk_by (own := [("name", 2)]) (N := N_is_path) (sc := (defScope s_is_path)) (by decide +kernel)) (fun _ _ _ _ _ => (pg_name (i := 2) sc_is_path.nd rfl (Or.inl rfl))) (fun _ _ _ _ _ => pts_nil) (fun _ _ _ _ _ => (pe_call G_is_name (hr.mono (by first | decide | omega)) (by rfl) m_is_name k_is_name b_is_name .nil pass0 (pa_cons (pv 2) pa_nil)))) pa_nil)))))))), ?_⟩
      refine st_start (σ' := [some (.str z), none, none]) rfl ?_
      walk_at "S"
      refine isi_ty (.base (.str z)) (b := true) (by decide +kernel) ?_
      walk_at "S"
      refine s_splitS (by decide +kernel) (small_le (by omega)) fun a ha => ?_
      rw [split_dot]
      walk_at "S"
      generalize hN : wds [] (tl z) = ws at *
      have el : (((ws.map mkS).map V.str).length : Int) = (ws.length : Int) := by simp
      rw [el]
      have ep : isPathL (tl z) = (decide ((ws.length : Int) ≤ 4) && ws.all isNameL) := by
        unfold isPathL
        rw [hN]
        congr 1
        exact decide_eq_decide.mpr (by omega)
      rw [ep] at k
      by_cases h4 : (ws.length : Int) ≤ 4
      · rw [decide_eq_true h4] at k ⊢
        walk_at "S"
        refine ⟨⟨_, sq_l upd_same⟩, fun D hD => ?_⟩
        have na : a ≠ D := ne_of_none upd_same hD
        have L : LcOk D ((ws.map mkS).map V.str).length (fun i => ((ws.map isNameL).map V.bl).take i) [] (upd H a (.lst ((ws.map mkS).map V.str))) (fun _ _ => True) :=
          .ofTake (by simp; exact small_le (by omega)) hD trivial (fun _ _ _ h => h)
        refine lc_go (walk_list (K := K) (a := a) (xs := (ws.map mkS).map V.str)) L trivial (fun H2 k2 => k2.seqL trivial (sq_l upd_same)) (fun i x H2 H' hi I y => ?_) fun H2 I => ?_
        · obtain ⟨rfl, hx⟩ := y
          rw [List.getElem?_map, List.getElem?_map] at hx
          obtain ⟨p, hp, rfl⟩ : ∃ p, ws[i]? = some p ∧ x = V.str (mkS p) := by
            cases e : ws[i]? with
            | none => rw [e] at hx; cases hx
            | some p => rw [e] at hx; exact ⟨p, rfl, (Option.some.inj hx).symm⟩
          walk_at "S"
          refine ⟨rfl, ?_⟩
          walk_at "S"
          refine .inl ⟨mkS p, rfl, ?_, fun H3 K3 => ?_⟩
          · have := wds_mem (tl z) [] p (by rw [hN]; exact List.mem_of_getElem? hp)
            rw [mkS_len]
            rw [List.length_nil] at this
            omega
          · rw [tl_mkS]
            refine I.put L hi (take_put ?_) K3 trivial
            rw [List.getElem?_map, List.getElem?_map, hp]
            rfl
        · obtain ⟨p1, p2, _⟩ := I
          walk_at "S"
          dsimp only at p1
          rw [List.take_of_length_le (by simp)] at p1
          refine s_all (bs := ws.map isNameL) (sq_l p1) ?_
          rw [List.all_map]
          exact k H2 (by walk_at "K")
      · rw [decide_eq_false h4] at k ⊢
        walk_at "S"
        exact k _ (Kp.refl.upd_new ha)
    · refine ⟨_, (pss_cons (ps_if (pt_not (pt_val (pe_callB (isiK (K := K) rfl) (by rfl) T.n_isinstance (by decide +kernel) (pa_cons (pv 0) (pa_cons (pe_bltn (v := .ty "str") (by rfl) T.n_str (by decide +kernel) rfl) pa_nil))))) (pss_one (ps_ret pe_bl)) pss_nil)
      (pss_cons (ps_set (i := 1) sc_is_path.nd rfl (Or.inl rfl) (pe_m1 PySem.F.slot_str_split PySem.F.type_str_split splitR (pv 0) (pe_glob (v := .str ".") rfl hc_DOT ⟨_, rfl⟩)))
      (pss_one (ps_ret (pe_and (pe_cmpR op_le (pe_callB (lenK (K := K) rfl) (by rfl) T.n_len (by decide +kernel) (pa_cons (pv 1) pa_nil)) (pe_glob (v := .int 4) rfl hc_MOST_NAMES ⟨_, rfl⟩) (nomark _)) (pe_one (pe_callB (allK (K := K) rfl rfl) (by rfl) T.n_all (by decide +kernel) (pa_cons (pe_lc (own := [("name", 2)]) (g := gName 2) (tt := tYes) rfl sc_is_path.nd (kiL (K := K) rfl (pi_list (pv 1))) (blkOk_by (own := [("name", 2)]) (N := N_is_path) (sc := (defScope s_is_path)) (by decide +kernel)) (fun _ _ _ _ _ => (pg_name (i := 2) sc_is_path.nd rfl (Or.inl rfl))) (fun _ _ _ _ _ => pts_nil) (fun _ _ _ _ _ => (pe_call G_is_name (hr.mono (by first | decide | omega)) (by rfl) m_is_name k_is_name b_is_name .nil pass0 (pa_cons (pv 2) pa_nil)))) pa_nil)))))))), ?_⟩
      refine st_start (σ' := [some x, none, none]) rfl ?_
      walk_at "S"
      refine isi_ty ht hk ?_
      walk_at "S"
      exact q
end

def spIsWhole (K : PySem.W.Frag) : Sp := fun vs H Q _ => ∃ (v : V) (d : PyData), vs = [v] ∧ Dp K H v d ∧ Part d ∧ Q (.bl (isWholeX d)) H
def spIsWord : Sp := fun vs H Q _ => ∃ z : Str, vs = [.str z] ∧ z.length ≤ 100000 ∧ ∀ H', Kp [] H H' → Q (.bl (isWordS z)) H'
theorem name_arg {K : PySem.W.Frag} {H : Hp} {v : V} {d : PyData} {Q : VK} {E : XK} (h : Dp K H v d) (p : Part d) (q : ∀ H', Kp [] H H' → Q (.bl (isNameX d)) H') : spIsName K [v] H Q E := by
  cases p with
  | non => cases h; exact .inr ⟨_, "NoneType", rfl, .base .non, by decide +kernel, q _ Kp.refl⟩
  | int n => cases h; exact .inr ⟨_, "int", rfl, .base (.int _), by decide +kernel, q _ Kp.refl⟩
  | str l => cases h; exact .inl ⟨_, rfl, Nat.le_trans l (by decide), q⟩
theorem path_arg {K : PySem.W.Frag} {H : Hp} {v : V} {d : PyData} {Q : VK} {E : XK} (h : Dp K H v d) (p : Part d) (q : ∀ H', Kp [] H H' → Q (.bl (isPathX d)) H') : spIsPath K [v] H Q E := by
  cases p with
  | non => cases h; exact .inr ⟨_, "NoneType", rfl, .base .non, by decide +kernel, q _ Kp.refl⟩
  | int n => cases h; exact .inr ⟨_, "int", rfl, .base (.int _), by decide +kernel, q _ Kp.refl⟩
  | str l => cases h; exact .inl ⟨_, rfl, l, q⟩
section
variable {P : Program} {w : World} {K : PySem.W.Frag} {mg : Str → Option Value} {base : Heap}
theorem ok_is_whole {f : Addr} {fd : FuncData} (F : Fun K "is_whole" "is_whole" s_is_whole f fd) (T : Txt K mg) : FnOk P w K mg base CX0 1 f fd ["thing"] (spIsWhole K) := by
  refine F.ok sc_is_whole (fun vs H Q E h => ?_) (fun cdv A outer s H vs Q E hr h => ?_)
  · obtain ⟨v, d, rfl, _⟩ := h
    rfl
  · obtain ⟨v, d, rfl, hd, hp, q⟩ := h
    refine ⟨_, (pss_one (ps_ret (pe_and (pe_callB (isiK (K := K) rfl) (by rfl) T.n_isinstance (by decide +kernel) (pa_cons (pv 0) (pa_cons (pe_bltn (v := .ty "int") (by rfl) T.n_int (by decide +kernel) rfl) pa_nil))) (pe_one (pe_not (pe_callB (isiK (K := K) rfl) (by rfl) T.n_isinstance (by decide +kernel) (pa_cons (pv 0) (pa_cons (pe_bltn (v := .ty "bool") (by rfl) T.n_bool (by decide +kernel) rfl) pa_nil)))))))), ?_⟩
    refine st_start (σ' := [some v]) rfl ?_
    cases hp with
    | non =>
      cases hd
      walk_at "S"
      refine isi_ty (.base .non) (b := false) (by decide +kernel) ?_
      walk_at "S"
      exact q
    | int n =>
      cases hd
      walk_at "S"
      refine isi_ty (.base (.int _)) (b := true) (by decide +kernel) ?_
      walk_at "S"
      refine isi_ty (.base (.int _)) (b := false) (by decide +kernel) ?_
      walk_at "S"
      exact q
    | str l =>
      cases hd
      walk_at "S"
      refine isi_ty (.base (.str _)) (b := false) (by decide +kernel) ?_
      walk_at "S"
      exact q
theorem ok_is_word {f : Addr} {fd : FuncData} (F : Fun K "is_word" "is_word" s_is_word f fd) (T : Txt K mg)
    (D_is_name : DnF P w K mg base 1 "is_name" ["thing"] (spIsName K)) : FnOk P w K mg base CX0 2 f fd ["thing"] spIsWord := by
  refine F.ok sc_is_word (fun vs H Q E h => ?_) (fun cdv A outer s H vs Q E hr h => ?_)
  · obtain ⟨z, rfl, _⟩ := h
    rfl
  · obtain ⟨f_is_name, fd_is_name, G_is_name, m_is_name, k_is_name, b_is_name⟩ := D_is_name; obtain ⟨a_FAULT_WORDS, hc_FAULT_WORDS, sq_FAULT_WORDS⟩ := T.c_FAULT_WORDS
    obtain ⟨z, rfl, hz, q⟩ := h
    refine ⟨_, (pss_one (ps_ret (pe_or (pe_call G_is_name (hr.mono (by first | decide | omega)) (by rfl) m_is_name k_is_name b_is_name .nil pass0 (pa_cons (pv 0) pa_nil)) (pe_one (pe_and (pe_callB (isiK (K := K) rfl) (by rfl) T.n_isinstance (by decide +kernel) (pa_cons (pv 0) (pa_cons (pe_bltn (v := .ty "str") (by rfl) T.n_str (by decide +kernel) rfl) pa_nil))) (pe_one (pe_cmpR (inK (K := K) rfl) (pv 0) (pe_glob (v := .ref a_FAULT_WORDS) rfl hc_FAULT_WORDS rfl) (by rfl)))))))), ?_⟩
    refine st_start (σ' := [some (.str z)]) rfl ?_
    walk_at "S"
    refine .inl ⟨z, rfl, by omega, fun H1 k1 => ?_⟩
    have qq := q H1 k1
    unfold isWordS at qq
    walk_at "S"
    refine s_bool (fun h1 => ?_) (fun h1 => ?_)
    · rw [h1, Bool.true_or] at qq
      exact qq
    · rw [h1, Bool.false_or] at qq
      walk_at "S"
      refine isi_ty (.base (.str z)) (b := true) (by decide +kernel) ?_
      walk_at "S"
      refine ⟨_, faultW.map V.str, rfl, .inr (sq_FAULT_WORDS H1), rfl, flatV_strs _, ?_⟩
      rw [inV_strs]
      walk_at "S"
      exact qq
end

theorem dpAll_strs_inv {K : PySem.W.Frag} {H : Hp} : ∀ {ws : List Str} {vs : List V}, DpAll K H vs (ws.map PyData.str) → vs = ws.map V.str
  | [], _, .nil => rfl
  | z :: ws, _, .cons h t => by
    cases h
    rw [dpAll_strs_inv t]
    rfl
theorem areWordsX_strs (ws : List Str) : areWordsX (.tuple (ws.map .str)) = (ws.all isWordS && decide ws.Nodup) := by
  have e : ∀ (f : Str → Str), (∀ z, f z = z) → ws.map f = ws := fun f h => (List.map_congr_left fun z _ => h z).trans (List.map_id' ws)
  have g := e ((fun d : PyData => match d with | .str z => z | _ => Str.empty) ∘ PyData.str) fun _ => rfl
  unfold areWordsX
  dsimp only
  rw [List.all_map, List.map_map]
  refine congr (congrArg _ rfl) (decide_eq_decide.mpr ?_)
  exact Iff.of_eq (congrArg List.Nodup g)
def spAreWords (K : PySem.W.Frag) : Sp := fun vs H Q _ =>
  (∃ (v : V) (ws : List Str), vs = [v] ∧ Dp K H v (.tuple (ws.map .str)) ∧ (∀ z ∈ ws, z.length ≤ 100000) ∧ ws.length ≤ 100 ∧ ∀ H', Kp [] H H' → Q (.bl (areWordsX (.tuple (ws.map .str)))) H') ∨
  (∃ (x : V) (t : String), vs = [x] ∧ TyX K H x (.type t) ∧ kitB t "tuple" = some false ∧ Q (.bl false) H)
section
variable {P : Program} {w : World} {K : PySem.W.Frag} {mg : Str → Option Value} {base : Heap}
theorem ok_are_words {f : Addr} {fd : FuncData} (F : Fun K "are_words" "are_words" s_are_words f fd) (T : Txt K mg)
    (D_is_word : DnF P w K mg base 2 "is_word" ["thing"] spIsWord) : FnOk P w K mg base CX0 3 f fd ["thing"] (spAreWords K) := by
  refine F.ok sc_are_words (fun vs H Q E h => ?_) (fun cdv A outer s H vs Q E hr h => ?_)
  · rcases h with ⟨v, ws, rfl, _⟩ | ⟨x, t, rfl, _⟩ <;> rfl
  · obtain ⟨f_is_word, fd_is_word, G_is_word, m_is_word, k_is_word, b_is_word⟩ := D_is_word
    rcases h with ⟨v, ws, rfl, hd, hz, hl, q⟩ | ⟨x, t, rfl, ht, hk, q⟩
    · have ty : TyX K H v (.type "tuple") := Dp.ty hd
      cases hd with
      | tup hs ha =>
        rename_i a vs
        obtain rfl := dpAll_strs_inv ha
        rw [areWordsX_strs] at q
        refine ⟨_, (pss_cons (ps_if (PW.pt (pw_or (pt_not (pt_val (pe_callB (isiK (K := K) rfl) (by rfl) T.n_isinstance (by decide +kernel) (pa_cons (pv 0) (pa_cons (pe_bltn (v := .ty "tuple") (by rfl) T.n_tuple (by decide +kernel) rfl) pa_nil))))) (pw_or1 (pt_not (pt_val (pe_callB (allK (K := K) rfl rfl) (by rfl) T.n_all (by decide +kernel) (pa_cons (pe_lc (own := [("word", 1)]) (g := gName 1) (tt := tYes) rfl sc_are_words.nd (kiT (K := K) rfl (pi_tup (pv 0))) (blkOk_by (own := [("word", 1)]) (N := N_are_words) (sc := (defScope s_are_words)) (by decide +kernel)) (fun _ _ _ _ _ => (pg_name (i := 1) sc_are_words.nd rfl (Or.inl rfl))) (fun _ _ _ _ _ => pts_nil) (fun _ _ _ _ _ => (pe_call G_is_word (hr.mono (by first | decide | omega)) (by rfl) m_is_word k_is_word b_is_word .nil pass0 (pa_cons (pv 1) pa_nil)))) pa_nil))))))) (pss_one (ps_ret pe_bl)) pss_nil)
      (pss_one (ps_ret (pe_cmpR op_eq (pe_lenSetT (K := K) rfl rfl (by rfl) T.n_len (by rfl) T.n_set (pv 0)) (pe_callB (lenK (K := K) rfl) (by rfl) T.n_len (by decide +kernel) (pa_cons (pv 0) pa_nil)) (nomark _))))), ?_⟩
        refine st_start (σ' := [some (.ref a), none]) rfl ?_
        walk_at "S"
        refine isi_ty ty (b := true) (by decide +kernel) ?_
        walk_at "S"
        refine ⟨⟨_, hs⟩, fun D hD => ?_⟩
        have L : LcOk D (ws.map V.str).length (fun i => ((ws.map isWordS).map V.bl).take i) [] H (fun _ _ => True) :=
          .ofTake (by rw [List.length_map]; exact small_le (by omega)) hD trivial (fun _ _ _ h => h)
        refine lc_go (walk_tup (K := K) (a := a) (xs := ws.map V.str)) L trivial (fun H2 k2 => k2.seqT trivial hs) (fun i x H2 H' hi I y => ?_) fun H2 I => ?_
        · obtain ⟨rfl, hx⟩ := y
          rw [List.getElem?_map] at hx
          obtain ⟨p, hp, rfl⟩ : ∃ p, ws[i]? = some p ∧ x = V.str p := by
            cases e : ws[i]? with
            | none => rw [e] at hx; cases hx
            | some p => rw [e] at hx; exact ⟨p, rfl, (Option.some.inj hx).symm⟩
          walk_at "S"
          refine ⟨rfl, ?_⟩
          walk_at "S"
          refine ⟨p, rfl, hz p (List.mem_of_getElem? hp), fun H3 K3 => ?_⟩
          refine I.put L hi (take_put ?_) K3 trivial
          rw [List.getElem?_map, List.getElem?_map, hp]
          rfl
        · obtain ⟨p1, p2, _⟩ := I
          dsimp only at p1
          rw [List.take_of_length_le (by simp)] at p1
          walk_at "S"
          refine s_all (bs := ws.map isWordS) (sq_l p1) ?_
          rw [List.all_map]
          have qq := q H2 p2
          walk_at "S"
          by_cases hw : ws.all isWordS = true
          · rw [show ws.all (id ∘ isWordS) = true from hw]
            rw [hw, Bool.true_and] at qq
            walk_at "S"
            refine s_lenSet ?_
            walk_at "S"
            refine ⟨a, ws, rfl, p2.seqT trivial hs, hl, ?_⟩
            walk_at "S"
            refine s_lenT (p2.seqT trivial hs) ?_
            walk_at "S"
            rw [List.length_map]
            have e : decide (V.int (unlike ws ws.length : Nat) = V.int (ws.length : Nat)) = decide ws.Nodup := decide_eq_decide.mpr (by
              have u := unlike_all ws ws.length (Nat.le_refl _)
              rw [List.take_of_length_le (Nat.le_refl _)] at u
              rw [← u]
              exact ⟨fun z => by have := V.int.inj z; omega, fun z => by rw [z]⟩)
            rw [e]
            exact qq
          · rw [show ws.all (id ∘ isWordS) = false from Bool.eq_false_iff.mpr hw]
            rw [Bool.eq_false_iff.mpr hw, Bool.false_and] at qq
            walk_at "S"
            exact qq
    · refine ⟨_, (pss_cons (ps_if (PW.pt (pw_or (pt_not (pt_val (pe_callB (isiK (K := K) rfl) (by rfl) T.n_isinstance (by decide +kernel) (pa_cons (pv 0) (pa_cons (pe_bltn (v := .ty "tuple") (by rfl) T.n_tuple (by decide +kernel) rfl) pa_nil))))) (pw_or1 (pt_not (pt_val (pe_callB (allK (K := K) rfl rfl) (by rfl) T.n_all (by decide +kernel) (pa_cons (pe_lc (own := [("word", 1)]) (g := gName 1) (tt := tYes) rfl sc_are_words.nd (kiT (K := K) rfl (pi_tup (pv 0))) (blkOk_by (own := [("word", 1)]) (N := N_are_words) (sc := (defScope s_are_words)) (by decide +kernel)) (fun _ _ _ _ _ => (pg_name (i := 1) sc_are_words.nd rfl (Or.inl rfl))) (fun _ _ _ _ _ => pts_nil) (fun _ _ _ _ _ => (pe_call G_is_word (hr.mono (by first | decide | omega)) (by rfl) m_is_word k_is_word b_is_word .nil pass0 (pa_cons (pv 1) pa_nil)))) pa_nil))))))) (pss_one (ps_ret pe_bl)) pss_nil)
      (pss_one (ps_ret (pe_cmpR op_eq (pe_lenSetT (K := K) rfl rfl (by rfl) T.n_len (by rfl) T.n_set (pv 0)) (pe_callB (lenK (K := K) rfl) (by rfl) T.n_len (by decide +kernel) (pa_cons (pv 0) pa_nil)) (nomark _))))), ?_⟩
      refine st_start (σ' := [some x, none]) rfl ?_
      walk_at "S"
      refine isi_ty ht hk ?_
      walk_at "S"
      exact q
end

def spIsBare (K : PySem.W.Frag) : Sp := fun vs H Q _ => ∃ (v : V) (z : Str) (ds : List PyData), vs = [v] ∧ Dp K H v (.tuple (.str z :: ds)) ∧ (∀ d ∈ ds, Part d) ∧ ds.length ≤ 100000 ∧ ∀ H', Kp [] H H' → Q (.bl (isBareX z ds)) H'
theorem dpAll_nth {K : PySem.W.Frag} {H : Hp} : ∀ {vs : List V} {ds : List PyData}, DpAll K H vs ds → ∀ k, k < ds.length → ∃ v, vs[k]? = some v ∧ Dp K H v (nth ds k) ∧ nth ds k ∈ ds
  | _, _, .nil, k, h => absurd h (Nat.not_lt_zero _)
  | _, _, .cons a b, 0, _ => ⟨_, rfl, a, List.mem_cons_self⟩
  | _, _, .cons a b, k + 1, h => by
    obtain ⟨v, e, d, m⟩ := dpAll_nth b k (Nat.lt_of_succ_lt_succ h)
    exact ⟨v, e, d, List.mem_cons_of_mem _ m⟩
section
variable {P : Program} {w : World} {K : PySem.W.Frag} {mg : Str → Option Value} {base : Heap}
theorem ok_is_bare {f : Addr} {fd : FuncData} (F : Fun K "is_bare" "is_bare" s_is_bare f fd) (T : Txt K mg)
    (D_is_name : DnF P w K mg base 1 "is_name" ["thing"] (spIsName K)) (D_is_path : DnF P w K mg base 2 "is_path" ["thing"] (spIsPath K))
    (D_is_whole : DnF P w K mg base 1 "is_whole" ["thing"] (spIsWhole K)) : FnOk P w K mg base CX0 3 f fd ["row"] (spIsBare K) := by
  refine F.ok sc_is_bare (fun vs H Q E h => ?_) (fun cdv A outer s H vs Q E hr h => ?_)
  · obtain ⟨v, z, ds, rfl, _⟩ := h
    rfl
  · obtain ⟨f_is_path, fd_is_path, G_is_path, m_is_path, k_is_path, b_is_path⟩ := D_is_path; obtain ⟨f_is_name, fd_is_name, G_is_name, m_is_name, k_is_name, b_is_name⟩ := D_is_name; obtain ⟨f_is_whole, fd_is_whole, G_is_whole, m_is_whole, k_is_whole, b_is_whole⟩ := D_is_whole; obtain ⟨a_LEADING, hc_LEADING, sq_LEADING⟩ := T.c_LEADING
    obtain ⟨v, z, ds, rfl, hd, hp, hl, q⟩ := h
    cases hd with
    | tup hs ha =>
      rename_i a vs
      cases ha with
      | cons h0 ht =>
        rename_i v0 vt
        cases h0
        have el : vt.length = ds.length := DpAll.len ht
        have at_ : ∀ k, k < ds.length → ∃ v, atI (V.str z :: vt) ((k + 1 : Nat) : Int) = some v ∧ Dp K H v (nth ds k) ∧ Part (nth ds k) := fun k hk => by
          obtain ⟨v, e, d, m⟩ := dpAll_nth ht k hk
          exact ⟨v, atI_nat e, d, hp _ m⟩
        have q0 := q H Kp.refl
        refine ⟨_, (pss_cons (ps_set (i := 1) sc_is_bare.nd rfl (Or.inl rfl) (pe_ix (ixTK (K := K) rfl) (pv 0) pe_int (fun _ _ => rfl)))
      (pss_cons (ps_if (pt_cmpR op_eq (pv 1) pe_str (nomark _)) (pss_one (ps_ret (pe_and (pe_cmpR op_eq (pe_callB (lenK (K := K) rfl) (by rfl) T.n_len (by decide +kernel) (pa_cons (pv 0) pa_nil)) pe_int (nomark _)) (pe_one (pe_call G_is_path (hr.mono (by first | decide | omega)) (by rfl) m_is_path k_is_path b_is_path .nil pass0 (pa_cons (pe_ix (ixTK (K := K) rfl) (pv 0) pe_int (fun _ _ => rfl)) pa_nil)))))) pss_nil)
      (pss_cons (ps_if (pt_cmpR op_eq (pv 1) pe_str (nomark _)) (pss_one (ps_ret (pe_and (pe_cmpR op_eq (pe_callB (lenK (K := K) rfl) (by rfl) T.n_len (by decide +kernel) (pa_cons (pv 0) pa_nil)) pe_int (nomark _)) (pe_one (pe_call G_is_name (hr.mono (by first | decide | omega)) (by rfl) m_is_name k_is_name b_is_name .nil pass0 (pa_cons (pe_ix (ixTK (K := K) rfl) (pv 0) pe_int (fun _ _ => rfl)) pa_nil)))))) pss_nil)
      (pss_cons (ps_if (PW.pt (pw_or (pt_cmpR op_lt (pe_callB (lenK (K := K) rfl) (by rfl) T.n_len (by decide +kernel) (pa_cons (pv 0) pa_nil)) pe_int (nomark _)) (pw_or1 (pt_not (pt_val (pe_call G_is_name (hr.mono (by first | decide | omega)) (by rfl) m_is_name k_is_name b_is_name .nil pass0 (pa_cons (pe_ix (ixTK (K := K) rfl) (pv 0) pe_int (fun _ _ => rfl)) pa_nil))))))) (pss_one (ps_ret pe_bl)) pss_nil)
      (pss_cons (ps_if (pt_cmpR op_eq (pv 1) pe_str (nomark _)) (pss_one (ps_ret (pe_and (pe_cmpR op_eq (pe_callB (lenK (K := K) rfl) (by rfl) T.n_len (by decide +kernel) (pa_cons (pv 0) pa_nil)) pe_int (nomark _)) (pe_one (pe_call G_is_whole (hr.mono (by first | decide | omega)) (by rfl) m_is_whole k_is_whole b_is_whole .nil pass0 (pa_cons (pe_ix (ixTK (K := K) rfl) (pv 0) pe_int (fun _ _ => rfl)) pa_nil)))))) pss_nil)
      (pss_cons (ps_if (pt_cmpR op_eq (pv 1) pe_str (nomark _)) (pss_one (ps_ret (pe_and (pe_cmpR op_eq (pe_callB (lenK (K := K) rfl) (by rfl) T.n_len (by decide +kernel) (pa_cons (pv 0) pa_nil)) pe_int (nomark _)) (pe_and (pe_call G_is_path (hr.mono (by first | decide | omega)) (by rfl) m_is_path k_is_path b_is_path .nil pass0 (pa_cons (pe_ix (ixTK (K := K) rfl) (pv 0) pe_int (fun _ _ => rfl)) pa_nil)) (pe_one (pe_call G_is_name (hr.mono (by first | decide | omega)) (by rfl) m_is_name k_is_name b_is_name .nil pass0 (pa_cons (pe_ix (ixTK (K := K) rfl) (pv 0) pe_int (fun _ _ => rfl)) pa_nil))))))) pss_nil)
      (pss_one (ps_ret (pe_and (pe_cmpR (inK (K := K) rfl) (pv 1) (pe_glob (v := .ref a_LEADING) rfl hc_LEADING rfl) (by rfl)) (pe_and (pe_cmpR op_eq (pe_callB (lenK (K := K) rfl) (by rfl) T.n_len (by decide +kernel) (pa_cons (pv 0) pa_nil)) pe_int (nomark _)) (pe_one (pe_call G_is_path (hr.mono (by first | decide | omega)) (by rfl) m_is_path k_is_path b_is_path .nil pass0 (pa_cons (pe_ix (ixTK (K := K) rfl) (pv 0) pe_int (fun _ _ => rfl)) pa_nil))))))))))))), ?_⟩
        refine st_start (σ' := [some (.ref a), none]) rfl ?_
        have e0 : atI (V.str z :: vt) ((0 : Nat) : Int) = some (.str z) := atI_nat rfl
        walk_at "S"
        refine s_ixT hs e0 ?_
        walk_at "S"
        refine s_dec (fun h1 => ?_) (fun h1 => ?_)
        · have e1 := V.str.inj h1
          subst e1
          unfold isBareX at q q0
          rw [if_pos rfl] at q0
          walk_at "S"
          refine s_dec (fun h2 => ?_) (fun h2 => ?_)
          · have h2' : ds.length = 1 := by have := V.int.inj h2; rw [List.length_cons, el] at this; omega
            obtain ⟨v, e, d, pt⟩ := at_ 0 (by omega)
            walk_at "S"
            refine s_ixT hs e ?_
            walk_at "S"
            refine path_arg d pt fun H1 k1 => ?_
            have q1 := q H1 k1
            rw [if_pos rfl, decide_eq_true h2', Bool.true_and] at q1
            exact q1
          · have h2' : ¬ ds.length = 1 := fun z => h2 (by rw [List.length_cons, el, z]; rfl)
            rw [decide_eq_false h2', Bool.false_and] at q0
            exact q0
        have n1 : z ≠ "note" := fun e => h1 (by rw [e])
        walk_at "S"
        refine s_dec (fun h2 => ?_) (fun h2 => ?_)
        · have e1 := V.str.inj h2
          subst e1
          unfold isBareX at q q0
          rw [if_neg n1, if_pos rfl] at q0
          walk_at "S"
          refine s_dec (fun h2 => ?_) (fun h2 => ?_)
          · have h2' : ds.length = 1 := by have := V.int.inj h2; rw [List.length_cons, el] at this; omega
            obtain ⟨v, e, d, pt⟩ := at_ 0 (by omega)
            walk_at "S"
            refine s_ixT hs e ?_
            walk_at "S"
            refine name_arg d pt fun H1 k1 => ?_
            have q1 := q H1 k1
            rw [if_neg n1, if_pos rfl, decide_eq_true h2', Bool.true_and] at q1
            exact q1
          · have h2' : ¬ ds.length = 1 := fun z => h2 (by rw [List.length_cons, el, z]; rfl)
            rw [decide_eq_false h2', Bool.false_and] at q0
            exact q0
        have n2 : z ≠ "fail" := fun e => h2 (by rw [e])
        unfold isBareX at q q0
        rw [if_neg n1, if_neg n2] at q0
        walk_at "S"
        refine s_dec (fun h3 => ?_) (fun h3 => ?_)
        · walk_at "S"
          have h3' : ds.length < 2 := by rw [List.length_cons, el] at h3; omega
          rw [if_pos h3'] at q0
          exact q0
        have h3' : ¬ ds.length < 2 := by rw [List.length_cons, el] at h3; omega
        rw [if_neg h3'] at q0
        obtain ⟨v1, e1, d1, p1⟩ := at_ 0 (by omega)
        obtain ⟨v2, e2, d2, p2⟩ := at_ 1 (by omega)
        walk_at "S"
        refine s_ixT hs e1 ?_
        walk_at "S"
        refine name_arg d1 p1 fun H1 k1 => ?_
        have q1 := q H1 k1
        rw [if_neg n1, if_neg n2, if_neg h3'] at q1
        have hs1 := k1.seqT trivial hs
        have at1 : ∀ k, k < ds.length → ∃ v, atI (V.str z :: vt) ((k + 1 : Nat) : Int) = some v ∧ Dp K H1 v (nth ds k) ∧ Part (nth ds k) := fun k hk => by
          obtain ⟨v, e, d, m⟩ := at_ k hk
          exact ⟨v, e, Dp.same k1 _ _ d, m⟩
        walk_at "S"
        refine s_bool (fun h4 => ?_) (fun h4 => ?_)
        · have h4' : isNameX (nth ds 0) = false := by simpa using h4
          walk_at "S"
          rw [if_pos h4'] at q1
          exact q1
        have h4' : ¬ isNameX (nth ds 0) = false := by simpa using h4
        rw [if_neg h4'] at q1
        walk_at "S"
        refine s_dec (fun h5 => ?_) (fun h5 => ?_)
        · have e1 := V.str.inj h5
          subst e1
          rw [if_pos rfl] at q1
          walk_at "S"
          refine s_dec (fun h2 => ?_) (fun h2 => ?_)
          · have h2' : ds.length = 2 := by have := V.int.inj h2; rw [List.length_cons, el] at this; omega
            obtain ⟨v, e, d, pt⟩ := at1 1 (by omega)
            walk_at "S"
            refine s_ixT hs1 e ?_
            walk_at "S"
            rw [decide_eq_true h2', Bool.true_and] at q1
            exact ⟨v, _, rfl, d, pt, q1⟩
          · have h2' : ¬ ds.length = 2 := fun z => h2 (by rw [List.length_cons, el, z]; rfl)
            rw [decide_eq_false h2', Bool.false_and] at q1
            exact q1
        have n5 : z ≠ "set" := fun e => h5 (by rw [e])
        rw [if_neg n5] at q1
        walk_at "S"
        refine s_dec (fun h6 => ?_) (fun h6 => ?_)
        · have e1 := V.str.inj h6
          subst e1
          rw [if_pos rfl] at q1
          walk_at "S"
          refine s_dec (fun h2 => ?_) (fun h2 => ?_)
          · have h2' : ds.length = 3 := by have := V.int.inj h2; rw [List.length_cons, el] at this; omega
            obtain ⟨v, e, d, pt⟩ := at1 1 (by omega)
            obtain ⟨v', e', d', pt'⟩ := at1 2 (by omega)
            walk_at "S"
            refine s_ixT hs1 e ?_
            walk_at "S"
            refine path_arg d pt fun H2 k2 => ?_
            have q2 := q H2 (k1.tr k2)
            rw [if_neg n1, if_neg n2, if_neg h3', if_neg h4', if_neg n5, if_pos rfl, decide_eq_true h2', Bool.true_and] at q2
            walk_at "S"
            refine s_bool (fun h7 => ?_) (fun h7 => ?_)
            · walk_at "S"
              refine s_ixT (k2.seqT trivial hs1) e' ?_
              walk_at "S"
              refine name_arg (Dp.same k2 _ _ d') pt' fun H3 k3 => ?_
              have q3 := q H3 ((k1.tr k2).tr k3)
              rw [if_neg n1, if_neg n2, if_neg h3', if_neg h4', if_neg n5, if_pos rfl, decide_eq_true h2', Bool.true_and, h7, Bool.true_and] at q3
              exact q3
            · rw [h7, Bool.false_and] at q2
              exact q2
          · have h2' : ¬ ds.length = 3 := fun z => h2 (by rw [List.length_cons, el, z]; rfl)
            rw [decide_eq_false h2', Bool.false_and] at q1
            exact q1
        have n6 : z ≠ "draw" := fun e => h6 (by rw [e])
        rw [if_neg n6] at q1
        walk_at "S"
        refine ⟨_, leadW.map V.str, rfl, .inr (sq_LEADING H1), rfl, flatV_strs _, ?_⟩
        rw [inV_strs]
        walk_at "S"
        refine s_dec (fun h7 => ?_) (fun h7 => ?_)
        · rw [decide_eq_true h7, Bool.true_and] at q1
          walk_at "S"
          refine s_dec (fun h2 => ?_) (fun h2 => ?_)
          · have h2' : ds.length = 2 := by have := V.int.inj h2; rw [List.length_cons, el] at this; omega
            obtain ⟨v, e, d, pt⟩ := at1 1 (by omega)
            walk_at "S"
            refine s_ixT hs1 e ?_
            walk_at "S"
            refine path_arg d pt fun H2 k2 => ?_
            have q2 := q H2 (k1.tr k2)
            rw [if_neg n1, if_neg n2, if_neg h3', if_neg h4', if_neg n5, if_neg n6, decide_eq_true h7, Bool.true_and, decide_eq_true h2', Bool.true_and] at q2
            exact q2
          · have h2' : ¬ ds.length = 2 := fun z => h2 (by rw [List.length_cons, el, z]; rfl)
            rw [decide_eq_false h2', Bool.false_and] at q1
            exact q1
        · rw [decide_eq_false h7, Bool.false_and] at q1
          exact q1
end

def spRowIn (K : PySem.W.Frag) (d : Nat) : Sp := fun vs H Q _ => ∃ (v : V) (x : PyData), vs = [v, .int d] ∧ Dp K H v x ∧ RowG x ∧ ∀ H', Kp [] H H' → Q (.bl (isRowX d x)) H'
def spAreRows (K : PySem.W.Frag) (d : Nat) : Sp := fun vs H Q _ =>
  (∃ (v : V) (xs : List PyData), vs = [v, .int d] ∧ Dp K H v (.tuple xs) ∧ (∀ x ∈ xs, RowG x) ∧ xs.length ≤ 100000 ∧ ∀ H', Kp [] H H' → Q (.bl (xs.all (isRowX d))) H') ∨
  (∃ (x : V) (t : String), vs = [x, .int d] ∧ TyX K H x (.type t) ∧ kitB t "tuple" = some false ∧ Q (.bl false) H)
def spAreRowsP (K : PySem.W.Frag) : Nat → Sp
  | 0 => fun _ _ _ _ => False
  | d + 1 => spAreRows K d
theorem part_words {d : PyData} (h : Part d) : areWordsX d = false := by cases h <;> rfl
theorem words_part {K : PySem.W.Frag} {H : Hp} {v : V} {d : PyData} {Q : VK} {E : XK} (h : Dp K H v d) (p : Part d) (q : Q (.bl false) H) : spAreWords K [v] H Q E := by
  cases p with
  | non => cases h; exact .inr ⟨_, "NoneType", rfl, .base .non, by decide +kernel, q⟩
  | int n => cases h; exact .inr ⟨_, "int", rfl, .base (.int _), by decide +kernel, q⟩
  | str l => cases h; exact .inr ⟨_, "str", rfl, .base (.str _), by decide +kernel, q⟩
theorem isRowX_bare {d : Nat} {z : Str} {ds : List PyData} (h : z ≠ "try") : isRowX d (.tuple (.str z :: ds)) = isBareX z ds := by
  cases d with
  | zero => exact if_neg h
  | succ d => exact if_neg h
theorem isRowX_zero (ds : List PyData) : isRowX 0 (.tuple (.str "try" :: ds)) = false := if_pos rfl
theorem isRowX_try (d : Nat) (ds : List PyData) : isRowX (d + 1) (.tuple (.str "try" :: ds)) = (decide (ds.length = 3) && (areWordsX (nth ds 1) &&
      ((partT 1 (.tuple (.str "try" :: ds))).all (isRowX d) && (partT 3 (.tuple (.str "try" :: ds))).all (isRowX d)))) := if_pos rfl
section
variable {P : Program} {w : World} {K : PySem.W.Frag} {mg : Str → Option Value} {base : Heap}
theorem ok_row_in {d : Nat} {f : Addr} {fd : FuncData} (F : Fun K "is_row_within" "is_row_within" s_is_row_within f fd) (T : Txt K mg)
    (D_is_bare : DnF P w K mg base 3 "is_bare" ["row"] (spIsBare K)) (D_are_words : DnF P w K mg base 3 "are_words" ["thing"] (spAreWords K))
    (D_are_rows : DnF P w K mg base (3 + 2 * d) "are_rows" ["thing", "tries"] (spAreRowsP K d)) :
    FnOk P w K mg base CX0 (3 + 2 * d + 1) f fd ["thing", "tries"] (spRowIn K d) := by
  refine F.ok sc_is_row_within (fun vs H Q E h => ?_) (fun cdv A outer s H vs Q E hr h => ?_)
  · obtain ⟨v, x, rfl, _⟩ := h
    rfl
  · obtain ⟨f_is_bare, fd_is_bare, G_is_bare, m_is_bare, k_is_bare, b_is_bare⟩ := D_is_bare; obtain ⟨f_are_words, fd_are_words, G_are_words, m_are_words, k_are_words, b_are_words⟩ := D_are_words; obtain ⟨f_are_rows, fd_are_rows, G_are_rows, m_are_rows, k_are_rows, b_are_rows⟩ := D_are_rows
    obtain ⟨v, x, rfl, hd, hg, q⟩ := h
    have q0 := q H Kp.refl
    refine ⟨_, (pss_cons (ps_if (PW.pt (pw_or (pt_not (pt_val (pe_callB (isiK (K := K) rfl) (by rfl) T.n_isinstance (by decide +kernel) (pa_cons (pv 0) (pa_cons (pe_bltn (v := .ty "tuple") (by rfl) T.n_tuple (by decide +kernel) rfl) pa_nil))))) (pw_or1 (pt_cmpR op_eq (pe_callB (lenK (K := K) rfl) (by rfl) T.n_len (by decide +kernel) (pa_cons (pv 0) pa_nil)) pe_int (nomark _))))) (pss_one (ps_ret pe_bl)) pss_nil)
      (pss_cons (ps_if (pt_cmpR op_ne (pe_ix (ixTK (K := K) rfl) (pv 0) pe_int (fun _ _ => rfl)) pe_str (nomark _)) (pss_one (ps_ret (pe_call G_is_bare (hr.mono (by first | decide | omega)) (by rfl) m_is_bare k_is_bare b_is_bare .nil pass0 (pa_cons (pv 0) pa_nil)))) pss_nil)
      (pss_cons (ps_if (PW.pt (pw_or (pt_cmpR op_eq (pv 1) pe_int (nomark _)) (pw_or (pt_cmpR op_ne (pe_callB (lenK (K := K) rfl) (by rfl) T.n_len (by decide +kernel) (pa_cons (pv 0) pa_nil)) pe_int (nomark _)) (pw_or1 (pt_not (pt_val (pe_call G_are_words (hr.mono (by first | decide | omega)) (by rfl) m_are_words k_are_words b_are_words .nil pass0 (pa_cons (pe_ix (ixTK (K := K) rfl) (pv 0) pe_int (fun _ _ => rfl)) pa_nil)))))))) (pss_one (ps_ret pe_bl)) pss_nil)
      (pss_one (ps_ret (pe_and (pe_call G_are_rows (hr.mono (by first | decide | omega)) (by rfl) m_are_rows k_are_rows b_are_rows .nil pass0 (pa_cons (pe_ix (ixTK (K := K) rfl) (pv 0) pe_int (fun _ _ => rfl)) (pa_cons (pe_op op_sub (pv 1) pe_int) pa_nil))) (pe_one (pe_call G_are_rows (hr.mono (by first | decide | omega)) (by rfl) m_are_rows k_are_rows b_are_rows .nil pass0 (pa_cons (pe_ix (ixTK (K := K) rfl) (pv 0) pe_int (fun _ _ => rfl)) (pa_cons (pe_op op_sub (pv 1) pe_int) pa_nil)))))))))), ?_⟩
    refine st_start (σ' := [some v, some (.int d)]) rfl ?_
    cases hg with
    | @bare z ds hz hp hl =>
      have hd' := hd
      have ty : TyX K H v (.type "tuple") := Dp.ty hd
      cases hd with
      | tup hs ha =>
        rename_i a vs
        cases ha with
        | cons h0 ht =>
          rename_i v0 vt
          cases h0
          have el : vt.length = ds.length := DpAll.len ht
          have e0 : atI (V.str z :: vt) ((0 : Nat) : Int) = some (.str z) := atI_nat rfl
          walk_at "S"
          refine isi_ty ty (b := true) (by decide +kernel) ?_
          walk_at "S"
          refine s_dec (fun h => absurd (V.int.inj h) (by rw [List.length_cons]; omega)) (fun _ => ?_)
          walk_at "S"
          refine s_ixT hs e0 ?_
          walk_at "S"
          refine s_ndec (fun h1 => ?_) (fun h1 => ?_)
          · walk_at "S"
            refine ⟨_, z, ds, rfl, hd', hp, hl, fun H1 k1 => ?_⟩
            have q1 := q H1 k1
            rw [isRowX_bare fun e => h1 (by rw [e])] at q1
            exact q1
          · have e1 := V.str.inj h1
            subst e1
            walk_at "S"
            refine s_dec (fun h2 => ?_) (fun h2 => ?_)
            · have e2 : d = 0 := by have := V.int.inj h2; omega
              subst e2
              rw [isRowX_zero] at q0
              walk_at "S"
              exact q0
            · obtain ⟨e, rfl⟩ : ∃ e, d = e + 1 := ⟨d - 1, by
                have : d ≠ 0 := fun z => h2 (by rw [z]; rfl)
                omega⟩
              rw [isRowX_try] at q0
              walk_at "S"
              refine s_ndec (fun h3 => ?_) (fun h3 => ?_)
              · have h3' : ¬ ds.length = 3 := fun z => h3 (by rw [List.length_cons, el, z]; rfl)
                rw [decide_eq_false h3', Bool.false_and] at q0
                walk_at "S"
                exact q0
              · have h3' : ds.length = 3 := by have := V.int.inj h3; rw [List.length_cons, el] at this; omega
                obtain ⟨u, eu, du, mu⟩ := dpAll_nth ht 1 (by omega)
                walk_at "S"
                refine s_ixT hs (k := ((2 : Nat) : Int)) (atI_nat eu) ?_
                walk_at "S"
                rw [part_words (hp _ mu), Bool.false_and, Bool.and_false] at q0
                refine words_part du (hp _ mu) ?_
                walk_at "S"
                exact q0
    | @tryr a b ws ga la gw lw gb lb =>
      have ty : TyX K H v (.type "tuple") := Dp.ty hd
      cases hd with
      | tup hs ha =>
        rename_i ad vs
        obtain _ | ⟨h0, _ | ⟨d1, _ | ⟨d2, _ | ⟨d3, h4⟩⟩⟩⟩ := ha
        cases h4
        cases h0
        rename_i v1 v2 v3
        walk_at "S"
        refine isi_ty ty (b := true) (by decide +kernel) ?_
        walk_at "S"
        refine s_dec (fun h => absurd (V.int.inj h) (by simp)) (fun _ => ?_)
        walk_at "S"
        refine s_ndec (fun h1 => absurd rfl h1) (fun _ => ?_)
        walk_at "S"
        refine s_dec (fun h2 => ?_) (fun h2 => ?_)
        · have e2 : d = 0 := by have := V.int.inj h2; omega
          subst e2
          rw [isRowX_zero] at q0
          walk_at "S"
          exact q0
        · obtain ⟨e, rfl⟩ : ∃ e, d = e + 1 := ⟨d - 1, by
            have : d ≠ 0 := fun z => h2 (by rw [z]; rfl)
            omega⟩
          have eq1 : isRowX (e + 1) (.tuple [.str "try", .tuple a, .tuple (ws.map .str), .tuple b]) = (areWordsX (.tuple (ws.map .str)) && (a.all (isRowX e) && b.all (isRowX e))) := by
            rw [isRowX_try]
            exact Bool.true_and _
          have em : (((e + 1 : Nat) : Int)) - 1 = (e : Int) := by omega
          walk_at "S"
          refine s_ndec (fun h => absurd rfl h) (fun _ => ?_)
          walk_at "S"
          refine .inl ⟨v2, ws, rfl, d2, gw, lw, fun H1 k1 => ?_⟩
          have q1 := q H1 k1
          rw [eq1] at q1
          walk_at "S"
          refine s_bool (fun h3 => ?_) (fun h3 => ?_)
          · have h3' : areWordsX (.tuple (ws.map .str)) = false := by simpa using h3
            rw [h3', Bool.false_and] at q1
            walk_at "S"
            exact q1
          · have h3' : areWordsX (.tuple (ws.map .str)) = true := by simpa using h3
            have hs1 := k1.seqT trivial hs
            walk_at "S"
            rw [em]
            refine .inl ⟨v1, a, rfl, Dp.same k1 _ _ d1, ga, la, fun H2 k2 => ?_⟩
            have q2 := q H2 (k1.tr k2)
            rw [eq1, h3', Bool.true_and] at q2
            walk_at "S"
            refine s_bool (fun h4 => ?_) (fun h4 => ?_)
            · have hs2 := k2.seqT trivial hs1
              walk_at "S"
              rw [em]
              refine .inl ⟨v3, b, rfl, Dp.same k2 _ _ (Dp.same k1 _ _ d3), gb, lb, fun H3 k3 => ?_⟩
              have q3 := q H3 ((k1.tr k2).tr k3)
              rw [eq1, h3', Bool.true_and, h4, Bool.true_and] at q3
              exact q3
            · rw [h4, Bool.false_and] at q2
              exact q2
end

section
variable {P : Program} {w : World} {K : PySem.W.Frag} {mg : Str → Option Value} {base : Heap}
theorem ok_are_rows {d : Nat} {f : Addr} {fd : FuncData} (F : Fun K "are_rows" "are_rows" s_are_rows f fd) (T : Txt K mg)
    (D_is_row_within : DnF P w K mg base (3 + 2 * d + 1) "is_row_within" ["thing", "tries"] (spRowIn K d)) :
    FnOk P w K mg base CX0 (3 + 2 * d + 1 + 1) f fd ["thing", "tries"] (spAreRows K d) := by
  refine F.ok sc_are_rows (fun vs H Q E h => ?_) (fun cdv A outer s H vs Q E hr h => ?_)
  · rcases h with ⟨v, xs, rfl, _⟩ | ⟨x, t, rfl, _⟩ <;> rfl
  · obtain ⟨f_is_row_within, fd_is_row_within, G_is_row_within, m_is_row_within, k_is_row_within, b_is_row_within⟩ := D_is_row_within
    rcases h with ⟨v, xs, rfl, hd, hg, hl, q⟩ | ⟨x, t, rfl, ht, hk, q⟩
    · have ty : TyX K H v (.type "tuple") := Dp.ty hd
      cases hd with
      | tup hs ha =>
        rename_i a vs
        have el : vs.length = xs.length := DpAll.len ha
        refine ⟨_, (pss_one (ps_ret (pe_and (pe_callB (isiK (K := K) rfl) (by rfl) T.n_isinstance (by decide +kernel) (pa_cons (pv 0) (pa_cons (pe_bltn (v := .ty "tuple") (by rfl) T.n_tuple (by decide +kernel) rfl) pa_nil))) (pe_one (pe_callB (allK (K := K) rfl rfl) (by rfl) T.n_all (by decide +kernel) (pa_cons (pe_lc (own := [("row", 2)]) (g := gName 2) (tt := tYes) rfl sc_are_rows.nd (kiT (K := K) rfl (pi_tup (pv 0))) (blkOk_by (own := [("row", 2)]) (N := N_are_rows) (sc := (defScope s_are_rows)) (by decide +kernel)) (fun _ _ _ _ _ => (pg_name (i := 2) sc_are_rows.nd rfl (Or.inl rfl))) (fun _ _ _ _ _ => pts_nil) (fun _ _ _ _ _ => (pe_call G_is_row_within (hr.mono (by first | decide | omega)) (by rfl) m_is_row_within k_is_row_within b_is_row_within .nil pass0 (pa_cons (pv 2) (pa_cons (pv 1) pa_nil))))) pa_nil)))))), ?_⟩
        refine st_start (σ' := [some (.ref a), some (.int d), none]) rfl ?_
        walk_at "S"
        refine isi_ty ty (b := true) (by decide +kernel) ?_
        walk_at "S"
        refine ⟨⟨_, hs⟩, fun D hD => ?_⟩
        have L : LcOk D vs.length (fun i => ((xs.map (isRowX d)).map V.bl).take i) [] H (fun _ _ => True) :=
          .ofTake (small_le (by omega)) hD trivial (fun _ _ _ h => h)
        refine lc_go (walk_tup (K := K) (a := a) (xs := vs)) L trivial (fun H2 k2 => k2.seqT trivial hs) (fun i x H2 H' hi I y => ?_) fun H2 I => ?_
        · obtain ⟨rfl, hx⟩ := y
          obtain ⟨u, eu, du, mu⟩ := dpAll_nth ha i (by omega)
          rw [eu] at hx
          cases hx
          have k2 := I.2.1
          walk_at "S"
          refine ⟨rfl, ?_⟩
          walk_at "S"
          refine ⟨x, nth xs i, rfl, Dp.same k2 _ _ du, hg _ mu, fun H3 K3 => ?_⟩
          refine I.put L hi (take_put ?_) K3 trivial
          rw [List.getElem?_map, List.getElem?_map, List.getElem?_eq_getElem (by omega)]
          show some (V.bl (isRowX d xs[i])) = _
          unfold nth
          rw [List.getD_eq_getElem?_getD, List.getElem?_eq_getElem (by omega)]
          rfl
        · obtain ⟨p1, p2, _⟩ := I
          dsimp only at p1
          rw [List.take_of_length_le (by simp; omega)] at p1
          walk_at "S"
          refine s_all (bs := xs.map (isRowX d)) (sq_l p1) ?_
          rw [List.all_map]
          exact q H2 p2
    · refine ⟨_, (pss_one (ps_ret (pe_and (pe_callB (isiK (K := K) rfl) (by rfl) T.n_isinstance (by decide +kernel) (pa_cons (pv 0) (pa_cons (pe_bltn (v := .ty "tuple") (by rfl) T.n_tuple (by decide +kernel) rfl) pa_nil))) (pe_one (pe_callB (allK (K := K) rfl rfl) (by rfl) T.n_all (by decide +kernel) (pa_cons (pe_lc (own := [("row", 2)]) (g := gName 2) (tt := tYes) rfl sc_are_rows.nd (kiT (K := K) rfl (pi_tup (pv 0))) (blkOk_by (own := [("row", 2)]) (N := N_are_rows) (sc := (defScope s_are_rows)) (by decide +kernel)) (fun _ _ _ _ _ => (pg_name (i := 2) sc_are_rows.nd rfl (Or.inl rfl))) (fun _ _ _ _ _ => pts_nil) (fun _ _ _ _ _ => (pe_call G_is_row_within (hr.mono (by first | decide | omega)) (by rfl) m_is_row_within k_is_row_within b_is_row_within .nil pass0 (pa_cons (pv 2) (pa_cons (pv 1) pa_nil))))) pa_nil)))))), ?_⟩
      refine st_start (σ' := [some x, some (.int d), none]) rfl ?_
      walk_at "S"
      refine isi_ty ht hk ?_
      walk_at "S"
      exact q
/-- are_rows, whatever the tries -/
theorem are_rows_all {f_are_rows f_is_row_within : Addr} {fd_are_rows fd_is_row_within : FuncData} (F1 : Fun K "are_rows" "are_rows" s_are_rows f_are_rows fd_are_rows) (F2 : Fun K "is_row_within" "is_row_within" s_is_row_within f_is_row_within fd_is_row_within) (T : Txt K mg)
    (D_is_bare : DnF P w K mg base 3 "is_bare" ["row"] (spIsBare K)) (D_are_words : DnF P w K mg base 3 "are_words" ["thing"] (spAreWords K))
    (m1 : mg "are_rows" = some (.ref f_are_rows)) (k1 : PySem.W.keepIn K (.ref f_are_rows) = true) (b1 : Binds K fd_are_rows ["thing", "tries"] [])
    (m2 : mg "is_row_within" = some (.ref f_is_row_within)) (k2 : PySem.W.keepIn K (.ref f_is_row_within) = true) (b2 : Binds K fd_is_row_within ["thing", "tries"] []) :
    ∀ d : Nat, FnOk P w K mg base CX0 (3 + 2 * d + 1 + 1) f_are_rows fd_are_rows ["thing", "tries"] (spAreRows K d)
  | 0 => ok_are_rows (d := 0) F1 T ⟨_, _, ok_row_in (d := 0) F2 T D_is_bare D_are_words ⟨_, _, ⟨fun _ _ _ _ z => z.elim, fun _ _ _ _ _ _ _ _ _ _ _ _ _ z => z.elim⟩, m1, k1, b1⟩, m2, k2, b2⟩
  | d + 1 => ok_are_rows (d := d + 1) F1 T ⟨_, _, ok_row_in F2 T D_is_bare D_are_words ⟨_, _, are_rows_all F1 F2 T D_is_bare D_are_words m1 k1 b1 m2 k2 b2 d, m1, k1, b1⟩, m2, k2, b2⟩
end

def spCounted (K : PySem.W.Frag) (d : Nat) : Sp := fun vs H Q _ => ∃ (v : V) (xs : List PyData), vs = [v] ∧ Dp K H v (.tuple xs) ∧ (∀ x ∈ xs, RowG x) ∧ xs.all (isRowX d) = true ∧ Q (.int (cnts d xs : Nat)) H
def spCountedP (K : PySem.W.Frag) : Nat → Sp
  | 0 => fun _ _ _ _ => False
  | d + 1 => spCounted K d
/-- what a row is that is judged good -/
theorem row_good {d : Nat} {x : PyData} (g : RowG x) (h : isRowX d x = true) :
    (∃ z ds, x = .tuple (.str z :: ds) ∧ z ≠ "try" ∧ cntRow d x = 1) ∨
    (∃ (e : Nat) (a b : List PyData) (ws : List Str), d = e + 1 ∧ x = .tuple [.str "try", .tuple a, .tuple (ws.map .str), .tuple b] ∧ (∀ y ∈ a, RowG y) ∧ (∀ y ∈ b, RowG y) ∧ a.all (isRowX e) = true ∧ b.all (isRowX e) = true) := by
  cases g with
  | @bare z ds hz hp hl =>
    by_cases c : z = "try"
    · subst c
      cases d with
      | zero => rw [isRowX_zero] at h; cases h
      | succ d =>
        rw [isRowX_try] at h
        simp only [Bool.and_eq_true, decide_eq_true_eq] at h
        obtain ⟨h1, h2, _⟩ := h
        have m : nth ds 1 ∈ ds := by
          unfold nth
          rw [List.getD_eq_getElem?_getD, List.getElem?_eq_getElem (by omega)]
          exact List.getElem_mem _
        rw [part_words (hp _ m)] at h2
        cases h2
    · refine .inl ⟨z, ds, rfl, c, ?_⟩
      cases d with
      | zero => rfl
      | succ d => unfold cntRow; rw [isTry_w _ c]; rfl
  | @tryr a b ws ga la gw lw gb lb =>
    cases d with
    | zero => rw [isRowX_zero] at h; cases h
    | succ d =>
      rw [isRowX_try] at h
      simp only [Bool.and_eq_true] at h
      exact .inr ⟨d, a, b, ws, rfl, rfl, ga, gb, h.2.2.1, h.2.2.2⟩
section
variable {P : Program} {w : World} {K : PySem.W.Frag} {mg : Str → Option Value} {base : Heap}
theorem ok_counted {d : Nat} {f : Addr} {fd : FuncData} (F : Fun K "counted" "counted" s_counted f fd)
    (D_counted : DnF P w K mg base d "counted" ["body"] (spCountedP K d)) :
    FnOk P w K mg base CX0 (d + 1) f fd ["body"] (spCounted K d) := by
  refine F.ok sc_counted (fun vs H Q E h => ?_) (fun cdv A outer s H vs Q E hr h => ?_)
  · obtain ⟨v, xs, rfl, _⟩ := h
    rfl
  · obtain ⟨f_counted, fd_counted, G_counted, m_counted, k_counted, b_counted⟩ := D_counted
    obtain ⟨v, xs, rfl, hd, hg, hb, q⟩ := h
    cases hd with
    | tup hs ha =>
      rename_i a vs
      have el : vs.length = xs.length := DpAll.len ha
      refine ⟨_, (pss_cons (ps_set (i := 1) sc_counted.nd rfl (Or.inl rfl) pe_int)
      (pss_cons (ps_for PassesOwn.never rfl (kiT (K := K) rfl (pi_tup (pv 0))) (pg_name (i := 2) sc_counted.nd rfl (Or.inl rfl)) (pss_cons (ps_set (i := 1) sc_counted.nd rfl (Or.inl rfl) (pe_op op_add (pv 1) pe_int))
      (pss_one (ps_if (pt_cmpR op_eq (pe_ix (ixTK (K := K) rfl) (pv 2) pe_int (fun _ _ => rfl)) pe_str (nomark _)) (pss_one (ps_set (i := 1) sc_counted.nd rfl (Or.inl rfl) (pe_op op_add (pe_op op_add (pv 1) (pe_call G_counted (hr.mono (by first | decide | omega)) (by rfl) m_counted k_counted b_counted .nil pass0 (pa_cons (pe_ix (ixTK (K := K) rfl) (pv 2) pe_int (fun _ _ => rfl)) pa_nil))) (pe_call G_counted (hr.mono (by first | decide | omega)) (by rfl) m_counted k_counted b_counted .nil pass0 (pa_cons (pe_ix (ixTK (K := K) rfl) (pv 2) pe_int (fun _ _ => rfl)) pa_nil))))) pss_nil))))
      (pss_one (ps_ret (pv 1))))), ?_⟩
      refine st_start (σ' := [some (.ref a), none, none]) rfl ?_
      walk_at "S"
      refine ⟨⟨_, hs⟩, ?_⟩
      refine for_go (walk_tup (K := K) (a := a) (xs := vs)) (fun i σ H2 => ∃ o : Option V, σ = [some (.ref a), some (.int (cnts d (xs.take i) : Nat)), o] ∧ H2 = H) ⟨_, rfl, rfl⟩ (fun i σ H2 hi I => by obtain ⟨o, _, rfl⟩ := I; exact hs) (fun i x σ Ha Hb hi I y => ?_) fun σ H2 I => ?_
      · obtain ⟨rfl, hx⟩ := y
        obtain ⟨o, rfl, rfl⟩ := I
        have hi2 : i < xs.length := by omega
        obtain ⟨u, eu, du, mu⟩ := dpAll_nth ha i hi2
        rw [eu] at hx
        cases hx
        have en : xs[i]? = some (nth xs i) := by
          unfold nth
          rw [List.getD_eq_getElem?_getD, List.getElem?_eq_getElem hi2]
          rfl
        have ec : cnts d (xs.take (i + 1)) = cnts d (xs.take i) + cntRow d (nth xs i) := by rw [take_put en, cnts_app, cnts_one]
        have good := row_good (hg _ mu) (List.all_eq_true.mp hb _ mu)
        generalize nth xs i = rw_ at *
        walk_at "S"
        rcases good with ⟨z, ds, rfl, hz, c1⟩ | ⟨e, ra, rb, ws, rfl, rfl, ga, gb, g1, g2⟩
        · cases du with
          | tup hs2 ha2 =>
            cases ha2 with
            | cons h0 ht =>
              cases h0
              refine s_ixT hs2 (k := ((0 : Nat) : Int)) (atI_nat rfl) ?_
              walk_at "S"
              refine s_dec (fun h => absurd (V.str.inj h) hz) (fun _ => ?_)
              walk_at "S"
              have e : (V.int (((cnts d (xs.take i) : Nat) : Int) + 1)) = V.int ((cnts d (xs.take (i + 1)) : Nat) : Int) := by rw [ec, c1]; rfl
              rw [e]
              exact ⟨_, rfl, rfl⟩
        · cases du with
          | tup hs2 ha2 =>
            obtain _ | ⟨h0, _ | ⟨d1, _ | ⟨d2, _ | ⟨d3, h4⟩⟩⟩⟩ := ha2
            cases h4
            cases h0
            walk_at "S"
            refine s_dec (fun _ => ?_) (fun h => absurd rfl h)
            walk_at "S"
            refine ⟨_, ra, rfl, d1, ga, g1, ?_⟩
            walk_at "S"
            refine ⟨_, rb, rfl, d3, gb, g2, ?_⟩
            walk_at "S"
            have en2 : (V.int (((cnts (e + 1) (xs.take i) : Nat) : Int) + 1 + ((cnts e ra : Nat) : Int) + ((cnts e rb : Nat) : Int))) = V.int ((cnts (e + 1) (xs.take (i + 1)) : Nat) : Int) := by
              rw [ec, cntRow_try]
              congr 1
              omega
            rw [en2]
            exact ⟨_, rfl, rfl⟩
      · obtain ⟨o, rfl, rfl⟩ := I
        rw [List.take_of_length_le (by omega)]
        walk_at "S"
        exact q
theorem counted_all {f_counted : Addr} {fd_counted : FuncData} (F : Fun K "counted" "counted" s_counted f_counted fd_counted)
    (m1 : mg "counted" = some (.ref f_counted)) (k1 : PySem.W.keepIn K (.ref f_counted) = true) (b1 : Binds K fd_counted ["body"] []) :
    ∀ d : Nat, FnOk P w K mg base CX0 (d + 1) f_counted fd_counted ["body"] (spCounted K d)
  | 0 => ok_counted (d := 0) F ⟨_, _, ⟨fun _ _ _ _ z => z.elim, fun _ _ _ _ _ _ _ _ _ _ _ _ _ z => z.elim⟩, m1, k1, b1⟩
  | d + 1 => ok_counted (d := d + 1) F ⟨_, _, counted_all F m1 k1 b1 d, m1, k1, b1⟩
def spIsBody (K : PySem.W.Frag) : Sp := fun vs H Q _ =>
  (∃ (v : V) (xs : List PyData), vs = [v] ∧ Dp K H v (.tuple xs) ∧ (∀ x ∈ xs, RowG x) ∧ xs.length ≤ 100000 ∧ ∀ H', Kp [] H H' → Q (.bl (xs.all (isRowX 3) && decide (cnts 3 xs ≤ 40))) H') ∨
  (∃ (x : V) (t : String), vs = [x] ∧ TyX K H x (.type t) ∧ kitB t "tuple" = some false ∧ ∀ H', Kp [] H H' → Q (.bl false) H')
theorem ok_is_body {f : Addr} {fd : FuncData} (F : Fun K "is_body" "is_body" s_is_body f fd) (T : Txt K mg)
    (D_are_rows : DnF P w K mg base 11 "are_rows" ["thing", "tries"] (spAreRows K 3)) (D_counted : DnF P w K mg base 4 "counted" ["body"] (spCounted K 3)) :
    FnOk P w K mg base CX0 12 f fd ["thing"] (spIsBody K) := by
  refine F.ok sc_is_body (fun vs H Q E h => ?_) (fun cdv A outer s H vs Q E hr h => ?_)
  · rcases h with ⟨v, xs, rfl, _⟩ | ⟨x, t, rfl, _⟩ <;> rfl
  · obtain ⟨f_counted, fd_counted, G_counted, m_counted, k_counted, b_counted⟩ := D_counted; obtain ⟨f_are_rows, fd_are_rows, G_are_rows, m_are_rows, k_are_rows, b_are_rows⟩ := D_are_rows; obtain ⟨t_MOST_ROWS, hc_MOST_ROWS⟩ := T.c_MOST_ROWS; obtain ⟨t_MOST_TRIES, hc_MOST_TRIES⟩ := T.c_MOST_TRIES
    rcases h with ⟨v, xs, rfl, hd, hg, hl, q⟩ | ⟨x, t, rfl, ht, hk, q⟩
    · refine ⟨_, (pss_one (ps_ret (pe_and (pe_call G_are_rows (hr.mono (by first | decide | omega)) (by rfl) m_are_rows k_are_rows b_are_rows .nil pass0 (pa_cons (pv 0) (pa_cons (pe_glob (v := .int 3) rfl hc_MOST_TRIES ⟨_, rfl⟩) pa_nil))) (pe_one (pe_cmpR op_le (pe_call G_counted (hr.mono (by first | decide | omega)) (by rfl) m_counted k_counted b_counted .nil pass0 (pa_cons (pv 0) pa_nil)) (pe_glob (v := .int 40) rfl hc_MOST_ROWS ⟨_, rfl⟩) (nomark _)))))), ?_⟩
      refine st_start (σ' := [some v]) rfl ?_
      walk_at "S"
      refine .inl ⟨v, xs, rfl, hd, hg, hl, fun H1 k1 => ?_⟩
      have q1 := q H1 k1
      walk_at "S"
      refine s_bool (fun h => ?_) (fun h => ?_)
      · rw [h, Bool.true_and] at q1
        walk_at "S"
        refine ⟨v, xs, rfl, Dp.same k1 _ _ hd, hg, h, ?_⟩
        walk_at "S"
        rw [show decide (((cnts 3 xs : Nat) : Int) ≤ 40) = decide (cnts 3 xs ≤ 40) from decide_eq_decide.mpr (by omega)]
        exact q1
      · rw [h, Bool.false_and] at q1
        exact q1
    · refine ⟨_, (pss_one (ps_ret (pe_and (pe_call G_are_rows (hr.mono (by first | decide | omega)) (by rfl) m_are_rows k_are_rows b_are_rows .nil pass0 (pa_cons (pv 0) (pa_cons (pe_glob (v := .int 3) rfl hc_MOST_TRIES ⟨_, rfl⟩) pa_nil))) (pe_one (pe_cmpR op_le (pe_call G_counted (hr.mono (by first | decide | omega)) (by rfl) m_counted k_counted b_counted .nil pass0 (pa_cons (pv 0) pa_nil)) (pe_glob (v := .int 40) rfl hc_MOST_ROWS ⟨_, rfl⟩) (nomark _)))))), ?_⟩
      refine st_start (σ' := [some x]) rfl ?_
      walk_at "S"
      refine .inr ⟨x, t, rfl, ht, hk, ?_⟩
      walk_at "S"
      exact q _ Kp.refl
end

def spLines (K : PySem.W.Frag) (d : Nat) : Sp := fun vs H Q _ => ∃ (v : V) (xs : List PyData), vs = [v] ∧ Dp K H v (.tuple xs) ∧ (∀ x ∈ xs, OkRow d x) ∧ cnts d xs ≤ 1000 ∧
  ∀ H' p, Kp [] H H' → H p = none → H' p = some (.lst ((rowsL d xs).map V.str)) → Q (.ref p) H'
def spLinesP (K : PySem.W.Frag) : Nat → Sp
  | 0 => fun _ _ _ _ => False
  | d + 1 => spLines K d
theorem few_lines {d : Nat} {xs : List PyData} (h : ∀ x ∈ xs, OkRow d x) (c : cnts d xs ≤ 1000) (i : Nat) : ((rowsL d (xs.take i)).map V.str).length ≤ 3000 := by
  rw [List.length_map]
  exact rowsL_len (fun x hx => h x (List.mem_of_mem_take hx)) (Nat.le_trans (cnts_take d xs i) c)
theorem blank1 : (" " : Str).length = 1 := by decide +kernel
theorem flat_sum {x : PyData} {z : Str} {ps : List PyData} (fs : FlatShape x z ps) : ((z :: ps.map partS).map (·.length)).sum + (z :: ps.map partS).length * (" " : Str).length ≤ 16777216 := by
  have s1 : ((z :: ps.map partS).map (·.length)).sum ≤ (z :: ps.map partS).length * 402 := sum_le_of fun y hy => by
    rcases List.mem_cons.mp hy with rfl | hy
    · exact Nat.le_trans (rowW_facts _ fs.wd).2.2.2.2 (by decide)
    · obtain ⟨p, hp, rfl⟩ := List.mem_map.mp hy
      exact (fs.ok p hp).len
  have fw := fs.few
  rw [blank1]
  rw [List.length_cons, List.length_map] at s1 ⊢
  omega
theorem caught_sum {ws : List Str} (h : OkWords ws) : ((("caught" : Str) :: ws).map (·.length)).sum + (("caught" : Str) :: ws).length * (" " : Str).length ≤ 16777216 := by
  have s : (ws.map (·.length)).sum ≤ ws.length * 8 := sum_le_of fun y hy => (clean_word (h.all y hy)).2
  have b2 : ("caught" : Str).length = 6 := by decide +kernel
  have fw := h.few
  rw [List.map_cons, List.sum_cons, List.length_cons, blank1, b2]
  omega
section
variable {P : Program} {w : World} {K : PySem.W.Frag} {mg : Str → Option Value} {base : Heap}
/-- the parts of a row, as texts, laid into a new list -/
theorem part_texts {a : Addr} {z : Str} {vt : List V} {ps : List PyData} {H : Hp} (ha : DpAll K H vt ps) (hz : z ∈ rowW) (ok : ∀ p ∈ ps, PartOk p) :
    ∀ {i : Nat} {v : V}, (V.str z :: vt)[i]? = some v → ∃ p, (PyData.str z :: ps)[i]? = some p ∧ Dp K H v p ∧ PartOk p
  | 0, v, e => by cases e; exact ⟨_, rfl, .str _, .word hz⟩
  | i + 1, v, e => by
    obtain ⟨p, hp, dp⟩ := dp_nth ha e
    exact ⟨p, hp, dp, ok p (List.mem_of_getElem? hp)⟩
theorem ok_lines_of {d : Nat} {f : Addr} {fd : FuncData} (F : Fun K "lines_of" "lines_of" s_lines_of f fd) (T : Txt K mg)
    (D_lines_of : DnF P w K mg base (d + 1) "lines_of" ["rows"] (spLinesP K d)) :
    FnOk P w K mg base CX0 (d + 2) f fd ["rows"] (spLines K d) := by
  refine F.ok sc_lines_of (fun vs H Q E h => ?_) (fun cdv A outer s H vs Q E hr h => ?_)
  · obtain ⟨v, xs, rfl, _⟩ := h
    rfl
  · obtain ⟨f_lines_of, fd_lines_of, G_lines_of, m_lines_of, k_lines_of, b_lines_of⟩ := D_lines_of
    obtain ⟨v, xs, rfl, hd, hg, hc, q⟩ := h
    cases hd with
    | tup hs ha =>
      rename_i a vs
      have el : vs.length = xs.length := DpAll.len ha
      refine ⟨_, (pss_cons (ps_set (i := 1) sc_lines_of.nd rfl (Or.inl rfl) (pe_lst pa_nil))
      (pss_cons (ps_for PassesOwn.never rfl (kiT (K := K) rfl (pi_tup (pv 0))) (pg_name (i := 2) sc_lines_of.nd rfl (Or.inl rfl)) (pss_one (ps_if (pt_cmpR op_eq (pe_ix (ixTK (K := K) rfl) (pv 2) pe_int (fun _ _ => rfl)) pe_str (nomark _)) (pss_cons (ps_expr (kBM (K := K) rfl (pe_bm PySem.F.plainAttrs_list PySem.F.slot_list_append PySem.F.type_list_append mt_append (pv 1) (pa_cons pe_str pa_nil))))
      (pss_cons (ps_expr (kBM (K := K) rfl (pe_bm PySem.F.plainAttrs_list PySem.F.slot_list_extend PySem.F.type_list_extend mt_extend (pv 1) (pa_cons (pe_call G_lines_of (hr.mono (by first | decide | omega)) (by rfl) m_lines_of k_lines_of b_lines_of .nil pass0 (pa_cons (pe_ix (ixTK (K := K) rfl) (pv 2) pe_int (fun _ _ => rfl)) pa_nil)) pa_nil))))
      (pss_cons (ps_expr (kBM (K := K) rfl (pe_bm PySem.F.plainAttrs_list PySem.F.slot_list_append PySem.F.type_list_append mt_append (pv 1) (pa_cons (pe_m1 PySem.F.slot_str_join PySem.F.type_str_join (joinK (K := K) rfl) pe_str (pe_op op_cat (pe_lst (pa_cons pe_str pa_nil)) (pe_callTy (listK (K := K) rfl) (by rfl) T.n_list (by decide +kernel) (pa_cons (pe_ix (ixTK (K := K) rfl) (pv 2) pe_int (fun _ _ => rfl)) pa_nil)))) pa_nil))))
      (pss_cons (ps_expr (kBM (K := K) rfl (pe_bm PySem.F.plainAttrs_list PySem.F.slot_list_extend PySem.F.type_list_extend mt_extend (pv 1) (pa_cons (pe_call G_lines_of (hr.mono (by first | decide | omega)) (by rfl) m_lines_of k_lines_of b_lines_of .nil pass0 (pa_cons (pe_ix (ixTK (K := K) rfl) (pv 2) pe_int (fun _ _ => rfl)) pa_nil)) pa_nil))))
      (pss_one (ps_expr (kBM (K := K) rfl (pe_bm PySem.F.plainAttrs_list PySem.F.slot_list_append PySem.F.type_list_append mt_append (pv 1) (pa_cons pe_str pa_nil))))))))) (pss_one (ps_expr (kBM (K := K) rfl (pe_bm PySem.F.plainAttrs_list PySem.F.slot_list_append PySem.F.type_list_append mt_append (pv 1) (pa_cons (pe_m1 PySem.F.slot_str_join PySem.F.type_str_join (joinK (K := K) rfl) pe_str (pe_lc (own := [("part", 3)]) (g := gName 3) (tt := tYes) rfl sc_lines_of.nd (kiT (K := K) rfl (pi_tup (pv 2))) (blkOk_by (own := [("part", 3)]) (N := N_lines_of) (sc := (defScope s_lines_of)) (by decide +kernel)) (fun _ _ _ _ _ => (pg_name (i := 3) sc_lines_of.nd rfl (Or.inl rfl))) (fun _ _ _ _ _ => pts_nil) (fun _ _ _ _ _ => (pe_callTy strOfR (by rfl) T.n_str (by decide +kernel) (pa_cons (pv 3) pa_nil))))) pa_nil))))))))
      (pss_one (ps_ret (pv 1))))), ?_⟩
      refine st_start (σ' := [some (.ref a), none, none, none]) rfl ?_
      walk_at "S"
      refine ⟨small_le (by simp), fun l hl => ?_⟩
      walk_at "S"
      refine ⟨⟨_, (Kp.refl.upd_new hl).seqT (W := []) trivial hs⟩, ?_⟩
      refine for_go (walk_tup (K := K) (a := a) (xs := vs)) (fun i σ H2 => ∃ o : Option V, σ = [some (.ref a), some (.ref l), o, none] ∧ Kp [] H H2 ∧ H2 l = some (.lst ((rowsL d (xs.take i)).map V.str)))
        ⟨_, rfl, Kp.refl.upd_new hl, upd_same⟩ (fun i σ H2 hi I => by obtain ⟨o, _, k, _⟩ := I; exact k.seqT trivial hs) (fun i x σ Ha Hb hi I y => ?_) fun σ H2 I => ?_
      · obtain ⟨rfl, hx⟩ := y
        obtain ⟨o, rfl, k2, hl2⟩ := I
        obtain ⟨r, er, dr⟩ := dp_nth ha hx
        have mr : r ∈ xs := List.mem_of_getElem? er
        have okr := hg r mr
        have d2 := Dp.same k2 _ _ dr
        have ec := take_rows (d := d) er
        have n1 := few_lines hg hc i
        have n2 := few_lines hg hc (i + 1)
        rw [ec, List.map_append, List.length_append] at n2
        walk_at "S"
        rcases okr.cases with ⟨z, ps, fs, fl⟩ | ⟨e, ra, rb, ws, rfl, rfl, ga, gw, gb⟩
        · have rl := rowLines_flat (d := d) fl.notTry
          have wl := fs.words
          have ex := fs.eq
          subst ex
          obtain ⟨a2, vt, rfl, hs2, ha2⟩ := dp_flat d2
          refine s_ixT hs2 (k := ((0 : Nat) : Int)) (atI_nat rfl) ?_
          walk_at "S"
          refine s_dec (fun h => absurd (V.str.inj h) (rowW_facts _ fs.wd).1) (fun _ => ?_)
          walk_at "S"
          refine ⟨⟨_, hs2⟩, fun D hD => ?_⟩
          have L : LcOk D (V.str z :: vt).length (fun i => (((z :: ps.map partS)).map V.str).take i) [] Hb (fun _ _ => True) :=
            .ofTake (by rw [List.length_cons, DpAll.len ha2]; have := fs.few; exact small_le (by omega)) hD trivial (fun _ _ _ h => h)
          refine lc_go (walk_tup (K := K) (a := a2) (xs := V.str z :: vt)) L trivial (fun H3 k3 => k3.seqT trivial hs2) (fun j x H3 H' hj J y => ?_) fun H3 J => ?_
          · obtain ⟨rfl, hx3⟩ := y
            obtain ⟨p, ep, dp, op⟩ := part_texts (a := a2) ha2 fs.wd fs.ok hx3
            walk_at "S"
            refine ⟨rfl, ?_⟩
            walk_at "S"
            refine s_strP (Dp.same J.2.1 _ _ dp) op ?_
            refine J.put L hj (take_put ?_) Kp.refl trivial
            rw [show (z :: ps.map partS) = (PyData.str z :: ps).map partS from rfl, List.getElem?_map, List.getElem?_map, ep]
            rfl
          · obtain ⟨p1, k3, _⟩ := J
            dsimp only at p1
            rw [List.take_of_length_le (by simp; have := DpAll.len ha2; omega)] at p1
            walk_at "S"
            refine s_joinL (zs := z :: ps.map partS) (sq_l p1) (flat_sum fs) ?_
            have hl3 := k3.get trivial hl2
            walk_at "S"
            refine s_append hl3 (small_lt (by omega)) ?_
            refine ⟨_, rfl, ?_, ?_⟩
            · exact (k2.tr k3).upd_loc hl
            · rw [upd_same, ec, rl, List.map_append, wl.1]
              rfl
        · have rl := rowLines_try e ra rb ws
          obtain ⟨a2, u1, u2, u3, rfl, hs2, d3, d4, d5⟩ := dp_try d2
          obtain ⟨a3, rfl, hw⟩ := dp_words d4
          have cm := cnts_mem (d := e + 1) mr
          rw [cntRow_try] at cm
          have la := rowsL_len ga (by omega)
          have lb := rowsL_len gb (by omega)
          rw [rl] at n2
          simp only [List.map_cons, List.map_append, List.length_cons, List.length_append, List.length_map, List.length_nil] at n1 n2
          walk_at "S"
          refine s_dec (fun _ => ?_) (fun h => absurd rfl h)
          walk_at "S"
          refine s_append hl2 (small_lt (by rw [List.length_map]; omega)) ?_
          have hlb : Hb l = some (.lst ((rowsL (e + 1) (xs.take i)).map V.str)) := hl2
          have ec2 := ec.trans (congrArg _ rl)
          clear ec hl2
          generalize rowsL (e + 1) (xs.take i) = R at *
          generalize rowsL (e + 1) (xs.take (i + 1)) = R2 at *
          have fa : flatD (.tuple ra) = true := flatAll_of fun y hy => (ga y hy).flatD
          have fb : flatD (.tuple rb) = true := flatAll_of fun y hy => (gb y hy).flatD
          have t3 : TupK Hb (upd Hb l (.lst (R.map V.str ++ [.str "try"]))) := .lst hlb
          have k3 : Kp [] H (upd Hb l (.lst (R.map V.str ++ [.str "try"]))) := k2.upd_loc hl
          have hl3 : (upd Hb l (.lst (R.map V.str ++ [.str "try"]))) l = some (.lst ((R ++ [("try" : Str)]).map V.str)) := by rw [upd_same, List.map_append]; rfl
          have s3 := seqT_tups t3 hs2
          have w3 := seqT_tups t3 hw
          have da3 := Dp.tups t3 _ _ fa d3
          have db3 := Dp.tups t3 _ _ fb d5
          clear t3
          generalize (upd Hb l (.lst (R.map V.str ++ [.str "try"]))) = H3 at *
          walk_at "S"
          refine ⟨u1, ra, rfl, da3, ga, by omega, fun H4 p k4 hp hp4 => ?_⟩
          have hl4 := k4.get trivial hl3
          walk_at "S"
          refine s_extend hl4 hp4 (small_le (by simp only [List.length_map, List.length_append, List.length_cons, List.length_nil]; omega)) ?_
          have t5 : TupK H3 (upd H4 l (.lst ((R ++ [("try" : Str)]).map V.str ++ (rowsL e ra).map V.str))) := (TupK.of k4 (fun x hx => absurd hx List.not_mem_nil)).trans (.lst hl4)
          have k5 : Kp [] H (upd H4 l (.lst ((R ++ [("try" : Str)]).map V.str ++ (rowsL e ra).map V.str))) := (k3.tr k4).upd_loc hl
          have hl5 : (upd H4 l (.lst ((R ++ [("try" : Str)]).map V.str ++ (rowsL e ra).map V.str))) l = some (.lst (((R ++ [("try" : Str)]) ++ rowsL e ra).map V.str)) := by rw [upd_same, List.map_append (l₂ := rowsL e ra)]
          have s5 := seqT_tups t5 s3
          have w5 := seqT_tups t5 w3
          have db5 := Dp.tups t5 _ _ fb db3
          clear t5
          generalize (upd H4 l (.lst ((R ++ [("try" : Str)]).map V.str ++ (rowsL e ra).map V.str))) = H5 at *
          walk_at "S"
          refine ⟨small_le (by simp), fun D1 hD1 => ?_⟩
          have t6 : TupK H5 (upd H5 D1 (.lst [.str "caught"])) := .new hD1
          have s6 := seqT_tups t6 s5
          have w6 := seqT_tups t6 w5
          walk_at "S"
          refine s_listT w6 fun D2 hD2 => ?_
          walk_at "S"
          refine s_cat (by walk_at "L") (by walk_at "L") (small_le (by simp only [List.length_map, List.length_append, List.length_cons, List.length_nil]; have := gw.few; omega)) fun D3 hD3 => ?_
          walk_at "S"
          refine s_joinL (zs := ("caught" : Str) :: ws) (sq_l upd_same) (caught_sum gw) ?_
          have hl8 : upd (upd (upd H5 D1 (.lst [.str "caught"])) D2 (.lst (ws.map V.str))) D3 (.lst ([.str "caught"] ++ ws.map V.str)) l = some (.lst (((R ++ [("try" : Str)]) ++ rowsL e ra).map V.str)) := by walk_at "L"
          have k8 : Kp [] H (upd (upd (upd H5 D1 (.lst [.str "caught"])) D2 (.lst (ws.map V.str))) D3 (.lst ([.str "caught"] ++ ws.map V.str))) := by walk_at "K"
          have t8 : TupK H5 (upd (upd (upd H5 D1 (.lst [.str "caught"])) D2 (.lst (ws.map V.str))) D3 (.lst ([.str "caught"] ++ ws.map V.str))) := (t6.trans (.new hD2)).trans (.new hD3)
          have s8 := seqT_tups t8 s5
          have db8 := Dp.tups t8 _ _ fb db5
          clear t8 t6
          generalize upd (upd (upd H5 D1 (.lst [.str "caught"])) D2 (.lst (ws.map V.str))) D3 (.lst ([.str "caught"] ++ ws.map V.str)) = H8 at *
          walk_at "S"
          refine s_append hl8 (small_lt (by simp only [List.length_map, List.length_append, List.length_cons, List.length_nil]; omega)) ?_
          have t9 : TupK H8 (upd H8 l (.lst (((R ++ [("try" : Str)]) ++ rowsL e ra).map V.str ++ [.str (caughtS ws)]))) := .lst hl8
          have s9 := seqT_tups t9 s8
          have db9 := Dp.tups t9 _ _ fb db8
          have hl9 : upd H8 l (.lst (((R ++ [("try" : Str)]) ++ rowsL e ra).map V.str ++ [.str (caughtS ws)])) l = some (.lst ((((R ++ [("try" : Str)]) ++ rowsL e ra) ++ [caughtS ws]).map V.str)) := by rw [upd_same, List.map_append (l₂ := [caughtS ws])]; rfl
          have k9 : Kp [] H (upd H8 l (.lst (((R ++ [("try" : Str)]) ++ rowsL e ra).map V.str ++ [.str (caughtS ws)]))) := k8.upd_loc hl
          clear t9
          change tSeq _ _ _ _ (upd H8 l (.lst (((R ++ [("try" : Str)]) ++ rowsL e ra).map V.str ++ [.str (caughtS ws)])))
          generalize upd H8 l (.lst (((R ++ [("try" : Str)]) ++ rowsL e ra).map V.str ++ [.str (caughtS ws)])) = H9 at *
          walk_at "S"
          refine ⟨u3, rb, rfl, db9, gb, by omega, fun H10 p2 k10 hp2 hp10 => ?_⟩
          have hl10 := k10.get trivial hl9
          walk_at "S"
          refine s_extend hl10 hp10 (small_le (by simp only [List.length_map, List.length_append, List.length_cons, List.length_nil]; omega)) ?_
          walk_at "S"
          refine s_append upd_same (small_lt (by simp only [List.length_map, List.length_append, List.length_cons, List.length_nil]; omega)) ?_
          refine ⟨_, rfl, ?_, ?_⟩
          · exact ((k9.tr k10).upd_loc hl).upd_loc hl
          · rw [upd_same, ec2]
            simp only [List.map_append, List.map_cons, List.append_assoc, List.cons_append, List.nil_append, List.map_nil]
      · obtain ⟨o, rfl, k2, hl2⟩ := I
        rw [List.take_of_length_le (by omega)] at hl2
        walk_at "S"
        exact q _ _ k2 hl hl2
theorem lines_all {f : Addr} {fd : FuncData} (F : Fun K "lines_of" "lines_of" s_lines_of f fd) (T : Txt K mg)
    (m1 : mg "lines_of" = some (.ref f)) (k1 : PySem.W.keepIn K (.ref f) = true) (b1 : Binds K fd ["rows"] []) :
    ∀ d : Nat, FnOk P w K mg base CX0 (d + 2) f fd ["rows"] (spLines K d)
  | 0 => ok_lines_of (d := 0) F T ⟨_, _, ⟨fun _ _ _ _ z => z.elim, fun _ _ _ _ _ _ _ _ _ _ _ _ _ z => z.elim⟩, m1, k1, b1⟩
  | d + 1 => ok_lines_of (d := d + 1) F T ⟨_, _, lines_all F T m1 k1 b1 d, m1, k1, b1⟩
def spText (K : PySem.W.Frag) : Sp := fun vs H Q _ => ∃ (v : V) (xs : List PyData), vs = [v] ∧ Dp K H v (.tuple xs) ∧ (∀ x ∈ xs, OkRow 3 x) ∧ cnts 3 xs ≤ 1000 ∧
  ∀ H', Kp [] H H' → Q (.str (textOf (rowsL 3 xs))) H'
theorem ok_body_text {f : Addr} {fd : FuncData} (F : Fun K "body_text" "body_text" s_body_text f fd)
    (D_lines_of : DnF P w K mg base 5 "lines_of" ["rows"] (spLines K 3)) :
    FnOk P w K mg base CX0 6 f fd ["body"] (spText K) := by
  refine F.ok sc_body_text (fun vs H Q E h => ?_) (fun cdv A outer s H vs Q E hr h => ?_)
  · obtain ⟨v, xs, rfl, _⟩ := h
    rfl
  · obtain ⟨f_lines_of, fd_lines_of, G_lines_of, m_lines_of, k_lines_of, b_lines_of⟩ := D_lines_of
    obtain ⟨v, xs, rfl, hd, hg, hc, q⟩ := h
    have ll := OkRow.linesAll hg
    refine ⟨_, (pss_one (ps_ret (pe_m1 PySem.F.slot_str_join PySem.F.type_str_join (joinK (K := K) rfl) pe_str (pe_lc (own := [("line", 1)]) (g := gName 1) (tt := tYes) rfl sc_body_text.nd (kiL (K := K) rfl (pi_list (pe_call G_lines_of (hr.mono (by first | decide | omega)) (by rfl) m_lines_of k_lines_of b_lines_of .nil pass0 (pa_cons (pv 0) pa_nil)))) (blkOk_by (own := [("line", 1)]) (N := N_body_text) (sc := (defScope s_body_text)) (by decide +kernel)) (fun _ _ _ _ _ => (pg_name (i := 1) sc_body_text.nd rfl (Or.inl rfl))) (fun _ _ _ _ _ => pts_nil) (fun _ _ _ _ _ => (pe_op addS (pv 1) pe_str)))))), ?_⟩
    refine st_start (σ' := [some v, none]) rfl ?_
    walk_at "S"
    refine ⟨v, xs, rfl, hd, hg, hc, fun H1 p k1 hp hp1 => ?_⟩
    walk_at "S"
    refine ⟨⟨_, sq_l hp1⟩, fun D hD => ?_⟩
    generalize rowsL 3 xs = ls at *
    have L : LcOk D (ls.map V.str).length (fun i => ((ls.map (fun z : Str => z ++ ("\n" : Str))).map V.str).take i) [] H1 (fun _ _ => True) :=
      .ofTake (by rw [List.length_map]; exact small_le (by omega)) hD trivial (fun _ _ _ h => h)
    refine lc_go (walk_list (K := K) (a := p) (xs := ls.map V.str)) L trivial (fun H3 k3 => k3.seqL trivial (sq_l hp1)) (fun j x H3 H' hj J y => ?_) fun H3 J => ?_
    · obtain ⟨rfl, hx3⟩ := y
      rw [List.getElem?_map] at hx3
      obtain ⟨z, ez, rfl⟩ : ∃ z, ls[j]? = some z ∧ x = V.str z := by
        cases e : ls[j]? with
        | none => rw [e] at hx3; cases hx3
        | some z => rw [e] at hx3; exact ⟨z, rfl, (Option.some.inj hx3).symm⟩
      walk_at "S"
      refine ⟨rfl, ?_⟩
      walk_at "S"
      have nz := (ll.1 z (List.mem_of_getElem? ez)).len
      have n1 : ("\n" : Str).length = 1 := by decide +kernel
      refine s_addS (small_le (by rw [n1]; omega)) ?_
      refine J.put L hj (take_put ?_) Kp.refl trivial
      rw [List.getElem?_map, List.getElem?_map, ez]
      rfl
    · obtain ⟨p1, k3, _⟩ := J
      dsimp only at p1
      rw [List.take_of_length_le (by simp)] at p1
      walk_at "S"
      have eL : ("" : Str).length = 0 := by decide +kernel
      have sm := nl_sum fun z hz => (ll.1 z hz).len
      refine s_joinL (zs := ls.map (fun z : Str => z ++ ("\n" : Str))) (sq_l p1) (by rw [eL]; omega) ?_
      exact q _ (k1.tr k3)
end

def spNum (K : PySem.W.Frag) : Sp := fun vs H Q _ => ∃ z : Str, vs = [.str z] ∧ z.length ≤ 640 ∧ ∀ H' v, Kp [] H H' → Dp K H' v (numX z) → Q v H'
def spRowInW (K : PySem.W.Frag) : Sp := fun vs H Q _ => ∃ (a : Addr) (ws : List Str), vs = [.ref a] ∧ SqL K H a (ws.map V.str) ∧ ws ≠ [] ∧ ws.length ≤ 100010 ∧ (∀ z ∈ ws, z.length ≤ 640) ∧
  ∀ H' v, Kp [] H H' → Dp K H' v (rowInX ws) → Q v H'
theorem mkS_str {a b : List Nat} : (V.str (mkS a) = V.str (mkS b)) ↔ a = b := ⟨fun h => mkS_inj (V.str.inj h), fun h => by rw [h]⟩
section
variable {P : Program} {w : World} {K : PySem.W.Frag} {mg : Str → Option Value} {base : Heap}
theorem ok_number_in {f : Addr} {fd : FuncData} (F : Fun K "number_in" "number_in" s_number_in f fd) (T : Txt K mg) :
    FnOk P w K mg base CX0 1 f fd ["word"] (spNum K) := by
  refine F.ok sc_number_in (fun vs H Q E h => ?_) (fun cdv A outer s H vs Q E hr h => ?_)
  · obtain ⟨z, rfl, _⟩ := h
    rfl
  · obtain ⟨t_FIGURES, hc_FIGURES⟩ := T.c_FIGURES
    obtain ⟨z, rfl, hz, q⟩ := h
    have hzl := small_le (n := z.length) (by omega)
    refine ⟨_, (pss_cons (ps_set (i := 1) sc_number_in.nd rfl (Or.inl rfl) (pv 0))
      (pss_cut2 (ps_if (pt_val (pe_m1 PySem.F.slot_str_startswith PySem.F.type_str_startswith startsR (pv 0) pe_str)) (pss_one (ps_set (i := 1) sc_number_in.nd rfl (Or.inl rfl) (pe_slice sl_str (pv 0) (po_some pe_int) po_none))) pss_nil)
      (pss_cons (ps_if (PW.pt (pw_or (pt_cmpR op_eq (pv 1) pe_str (nomark _)) (pw_or1 (pt_not (pt_val (pe_callB (allK (K := K) rfl rfl) (by rfl) T.n_all (by decide +kernel) (pa_cons (pe_lc (own := [("sign", 3)]) (g := gName 3) (tt := tYes) rfl sc_number_in.nd (pi_str (pv 1)) (blkOk_by (own := [("sign", 3)]) (N := N_number_in) (sc := (defScope s_number_in)) (by decide +kernel)) (fun _ _ _ _ _ => (pg_name (i := 3) sc_number_in.nd rfl (Or.inl rfl))) (fun _ _ _ _ _ => pts_nil) (fun _ _ _ _ _ => (pe_cmpR inSg (pv 3) (pe_glob (v := .str "0123456789") rfl hc_FIGURES ⟨_, rfl⟩) rfl))) pa_nil))))))) (pss_one (ps_ret pe_non)) pss_nil)
      (pss_cons (ps_set (i := 2) sc_number_in.nd rfl (Or.inl rfl) (pe_callTy intOfR (by rfl) T.n_int (by decide +kernel) (pa_cons (pv 1) pa_nil)))
      (pss_cons (ps_if (pt_cmpR op_ne (pv 1) (pv 0) (nomark _)) (pss_one (ps_ret (pe_un un_neg (pv 2)))) pss_nil)
      (pss_one (ps_ret (pv 2)))))))), ?_⟩
    refine st_start (σ' := [some (.str z), none, none, none]) rfl ?_
    walk_at "S"
    refine s_cut (fun σ H2 => σ = [some (.str z), some (.str (mkS (figsL (tl z)))), none, none] ∧ H2 = H) (fun J hJ => ?_) ?_
    · walk_at "S"
      refine s_starts ?_
      rw [starts_minus]
      walk_at "S"
      cases hl : tl z with
      | nil =>
        refine i_F ?_
        walk_at "S"
        refine hJ _ _ ⟨?_, rfl⟩
        have e : z = mkS [] := by rw [← hl, mkS_tl]
        rw [e]
        rfl
      | cons c r =>
        by_cases h : c = 45
        · subst h
          rw [show pre [45] (45 :: r) = true from by simp [pre]]
          walk_at "S"
          rw [cut1 hl]
          refine hJ _ _ ⟨?_, rfl⟩
          rw [hl, figsL_minus]
          rfl
        · rw [pre_of_head _ _ h]
          walk_at "S"
          refine hJ _ _ ⟨?_, rfl⟩
          have e : z = mkS (c :: r) := by rw [← hl, mkS_tl]
          rw [hl, show figsL (c :: r) = c :: r from by unfold figsL; exact if_neg h, ← e]
          rfl
    · rintro σ H2 ⟨rfl, rfl⟩
      have fl : (figsL (tl z)).length ≤ z.length := by
        rw [len_tl]
        cases tl z with
        | nil => exact Nat.le_refl _
        | cons c r =>
          show (if c = 45 then r else c :: r).length ≤ _
          split <;> simp
      have nx : numX z = if figsL (tl z) = [] ∨ ((figsL (tl z)).all fun c => decide (c ∈ figL)) = false then .none
        else if figsL (tl z) = tl z then .int (NumText.digitsVal (figsL (tl z)) : Nat) else .int (-((NumText.digitsVal (figsL (tl z)) : Nat) : Int)) := rfl
      have ez : z = mkS (tl z) := (mkS_tl z).symm
      generalize hF : figsL (tl z) = fs at *
      walk_at "S"
      refine s_dec (fun h => ?_) (fun h => ?_)
      · have e : fs = [] := mkS_inj (b := []) (V.str.inj h)
        rw [nx, if_pos (.inl e)] at q
        walk_at "S"
        exact q _ _ Kp.refl .non
      have ne : fs ≠ [] := fun e => h (by rw [e]; rfl)
      walk_at "S"
      intro D hD
      have L : LcOk D (mkS fs).cps.size (fun i => ((fs.map fun c => decide (c ∈ figL)).take i).map V.bl) [] H2 (fun _ _ => True) :=
        ⟨small_le (by show fs.toArray.size ≤ _; simp; omega), rfl, fun i hi => by rw [List.length_map, List.length_take]; omega, hD, trivial, fun _ _ _ h => h⟩
      refine lc_go walk_str L trivial (fun _ _ => trivial) (fun i x H3 H' hi I y => ?_) fun H3 I => ?_
      · obtain ⟨rfl, c, hc, rfl⟩ := y
        walk_at "S"
        refine ⟨rfl, ?_⟩
        walk_at "S"
        refine I.put L hi ?_ Kp.refl trivial
        have e1 : (fs.map fun c => decide (c ∈ figL))[i]? = some (decide (c ∈ figL)) := by
          rw [List.getElem?_map, show fs[i]? = some c by simpa [mkS] using hc]
          rfl
        show List.map V.bl (List.take (i + 1) _) = _
        rw [take_put e1, List.map_append]
        rfl
      obtain ⟨p1, k3, _⟩ := I
      dsimp only at p1
      rw [List.take_of_length_le (by simp [mkS])] at p1
      walk_at "S"
      refine s_all (sq_l p1) ?_
      rw [List.all_map, show ((id : Bool → Bool) ∘ fun c => decide (c ∈ figL)) = fun c => decide (c ∈ figL) from rfl]
      walk_at "S"
      refine s_bool (fun h2 => ?_) (fun h2 => ?_)
      · have h2' : (fs.all fun c => decide (c ∈ figL)) = false := by simpa using h2
        rw [nx, if_pos (.inr h2')] at q
        walk_at "S"
        exact q _ _ k3 .non
      have h2' : (fs.all fun c => decide (c ∈ figL)) = true := by simpa using h2
      rw [nx, if_neg (by rw [h2']; simp [ne])] at q
      have dig : NumText.AllDigits fs := fun c hc => (mem_figL c).mp (of_decide_eq_true (List.all_eq_true.mp h2' c hc))
      walk_at "S"
      refine s_intOf (n := ((NumText.digitsVal fs : Nat) : Int)) (intText_digits dig ne (by rw [mkS_len]; omega)) (by rw [mkS_len]; omega) ?_
      walk_at "S"
      refine s_ndec (fun h3 => ?_) (fun h3 => ?_)
      · rw [if_neg fun e => h3 (by rw [e, ← ez])] at q
        walk_at "S"
        exact q _ _ k3 (.int _)
      · have e : fs = tl z := by
          have := V.str.inj h3
          rw [ez] at this
          exact mkS_inj this
        rw [if_pos e] at q
        walk_at "S"
        exact q _ _ k3 (.int _)
theorem ok_row_of {f : Addr} {fd : FuncData} (F : Fun K "row_in" "row_in" s_row_in f fd) (T : Txt K mg)
    (D_number_in : DnF P w K mg base 1 "number_in" ["word"] (spNum K)) : FnOk P w K mg base CX0 2 f fd ["words"] (spRowInW K) := by
  refine F.ok sc_row_in (fun vs H Q E h => ?_) (fun cdv A outer s H vs Q E hr h => ?_)
  · obtain ⟨a, ws, rfl, _⟩ := h
    rfl
  · obtain ⟨f_number_in, fd_number_in, G_number_in, m_number_in, k_number_in, b_number_in⟩ := D_number_in
    obtain ⟨a, ws, rfl, hs, ne, nl, hw, q⟩ := h
    obtain ⟨w0, r, rfl⟩ : ∃ w0 r, ws = w0 :: r := by
      cases ws with
      | nil => exact absurd rfl ne
      | cons w0 r => exact ⟨_, _, rfl⟩
    have e0 : atI ((w0 :: r).map V.str) ((0 : Nat) : Int) = some (.str w0) := atI_nat rfl
    have other : ¬ (w0 = "set" ∧ (w0 :: r).length = 3) → ∀ H2 u, Kp [] H H2 → H2 u = some (.tup ((w0 :: r).map V.str)) → Q (.ref u) H2 := fun n H2 u k e => by
      refine q _ _ k ?_
      rw [show rowInX (w0 :: r) = .tuple ((w0 :: r).map .str) from if_neg n]
      exact .tup (sq_t e) (dpStrs _)
    refine ⟨_, (pss_cons (ps_if (PW.pt (pw_and (pt_cmpR op_eq (pe_ix (ixLK (K := K) rfl) (pv 0) pe_int (fun _ _ => rfl)) pe_str (nomark _)) (pw_and1 (pt_cmpR op_eq (pe_callB (lenK (K := K) rfl) (by rfl) T.n_len (by decide +kernel) (pa_cons (pv 0) pa_nil)) pe_int (nomark _))))) (pss_one (ps_ret (pe_tup (pa_cons pe_str (pa_cons (pe_ix (ixLK (K := K) rfl) (pv 0) pe_int (fun _ _ => rfl)) (pa_cons (pe_call G_number_in (hr.mono (by first | decide | omega)) (by rfl) m_number_in k_number_in b_number_in .nil pass0 (pa_cons (pe_ix (ixLK (K := K) rfl) (pv 0) pe_int (fun _ _ => rfl)) pa_nil)) pa_nil)))))) pss_nil)
      (pss_one (ps_ret (pe_callTy (tupleK (K := K) rfl) (by rfl) T.n_tuple (by decide +kernel) (pa_cons (pv 0) pa_nil))))), ?_⟩
    refine st_start (σ' := [some (.ref a)]) rfl ?_
    walk_at "S"
    refine s_ixL hs e0 ?_
    walk_at "S"
    refine s_dec (fun h1 => ?_) (fun h1 => ?_)
    · have h1' := V.str.inj h1
      walk_at "S"
      refine s_dec (fun h2 => ?_) (fun h2 => ?_)
      · have h2' : (w0 :: r).length = 3 := by
          have := V.int.inj h2
          rw [List.length_map] at this
          omega
        obtain ⟨w1, w2, rfl⟩ : ∃ w1 w2, r = [w1, w2] := by
          match r, h2' with
          | [w1, w2], _ => exact ⟨w1, w2, rfl⟩
        walk_at "S"
        refine ⟨w2, rfl, hw w2 (by simp), fun H2 v k2 d2 => ?_⟩
        walk_at "S"
        refine ⟨small_le (by simp), fun t ht => ?_⟩
        refine q _ _ (k2.upd_new ht) ?_
        rw [show rowInX [w0, w1, w2] = .tuple [.str "set", .str w1, numX w2] from if_pos ⟨h1', h2'⟩]
        exact .tup (sq_t upd_same) (.cons (.str _) (.cons (.str _) (.cons (Dp.same (Kp.refl.upd_new ht) _ _ d2) .nil)))
      · walk_at "S"
        refine s_tupL hs fun t ht => ?_
        exact other (fun z => h2 (by rw [List.length_map, z.2]; rfl)) _ _ (Kp.refl.upd_new ht) upd_same
    · walk_at "S"
      refine s_tupL hs fun t ht => ?_
      exact other (fun z => h1 (by rw [z.1])) _ _ (Kp.refl.upd_new ht) upd_same
end

def spRowsInL (K : PySem.W.Frag) : Sp := fun vs H Q _ => ∃ (a : Addr) (ls : List Str), vs = [.ref a] ∧ SqL K H a (ls.map V.str) ∧ ls.length ≤ 100000 ∧ (∀ z ∈ ls, z.length ≤ 100000 ∧ ∀ y ∈ Txt.split z " ", y.length ≤ 640) ∧
  (∀ H' v xs, Kp [] H H' → runR ([], []) ls = some ([], xs) → flatAll xs = true → Dp K H' v (.tuple xs) → Q v H') ∧
  (∀ H', Kp [] H H' → (∀ xs, runR ([], []) ls ≠ some ([], xs)) → Q .non H')
section
variable {P : Program} {w : World} {K : PySem.W.Frag} {mg : Str → Option Value} {base : Heap}
theorem ok_rows_in {f : Addr} {fd : FuncData} (F : Fun K "rows_in" "rows_in" s_rows_in f fd) (T : Txt K mg)
    (D_row_in : DnF P w K mg base 2 "row_in" ["words"] (spRowInW K)) : FnOk P w K mg base CX0 3 f fd ["lines"] (spRowsInL K) := by
  refine F.ok sc_rows_in (fun vs H Q E h => ?_) (fun cdv A outer s H vs Q E hr h => ?_)
  · obtain ⟨a, ls, rfl, _⟩ := h
    rfl
  · obtain ⟨f_row_in, fd_row_in, G_row_in, m_row_in, k_row_in, b_row_in⟩ := D_row_in
    obtain ⟨a, ls, rfl, hs, nl, hw, q1, q2⟩ := h
    refine ⟨_, (pss_cons (ps_set (i := 1) sc_rows_in.nd rfl (Or.inl rfl) (pe_lst pa_nil))
      (pss_cons (ps_set (i := 2) sc_rows_in.nd rfl (Or.inl rfl) (pe_lst pa_nil))
      (pss_cons (ps_for PassesOwn.never rfl (kiL (K := K) rfl (pi_list (pv 0))) (pg_name (i := 3) sc_rows_in.nd rfl (Or.inl rfl)) (pss_cons (ps_set (i := 4) sc_rows_in.nd rfl (Or.inl rfl) (pe_m1 PySem.F.slot_str_split PySem.F.type_str_split splitR (pv 3) pe_str))
      (pss_one (ps_if (pt_cmpR op_eq (pv 3) pe_str (nomark _)) (pss_cons (ps_expr (kBM (K := K) rfl (pe_bm PySem.F.plainAttrs_list PySem.F.slot_list_append PySem.F.type_list_append mt_append (pv 1) (pa_cons (pe_lst (pa_cons (pv 2) (pa_cons pe_non (pa_cons pe_non pa_nil)))) pa_nil))))
      (pss_one (ps_set (i := 2) sc_rows_in.nd rfl (Or.inl rfl) (pe_lst pa_nil)))) (pss_one (ps_if (pt_cmpR op_eq (pe_ix (ixLK (K := K) rfl) (pv 4) pe_int (fun _ _ => rfl)) pe_str (nomark _)) (pss_cons (ps_if (PW.pt (pw_or (pt_cmpR (eqNilK (K := K) rfl hr.units) (pv 1) (pe_lst pa_nil) (nomark _)) (pw_or1 (pt_cmpR op_notN (pe_ix (ixLK (K := K) rfl) (pe_ix (ixLK (K := K) rfl) (pv 1) (pe_un un_neg pe_int) (fun _ _ => rfl)) pe_int (fun _ _ => rfl)) pe_non (nomark _))))) (pss_one (ps_ret pe_non)) pss_nil)
      (pss_cons (ps_asg (pe_callTy (tupleK (K := K) rfl) (by rfl) T.n_tuple (by decide +kernel) (pa_cons (pv 2) pa_nil)) (pg_sub (pe_ix (ixLK (K := K) rfl) (pv 1) (pe_un un_neg pe_int) (fun _ _ => rfl)) pe_int set_list))
      (pss_cons (ps_asg (pe_callTy (tupleK (K := K) rfl) (by rfl) T.n_tuple (by decide +kernel) (pa_cons (pe_slice (slLK (K := K) rfl) (pv 4) (po_some pe_int) po_none) pa_nil)) (pg_sub (pe_ix (ixLK (K := K) rfl) (pv 1) (pe_un un_neg pe_int) (fun _ _ => rfl)) pe_int set_list))
      (pss_one (ps_set (i := 2) sc_rows_in.nd rfl (Or.inl rfl) (pe_lst pa_nil)))))) (pss_one (ps_if (pt_cmpR op_eq (pv 3) pe_str (nomark _)) (pss_cons (ps_if (PW.pt (pw_or (pt_cmpR (eqNilK (K := K) rfl hr.units) (pv 1) (pe_lst pa_nil) (nomark _)) (pw_or1 (pt_cmpR op_isN (pe_ix (ixLK (K := K) rfl) (pe_ix (ixLK (K := K) rfl) (pv 1) (pe_un un_neg pe_int) (fun _ _ => rfl)) pe_int (fun _ _ => rfl)) pe_non (nomark _))))) (pss_one (ps_ret pe_non)) pss_nil)
      (pss_cons (ps_asg (kBM0 (K := K) rfl (pe_bm0 PySem.F.plainAttrs_list PySem.F.slot_list_pop PySem.F.type_list_pop mt_pop (pv 1))) (kgU (K := K) rfl (pg_unl rfl (pgs_cons (pg_name (i := 5) sc_rows_in.nd rfl (Or.inl rfl)) (pgs_cons (pg_name (i := 6) sc_rows_in.nd rfl (Or.inl rfl)) (pgs_cons (pg_name (i := 7) sc_rows_in.nd rfl (Or.inl rfl)) pgs_nil))))))
      (pss_one (ps_set (i := 2) sc_rows_in.nd rfl (Or.inl rfl) (pe_op op_cat (pv 5) (pe_lst (pa_cons (pe_tup (pa_cons pe_str (pa_cons (pv 6) (pa_cons (pv 7) (pa_cons (pe_callTy (tupleK (K := K) rfl) (by rfl) T.n_tuple (by decide +kernel) (pa_cons (pv 2) pa_nil)) pa_nil))))) pa_nil))))))) (pss_one (ps_expr (kBM (K := K) rfl (pe_bm PySem.F.plainAttrs_list PySem.F.slot_list_append PySem.F.type_list_append mt_append (pv 2) (pa_cons (pe_call G_row_in (hr.mono (by first | decide | omega)) (by rfl) m_row_in k_row_in b_row_in .nil pass0 (pa_cons (pv 4) pa_nil)) pa_nil)))))))))))))
      (pss_cons (ps_if (pt_cmpR (neNilK (K := K) rfl hr.units) (pv 1) (pe_lst pa_nil) (nomark _)) (pss_one (ps_ret pe_non)) pss_nil)
      (pss_one (ps_ret (pe_callTy (tupleK (K := K) rfl) (by rfl) T.n_tuple (by decide +kernel) (pa_cons (pv 2) pa_nil)))))))), ?_⟩
    refine st_start (σ' := [some (.ref a), none, none, none, none, none, none, none]) rfl ?_
    walk_at "S"
    refine ⟨small_le (by simp), fun t ht => ?_⟩
    walk_at "S"
    refine ⟨small_le (by simp), fun h0 hh0 => ?_⟩
    walk_at "S"
    have hh0' : H h0 = none := (Kp.refl.upd_new ht).free (W := []) trivial hh0
    have nth : t ≠ h0 := ne_of_none upd_same hh0
    refine ⟨⟨_, ((Kp.refl.upd_new ht).upd_new hh0).seqL (W := []) trivial hs⟩, ?_⟩
    refine for_go (walk_list (K := K) (a := a) (xs := ls.map V.str)) (fun i σ H2 => ∃ (h : Addr) (o3 o4 o5 o6 o7 : Option V) (s : RSt) (ps : List (Addr × Addr)),
        σ = [some (.ref a), some (.ref t), some (.ref h), o3, o4, o5, o6, o7] ∧ runR ([], []) (ls.take i) = some s ∧ RelR K H H2 t h s i ps)
      ⟨h0, _, _, _, _, _, ([], []), [], rfl, rfl, .nil, (upd_ne nth).trans upd_same, by simp [adrs, nth], fun p hp => absurd hp List.not_mem_nil, ⟨[], upd_same, .nil⟩, rfl, ht, hh0', (Kp.refl.upd_new ht).upd_new hh0, Nat.le_refl _, Nat.le_refl _, fun p hp => absurd hp List.not_mem_nil⟩
      (fun i σ H2 hi I => by obtain ⟨_, _, _, _, _, _, _, _, _, _, R⟩ := I; exact R.kp.seqL trivial hs) (fun i x σ Ha Hb hi I y => ?_) fun σ H2 I => ?_
    · obtain ⟨rfl, hx⟩ := y
      obtain ⟨h, o3, o4, o5, o6, o7, s, ps, rfl, hrun, R⟩ := I
      rw [List.getElem?_map] at hx
      obtain ⟨z, ez, rfl⟩ : ∃ z, ls[i]? = some z ∧ x = V.str z := by
        cases e : ls[i]? with
        | none => rw [e] at hx; cases hx
        | some z => rw [e] at hx; exact ⟨z, rfl, (Option.some.inj hx).symm⟩
      obtain ⟨hz1, hz2⟩ := hw z (List.mem_of_getElem? ez)
      have hi' : i < 100000 := by rw [List.length_map] at hi; omega
      have b32 : (" " : Str).cps.all (· < 256) = true := by decide +kernel
      have wn := split_ne z " " (by rw [tl_blank]; simp) b32
      have wc := split_count z " " (by rw [tl_blank]; simp) b32
      walk_at "S"
      refine s_splitS (by decide +kernel) (small_le (by omega)) fun wp hwp => ?_
      have ow := R.off hwp
      have R1 := R.same (Kp.refl.upd_new (o := .lst ((Txt.split z " ").map V.str)) hwp)
      have hwl : upd Hb wp (.lst ((Txt.split z " ").map V.str)) wp = some (.lst ((Txt.split z " ").map V.str)) := upd_same
      generalize upd Hb wp (.lst ((Txt.split z " ").map V.str)) = H1 at *
      obtain ⟨w0, wr, hsp⟩ : ∃ w0 wr, Txt.split z " " = w0 :: wr := by
        cases e : Txt.split z " " with
        | nil => exact absurd e wn
        | cons w0 wr => exact ⟨_, _, rfl⟩
      rw [hsp] at hwl hz2 wc
      have R1t := R1.tl
      walk_at "S"
      refine s_dec (fun h1 => ?_) (fun h1 => ?_)
      · -- try
        have h1' := V.str.inj h1
        walk_at "S"
        refine ⟨small_le (by simp), fun D hD => ?_⟩
        walk_at "S"
        have pl := R1.fr.len
        have p1 := R1.n1
        refine s_append (by walk_at "L") (small_lt (by simp; omega)) ?_
        walk_at "S"
        refine ⟨small_le (by simp), fun hn hhn => ?_⟩
        walk_at "S"
        have ntD : t ≠ D := ne_of_none R1t hD
        have e2 : upd (upd H1 D (.lst [.ref h, .non, .non])) t (.lst ((ps.map fun p => V.ref p.1).reverse ++ [.ref D])) D = some (.lst [.ref h, .non, .non]) := (upd_ne ntD.symm).trans upd_same
        have nDh : D ≠ hn := ne_of_none e2 hhn
        have nth : t ≠ hn := ne_of_none upd_same hhn
        have k4 : Kp [t] H1 (upd (upd (upd H1 D (.lst [.ref h, .non, .non])) t (.lst ((ps.map fun p => V.ref p.1).reverse ++ [.ref D]))) hn (.lst [])) := by walk_at "K"
        have nh1 : H1 hn = none := ((Kp.refl.upd_new hD).upd_mem (W := [t]) List.mem_cons_self).free (nin1 nth.symm) hhn
        have t4 : TupK H1 (upd (upd (upd H1 D (.lst [.ref h, .non, .non])) t (.lst ((ps.map fun p => V.ref p.1).reverse ++ [.ref D]))) hn (.lst [])) :=
          ((TupK.new hD).trans (.lst ((upd_ne ntD).trans R1t))).trans (.new hhn)
        have Rn := R1.push (hn := hn) (D := D) k4 t4 ((upd_ne nth).trans upd_same) ((upd_ne nDh).trans e2) hD nh1 upd_same nDh
        refine ⟨hn, _, _, _, _, _, _, _, rfl, runR_take hrun ez ?_, Rn⟩
        rw [h1']
        exact stepR_try s
      have h1' : z ≠ "try" := fun e => h1 (by rw [e])
      walk_at "S"
      refine s_ixL (xs := (w0 :: wr).map V.str) (sq_l hwl) (k := ((0 : Nat) : Int)) (atI_nat rfl) ?_
      walk_at "S"
      refine s_dec (fun h2 => ?_) (fun h2 => ?_)
      · have h2' := V.str.inj h2
        walk_at "S"
        refine ⟨small_le (by simp), fun E0 hE => ?_⟩
        have R2 := R1.same (Kp.refl.upd_new (o := .lst []) hE)
        have hE2 : upd H1 E0 (.lst []) E0 = some (.lst []) := upd_same
        have hwl2 : upd H1 E0 (.lst []) wp = some (.lst ((w0 :: wr).map V.str)) := by walk_at "L"
        generalize upd H1 E0 (.lst []) = H2 at *
        walk_at "S"
        refine s_nil0 (sq_l R2.tl) (sq_l hE2) ?_
        walk_at "S"
        obtain ⟨fs, hr_⟩ := s
        cases ps with
        | nil =>
          have fr := R2.fr
          cases fr with
          | nil =>
            walk_at "S"
            refine q2 _ R2.kp fun xs e => ?_
            rw [runR_fail hrun ez (stepR_mid0 h1' hsp h2')] at e
            cases e
        | cons p ps =>
          obtain ⟨x, y⟩ := p
          have fr := R2.fr
          cases fr with
          | @cons g _ fs _ F0 Fr =>
            have et := R2.tl
            rw [rev_refs] at et
            rw [rev_refs]
            rw [show (((ps.map fun p => V.ref p.1).reverse ++ [V.ref (x, y).1]).isEmpty) = false from by simp]
            walk_at "S"
            refine s_ixL (xs := (ps.map fun p => V.ref p.1).reverse ++ [V.ref x]) (sq_l et) (atI_last1 _ _) ?_
            walk_at "S"
            rcases F0.md with ⟨gm, ex⟩ | ⟨gf, gc, u1, u2, gm, ex, _⟩
            · obtain ⟨ga, gmid⟩ := g
              cases gm
              refine s_ixL (sq_l ex) (v := .non) (k := ((1 : Nat) : Int)) (atI_nat rfl) ?_
              walk_at "S"
              refine s_ndec (fun h => absurd rfl h) (fun _ => ?_)
              walk_at "S"
              obtain ⟨vs, eh, dh⟩ := R2.here
              refine s_tupL (sq_l eh) fun u hu => ?_
              walk_at "S"
              have xu : x ≠ u := ne_of_none ex hu
              refine s_ixL (xs := (ps.map fun p => V.ref p.1).reverse ++ [V.ref x]) (sq_l (by walk_at "L")) (atI_last1 _ _) ?_
              walk_at "S"
              have e3 : upd (upd H2 u (.tup vs)) x (.lst ([.ref y, .non, .non].set (Int.toNat 1) (.ref u))) x = some (.lst [.ref y, .ref u, .non]) := upd_same
              have k3 : Kp [x] H2 (upd (upd H2 u (.tup vs)) x (.lst ([.ref y, .non, .non].set (Int.toNat 1) (.ref u)))) := by walk_at "K"
              have t3 : TupK H2 (upd (upd H2 u (.tup vs)) x (.lst ([.ref y, .non, .non].set (Int.toNat 1) (.ref u)))) := (TupK.new hu).trans (.lst ((upd_ne xu).trans ex))
              have d3 : Dp K (upd (upd H2 u (.tup vs)) x (.lst ([.ref y, .non, .non].set (Int.toNat 1) (.ref u)))) (.ref u) (.tuple hr_) := .tup (sq_t ((upd_ne xu.symm).trans upd_same)) (Dp.tupsAll t3 _ _ R2.fl dh)
              generalize upd (upd H2 u (.tup vs)) x (.lst ([.ref y, .non, .non].set (Int.toNat 1) (.ref u))) = H4 at *
              have nd := R2.nd
              rw [adrs_cons] at nd
              simp only [List.nodup_cons, List.mem_cons, not_or] at nd
              have xw : wp ≠ x := fun e => ow (by rw [adrs_cons]; simp [e])
              have hw4 := k3.get (nin1 xw) hwl2
              have et4 := k3.get (nin1 nd.1.2.1) et
              walk_at "S"
              intro sl hsl
              walk_at "S"
              refine s_tupL (sq_l upd_same) fun u2 hu2 => ?_
              rw [show ((w0 :: wr).map V.str) = V.str w0 :: wr.map V.str from rfl, cut_from1] at hu2 ⊢
              walk_at "S"
              refine s_ixL (xs := (ps.map fun p => V.ref p.1).reverse ++ [V.ref x]) (sq_l (by walk_at "L")) (atI_last1 _ _) ?_
              walk_at "S"
              have ex5 : upd (upd H4 sl (.lst (wr.map V.str))) u2 (.tup (wr.map V.str)) x = some (.lst [.ref y, .ref u, .non]) := by walk_at "L"
              walk_at "S"
              refine ⟨small_le (by simp), fun hn hhn => ?_⟩
              walk_at "S"
              have eu2 : upd (upd (upd H4 sl (.lst (wr.map V.str))) u2 (.tup (wr.map V.str))) x (.lst ([.ref y, .ref u, .non].set (Int.toNat 2) (.ref u2))) u2 = some (.tup (wr.map V.str)) := (upd_ne (fun e => by rw [e, upd_same] at ex5; cases ex5)).trans upd_same
              have k7 : Kp [x] H2 (upd (upd (upd (upd H4 sl (.lst (wr.map V.str))) u2 (.tup (wr.map V.str))) x (.lst ([.ref y, .ref u, .non].set (Int.toNat 2) (.ref u2)))) hn (.lst [])) := by walk_at "K"
              have t47 : TupK H4 (upd (upd (upd (upd H4 sl (.lst (wr.map V.str))) u2 (.tup (wr.map V.str))) x (.lst ([.ref y, .ref u, .non].set (Int.toNat 2) (.ref u2)))) hn (.lst [])) :=
                (((TupK.new hsl).trans (.new hu2)).trans (.lst ex5)).trans (.new hhn)
              have xn : x ≠ hn := ne_of_none upd_same hhn
              have nh2 : H2 hn = none := (Kp.free (W := [x]) (by walk_at "K") (nin1 xn.symm) hhn)
              have Rn := R2.mid (c := wr) k7 (t3.trans t47) ((upd_ne xn).trans upd_same) (Dp.tups t47 _ _ R2.fl d3) (.tup (sq_t ((upd_ne (ne_of_none eu2 hhn)).trans eu2)) (dpStrs wr)) nh2 upd_same
              exact ⟨hn, _, _, _, _, _, _, _, rfl, runR_take hrun ez (stepR_mid h1' hsp h2'), Rn⟩
            · refine s_ixL (sq_l ex) (v := .ref u1) (k := ((1 : Nat) : Int)) (atI_nat rfl) ?_
              walk_at "S"
              refine s_ndec (fun _ => ?_) (fun h => nomatch h)
              walk_at "S"
              refine q2 _ R2.kp fun xs e => ?_
              rw [runR_fail hrun ez (stepR_mid1 h1' hsp h2' gm)] at e
              cases e
      have h2' : w0 ≠ "caught" := fun e => h2 (by rw [e])
      walk_at "S"
      refine s_dec (fun h3 => ?_) (fun h3 => ?_)
      · have h3' := V.str.inj h3
        walk_at "S"
        refine ⟨small_le (by simp), fun E0 hE => ?_⟩
        have R2 := R1.same (Kp.refl.upd_new (o := .lst []) hE)
        have hE2 : upd H1 E0 (.lst []) E0 = some (.lst []) := upd_same
        generalize upd H1 E0 (.lst []) = H2 at *
        walk_at "S"
        refine s_nil0 (sq_l R2.tl) (sq_l hE2) ?_
        walk_at "S"
        obtain ⟨fs, hr_⟩ := s
        cases ps with
        | nil =>
          have fr := R2.fr
          cases fr with
          | nil =>
            walk_at "S"
            refine q2 _ R2.kp fun xs e => ?_
            rw [runR_fail hrun ez (stepR_done0 h1' hsp h2' h3')] at e
            cases e
        | cons p ps =>
          obtain ⟨x, y⟩ := p
          have fr := R2.fr
          cases fr with
          | @cons g _ fs _ F0 Fr =>
            have et := R2.tl
            rw [rev_refs] at et
            rw [rev_refs]
            rw [show (((ps.map fun p => V.ref p.1).reverse ++ [V.ref (x, y).1]).isEmpty) = false from by simp]
            walk_at "S"
            refine s_ixL (xs := (ps.map fun p => V.ref p.1).reverse ++ [V.ref x]) (sq_l et) (atI_last1 _ _) ?_
            walk_at "S"
            rcases F0.md with ⟨gm, ex⟩ | ⟨gf, gc, u1, u2, gm, ex, d1, d2, gfl⟩
            · refine s_ixL (sq_l ex) (v := .non) (k := ((1 : Nat) : Int)) (atI_nat rfl) ?_
              walk_at "S"
              refine s_dec (fun _ => ?_) (fun h => absurd rfl h)
              walk_at "S"
              refine q2 _ R2.kp fun xs e => ?_
              rw [runR_fail hrun ez (stepR_done1 h1' hsp h2' h3' gm)] at e
              cases e
            · refine s_ixL (sq_l ex) (v := .ref u1) (k := ((1 : Nat) : Int)) (atI_nat rfl) ?_
              walk_at "S"
              refine s_dec (fun h => nomatch h) (fun _ => ?_)
              walk_at "S"
              refine s_pop et (y := .ref x) (by simp) ?_
              rw [List.dropLast_concat]
              have nd := R2.nd
              rw [adrs_cons] at nd
              simp only [List.nodup_cons, List.mem_cons, not_or] at nd
              obtain ⟨vs, eh, dh⟩ := R2.here
              obtain ⟨va, ea, da⟩ := F0.ah
              have k3 : Kp [t] H2 (upd H2 t (.lst (ps.map fun p => V.ref p.1).reverse)) := by walk_at "K"
              have t3 : TupK H2 (upd H2 t (.lst (ps.map fun p => V.ref p.1).reverse)) := .lst et
              have e13 : upd H2 t (.lst (ps.map fun p => V.ref p.1).reverse) t = some (.lst (ps.map fun p => V.ref p.1).reverse) := upd_same
              have ex3 := k3.get (nin1 (fun e => nd.1.2.1 e.symm)) ex
              have eh3 := k3.get (nin1 (fun e => nd.1.1 e.symm)) eh
              have ea3 := k3.get (nin1 (fun e => nd.1.2.2.1 e.symm)) ea
              generalize upd H2 t (.lst (ps.map fun p => V.ref p.1).reverse) = H3 at *
              refine s_gunl (xs := [.ref y, .ref u1, .ref u2]) (sq_l ex3) rfl ?_
              walk_at "S"
              refine s_tupL (sq_l eh3) fun u hu => ?_
              walk_at "S"
              refine ⟨small_le (by simp), fun tu htu => ?_⟩
              walk_at "S"
              refine ⟨small_le (by simp), fun ld hld => ?_⟩
              have na := R2.n3 g List.mem_cons_self
              refine s_cat (zs := [.ref tu]) (by walk_at "L") upd_same (small_le (by rw [DpAll.len da, List.length_singleton]; omega)) fun hn hhn => ?_
              walk_at "S"
              have k7 : Kp [] H3 (upd (upd (upd (upd H3 u (.tup vs)) tu (.tup [.str "try", .ref u1, .ref u2, .ref u])) ld (.lst [.ref tu])) hn (.lst (va ++ [.ref tu]))) := by walk_at "K"
              have eu : upd (upd (upd (upd H3 u (.tup vs)) tu (.tup [.str "try", .ref u1, .ref u2, .ref u])) ld (.lst [.ref tu])) hn (.lst (va ++ [.ref tu])) u = some (.tup vs) := by walk_at "L"
              have etu : upd (upd (upd (upd H3 u (.tup vs)) tu (.tup [.str "try", .ref u1, .ref u2, .ref u])) ld (.lst [.ref tu])) hn (.lst (va ++ [.ref tu])) tu = some (.tup [.str "try", .ref u1, .ref u2, .ref u]) := by walk_at "L"
              have ehn : upd (upd (upd (upd H3 u (.tup vs)) tu (.tup [.str "try", .ref u1, .ref u2, .ref u])) ld (.lst [.ref tu])) hn (.lst (va ++ [.ref tu])) hn = some (.lst (va ++ [.ref tu])) := upd_same
              have nh3 : H3 hn = none := Kp.free (W := []) (by walk_at "K") trivial hhn
              generalize upd (upd (upd (upd H3 u (.tup vs)) tu (.tup [.str "try", .ref u1, .ref u2, .ref u])) ld (.lst [.ref tu])) hn (.lst (va ++ [.ref tu])) = H7 at *
              have t7 := t3.trans (TupK.same k7)
              have tn : t ≠ hn := ne_of_none e13 nh3
              have k37 : Kp [t] H2 H7 := by walk_at "K"
              have dtry : Dp K H7 (.ref tu) (.tuple [.str "try", .tuple gf, .tuple (gc.map .str), .tuple hr_]) :=
                .tup (sq_t etu) (.cons (.str _) (.cons (Dp.tups t7 _ _ gfl d1) (.cons (Dp.tups t7 _ _ (flat_strs gc) d2) (.cons (.tup (sq_t eu) (Dp.tupsAll t7 _ _ R2.fl dh)) .nil))))
              have fx : flatD (.tuple [.str "try", .tuple gf, .tuple (gc.map .str), .tuple hr_]) = true := by
                show (true && (flatAll gf && (flatAll (gc.map .str) && (flatAll hr_ && true)))) = true
                rw [gfl, HL.flat_strs, show flatAll hr_ = true from R2.fl]
                rfl
              have Rn := R2.pop k37 t7 (k7.get trivial e13) (k3.free (nin1 tn.symm) nh3) ehn (DpAll.snoc (Dp.tupsAll t7 _ _ F0.fl da) dtry) fx
              exact ⟨hn, _, _, _, _, _, _, _, rfl, runR_take hrun ez (stepR_done h1' hsp h2' h3' gm), Rn⟩
      have h3' : z ≠ "done" := fun e => h3 (by rw [e])
      obtain ⟨vs, eh, dh⟩ := R1.here
      walk_at "S"
      refine ⟨wp, w0 :: wr, rfl, sq_l hwl, by simp, by omega, fun y hy => hz2 y hy, fun H2 v k2 dv => ?_⟩
      have R2 := R1.same k2
      have eh2 := k2.get trivial eh
      have n2 := R2.n2
      walk_at "S"
      refine s_append eh2 (small_lt (by rw [DpAll.len dh]; omega)) ?_
      have t3 : TupK H2 (upd H2 h (.lst (vs ++ [v]))) := .lst eh2
      have Rn := R2.add (k := Kp.refl.upd_mem List.mem_cons_self) t3 upd_same (DpAll.snoc (Dp.tupsAll t3 _ _ R2.fl (Dp.tupsAll (TupK.same k2) _ _ R2.fl dh)) (Dp.tups t3 _ _ (flat_rowIn _) dv)) (flat_rowIn _)
      exact ⟨h, _, _, _, _, _, _, _, rfl, runR_take hrun ez (stepR_row h1' hsp h2' h3' s), Rn⟩
    · obtain ⟨h, o3, o4, o5, o6, o7, s, ps, rfl, hrun, R⟩ := I
      rw [List.take_of_length_le (by simp)] at hrun
      walk_at "S"
      refine ⟨small_le (by simp), fun E0 hE => ?_⟩
      have R2 := R.same (Kp.refl.upd_new (o := .lst []) hE)
      have hE2 : upd H2 E0 (.lst []) E0 = some (.lst []) := upd_same
      generalize upd H2 E0 (.lst []) = H3 at *
      walk_at "S"
      refine s_nil0 (sq_l R2.tl) (sq_l hE2) ?_
      walk_at "S"
      obtain ⟨fs, hr_⟩ := s
      have fr := R2.fr
      cases fr with
      | nil =>
        rw [show (!((List.map (fun p : Addr × Addr => V.ref p.1) []).reverse.isEmpty)) = false from rfl]
        walk_at "S"
        obtain ⟨vs, ev, dv⟩ := R2.here
        refine s_tupL (sq_l ev) fun u hu => ?_
        exact q1 _ _ hr_ (R2.kp.upd_new hu) hrun R2.fl (.tup (sq_t upd_same) (Dp.tupsAll (.new hu) _ _ R2.fl dv))
      | cons F0 Fr =>
        rename_i _ p _ ps_
        rw [rev_refs, show (!(((ps_.map fun p => V.ref p.1).reverse ++ [V.ref p.1]).isEmpty)) = true from by simp]
        walk_at "S"
        refine q2 _ R2.kp fun xs e => ?_
        rw [hrun] at e
        cases e
end

section
variable {P : Program} {w : World} {K : PySem.W.Frag} {mg : Str → Option Value} {base : Heap}
theorem ok_l_lines {d : Nat} {f : Addr} {fd : FuncData} (F : Fun K "_law_lines" "_law_lines" s_l_lines f fd) (T : Txt K mg)
    (D_l_lines : DnF P w K mg base (d + 1) "_law_lines" ["_law_rows_here"] (spLinesP K d)) :
    FnOk P w K mg base CX0 (d + 2) f fd ["_law_rows_here"] (spLines K d) := by
  refine F.ok sc_l_lines (fun vs H Q E h => ?_) (fun cdv A outer s H vs Q E hr h => ?_)
  · obtain ⟨v, xs, rfl, _⟩ := h
    rfl
  · obtain ⟨f_l_lines, fd_l_lines, G_l_lines, m_l_lines, k_l_lines, b_l_lines⟩ := D_l_lines
    obtain ⟨v, xs, rfl, hd, hg, hc, q⟩ := h
    cases hd with
    | tup hs ha =>
      rename_i a vs
      have el : vs.length = xs.length := DpAll.len ha
      refine ⟨_, (pss_cons (ps_set (i := 1) sc_l_lines.nd rfl (Or.inl rfl) (pe_lst pa_nil))
      (pss_cons (ps_for PassesOwn.never rfl (kiT (K := K) rfl (pi_tup (pv 0))) (pg_name (i := 2) sc_l_lines.nd rfl (Or.inl rfl)) (pss_one (ps_if (pt_cmpR op_ne (pe_ix (ixTK (K := K) rfl) (pv 2) pe_int (fun _ _ => rfl)) pe_str (nomark _)) (pss_one (ps_expr (kBM (K := K) rfl (pe_bm PySem.F.plainAttrs_list PySem.F.slot_list_append PySem.F.type_list_append mt_append (pv 1) (pa_cons (pe_m1 PySem.F.slot_str_join PySem.F.type_str_join (joinK (K := K) rfl) pe_str (pe_lc (own := [("_law_part", 6)]) (g := gName 6) (tt := tYes) rfl sc_l_lines.nd (kiT (K := K) rfl (pi_tup (pv 2))) (blkOk_by (own := [("_law_part", 6)]) (N := N_l_lines) (sc := (defScope s_l_lines)) (by decide +kernel)) (fun _ _ _ _ _ => (pg_name (i := 6) sc_l_lines.nd rfl (Or.inl rfl))) (fun _ _ _ _ _ => pts_nil) (fun _ _ _ _ _ => (pe_callTy strOfR (by rfl) T.n_str (by decide +kernel) (pa_cons (pv 6) pa_nil))))) pa_nil))))) (pss_cons (ps_set (i := 3) sc_l_lines.nd rfl (Or.inl rfl) pe_str)
      (pss_cons (ps_for PassesOwn.never rfl (kiT (K := K) rfl (pi_tup (pe_ix (ixTK (K := K) rfl) (pv 2) pe_int (fun _ _ => rfl)))) (pg_name (i := 4) sc_l_lines.nd rfl (Or.inl rfl)) (pss_one (ps_set (i := 3) sc_l_lines.nd rfl (Or.inl rfl) (pe_op addS (pe_op addS (pv 3) pe_str) (pv 4)))))
      (pss_cons (ps_set (i := 5) sc_l_lines.nd rfl (Or.inl rfl) (pe_call G_l_lines (hr.mono (by first | decide | omega)) (by rfl) m_l_lines k_l_lines b_l_lines .nil pass0 (pa_cons (pe_ix (ixTK (K := K) rfl) (pv 2) pe_int (fun _ _ => rfl)) pa_nil)))
      (pss_one (ps_set (i := 1) sc_l_lines.nd rfl (Or.inl rfl) (pe_op op_cat (pe_op op_cat (pe_op op_cat (pe_op op_cat (pe_op op_cat (pv 1) (pe_lst (pa_cons pe_str pa_nil))) (pv 5)) (pe_lst (pa_cons (pv 3) pa_nil))) (pe_call G_l_lines (hr.mono (by first | decide | omega)) (by rfl) m_l_lines k_l_lines b_l_lines .nil pass0 (pa_cons (pe_ix (ixTK (K := K) rfl) (pv 2) pe_int (fun _ _ => rfl)) pa_nil))) (pe_lst (pa_cons pe_str pa_nil)))))))))))
      (pss_one (ps_ret (pv 1))))), ?_⟩
      refine st_start (σ' := [some (.ref a), none, none, none, none, none, none]) rfl ?_
      walk_at "S"
      refine ⟨small_le (by simp), fun l0 hl0 => ?_⟩
      walk_at "S"
      refine ⟨⟨_, (Kp.refl.upd_new hl0).seqT (W := []) trivial hs⟩, ?_⟩
      refine for_go (walk_tup (K := K) (a := a) (xs := vs)) (fun i σ H2 => ∃ (l : Addr) (o2 o3 o4 o5 : Option V), σ = [some (.ref a), some (.ref l), o2, o3, o4, o5, none] ∧ Kp [] H H2 ∧ H l = none ∧ H2 l = some (.lst ((rowsL d (xs.take i)).map V.str)))
        ⟨l0, _, _, _, _, rfl, Kp.refl.upd_new hl0, hl0, upd_same⟩ (fun i σ H2 hi I => by obtain ⟨_, _, _, _, _, _, k, _⟩ := I; exact k.seqT trivial hs) (fun i x σ Ha Hb hi I y => ?_) fun σ H2 I => ?_
      · obtain ⟨rfl, hx⟩ := y
        obtain ⟨l, o2, o3, o4, o5, rfl, k2, hl, hl2⟩ := I
        obtain ⟨r, er, dr⟩ := dp_nth ha hx
        have mr : r ∈ xs := List.mem_of_getElem? er
        have okr := hg r mr
        have d2 := Dp.same k2 _ _ dr
        have ec := take_rows (d := d) er
        have n1 := few_lines hg hc i
        have n2 := few_lines hg hc (i + 1)
        rw [ec, List.map_append, List.length_append] at n2
        walk_at "S"
        rcases okr.cases with ⟨z, ps, fs, fl⟩ | ⟨e, ra, rb, ws, rfl, rfl, ga, gw, gb⟩
        · have rl := rowLines_flat (d := d) fl.notTry
          have wl := fs.words
          have ex := fs.eq
          subst ex
          obtain ⟨a2, vt, rfl, hs2, ha2⟩ := dp_flat d2
          refine s_ixT hs2 (k := ((0 : Nat) : Int)) (atI_nat rfl) ?_
          walk_at "S"
          refine s_ndec (fun _ => ?_) (fun h => absurd (V.str.inj h) (rowW_facts _ fs.wd).1)
          walk_at "S"
          refine ⟨⟨_, hs2⟩, fun D hD => ?_⟩
          have L : LcOk D (V.str z :: vt).length (fun i => (((z :: ps.map partS)).map V.str).take i) [] Hb (fun _ _ => True) :=
            .ofTake (by rw [List.length_cons, DpAll.len ha2]; have := fs.few; exact small_le (by omega)) hD trivial (fun _ _ _ h => h)
          refine lc_go (walk_tup (K := K) (a := a2) (xs := V.str z :: vt)) L trivial (fun H3 k3 => k3.seqT trivial hs2) (fun j x H3 H' hj J y => ?_) fun H3 J => ?_
          · obtain ⟨rfl, hx3⟩ := y
            obtain ⟨p, ep, dp, op⟩ := part_texts (a := a2) ha2 fs.wd fs.ok hx3
            walk_at "S"
            refine ⟨rfl, ?_⟩
            walk_at "S"
            refine s_strP (Dp.same J.2.1 _ _ dp) op ?_
            refine J.put L hj (take_put ?_) Kp.refl trivial
            rw [show (z :: ps.map partS) = (PyData.str z :: ps).map partS from rfl, List.getElem?_map, List.getElem?_map, ep]
            rfl
          · obtain ⟨p1, k3, _⟩ := J
            dsimp only at p1
            rw [List.take_of_length_le (by simp; have := DpAll.len ha2; omega)] at p1
            walk_at "S"
            refine s_joinL (zs := z :: ps.map partS) (sq_l p1) (flat_sum fs) ?_
            have hl3 := k3.get trivial hl2
            walk_at "S"
            refine s_append hl3 (small_lt (by omega)) ?_
            refine ⟨l, _, _, _, _, rfl, ?_, hl, ?_⟩
            · exact (k2.tr k3).upd_loc hl
            · rw [upd_same, ec, rl, List.map_append, wl.1]
              rfl
        · have rl := rowLines_try e ra rb ws
          obtain ⟨a2, u1, u2, u3, rfl, hs2, d3, d4, d5⟩ := dp_try d2
          obtain ⟨a3, rfl, hw⟩ := dp_words d4
          have cm := cnts_mem (d := e + 1) mr
          rw [cntRow_try] at cm
          have la := rowsL_len ga (by omega)
          have lb := rowsL_len gb (by omega)
          rw [rl] at n2
          simp only [List.map_cons, List.map_append, List.length_cons, List.length_append, List.length_map, List.length_nil] at n1 n2
          walk_at "S"
          refine s_ndec (fun h => absurd rfl h) (fun _ => ?_)
          walk_at "S"
          refine ⟨⟨_, hw⟩, ?_⟩
          have cw : ∀ j, (Txt.join " " (("caught" : Str) :: ws.take j)).length ≤ 907 := fun j => by
            have l := join_len " " (("caught" : Str) :: ws.take j)
            have s : ((ws.take j).map (·.length)).sum ≤ (ws.take j).length * 8 := sum_le_of fun y hy => (clean_word (gw.all y (List.mem_of_mem_take hy))).2
            have b2 : ("caught" : Str).length = 6 := by decide +kernel
            have fw := gw.few
            rw [List.map_cons, List.sum_cons, List.length_cons, blank1, b2] at l
            rw [List.length_take] at s l
            omega
          refine for_go (walk_tup (K := K) (a := a3) (xs := ws.map V.str)) (fun j σ H2 => ∃ o4 : Option V, σ = [some (.ref a), some (.ref l), some (.ref a2), some (.str (Txt.join " " (("caught" : Str) :: ws.take j))), o4, o5, none] ∧ H2 = Hb)
            ⟨_, rfl, rfl⟩ (fun j σ H2 hj J => by obtain ⟨_, _, rfl⟩ := J; exact hw) (fun j x σ Hc Hd hj J y => ?_) fun σ H2 J => ?_
          · obtain ⟨rfl, hx3⟩ := y
            obtain ⟨_, rfl, rfl⟩ := J
            rw [List.getElem?_map] at hx3
            obtain ⟨z, ez, rfl⟩ : ∃ z, ws[j]? = some z ∧ x = V.str z := by
              cases e : ws[j]? with
              | none => rw [e] at hx3; cases hx3
              | some z => rw [e] at hx3; exact ⟨z, rfl, (Option.some.inj hx3).symm⟩
            have nz := (clean_word (gw.all z (List.mem_of_getElem? ez))).2
            have nj := cw j
            walk_at "S"
            refine s_addS (small_le (by rw [blank1]; omega)) ?_
            walk_at "S"
            refine s_addS (small_le (by rw [len_tl, tl_append, List.length_append, ← len_tl, ← len_tl, blank1]; omega)) ?_
            walk_at "S"
            refine ⟨some (.str z), ?_, rfl⟩
            rw [take_put ez, ← List.cons_append, join_snoc (by simp)]
            rfl
          · obtain ⟨o4, rfl, rfl⟩ := J
            rw [List.take_of_length_le (l := ws) (i := (ws.map V.str).length) (by simp)]
            have ec2 := ec.trans (congrArg _ rl)
            have hlb : H2 l = some (.lst ((rowsL (e + 1) (xs.take i)).map V.str)) := hl2
            rw [show Txt.join " " (("caught" : Str) :: ws) = caughtS ws from rfl]
            clear ec hl2
            generalize rowsL (e + 1) (xs.take i) = R at *
            generalize rowsL (e + 1) (xs.take (i + 1)) = R2 at *
            walk_at "S"
            refine ⟨u1, ra, rfl, d3, ga, by omega, fun H3 p1 k3 hp1 ep1 => ?_⟩
            have el3 := k3.get trivial hlb
            have s3 := k3.seqT trivial hs2
            walk_at "S"
            refine ⟨small_le (by simp), fun D1 hD1 => ?_⟩
            refine s_cat (by walk_at "L") (by walk_at "L") (small_le (by simp only [List.length_map, List.length_append, List.length_cons, List.length_nil]; omega)) fun C1 hC1 => ?_
            walk_at "S"
            refine s_cat (by walk_at "L") (by walk_at "L") (small_le (by simp only [List.length_map, List.length_append, List.length_cons, List.length_nil]; omega)) fun C2 hC2 => ?_
            walk_at "S"
            refine ⟨small_le (by simp), fun D2 hD2 => ?_⟩
            refine s_cat (by walk_at "L") (by walk_at "L") (small_le (by simp only [List.length_map, List.length_append, List.length_cons, List.length_nil]; omega)) fun C3 hC3 => ?_
            walk_at "S"
            have k8 : Kp [] H3 (upd (upd (upd (upd (upd H3 D1 (.lst [.str "try"])) C1 (.lst (R.map V.str ++ [.str "try"]))) C2 (.lst ((R.map V.str ++ [.str "try"]) ++ (rowsL e ra).map V.str))) D2 (.lst [.str (caughtS ws)])) C3 (.lst (((R.map V.str ++ [.str "try"]) ++ (rowsL e ra).map V.str) ++ [.str (caughtS ws)]))) := by walk_at "K"
            have db8 := Dp.same k8 _ _ (Dp.same k3 _ _ d5)
            have s8 := k8.seqT trivial s3
            have e8 : upd (upd (upd (upd (upd H3 D1 (.lst [.str "try"])) C1 (.lst (R.map V.str ++ [.str "try"]))) C2 (.lst ((R.map V.str ++ [.str "try"]) ++ (rowsL e ra).map V.str))) D2 (.lst [.str (caughtS ws)])) C3 (.lst (((R.map V.str ++ [.str "try"]) ++ (rowsL e ra).map V.str) ++ [.str (caughtS ws)])) C3 = some (.lst (((R.map V.str ++ [.str "try"]) ++ (rowsL e ra).map V.str) ++ [.str (caughtS ws)])) := upd_same
            generalize upd (upd (upd (upd (upd H3 D1 (.lst [.str "try"])) C1 (.lst (R.map V.str ++ [.str "try"]))) C2 (.lst ((R.map V.str ++ [.str "try"]) ++ (rowsL e ra).map V.str))) D2 (.lst [.str (caughtS ws)])) C3 (.lst (((R.map V.str ++ [.str "try"]) ++ (rowsL e ra).map V.str) ++ [.str (caughtS ws)])) = H8 at *
            refine s_ixT s8 (k := ((3 : Nat) : Int)) (atI_nat rfl) ?_
            walk_at "S"
            refine ⟨u3, rb, rfl, db8, gb, by omega, fun H9 p2 k9 hp2 ep2 => ?_⟩
            refine s_cat (k9.get trivial e8) ep2 (small_le (by simp only [List.length_map, List.length_append, List.length_cons, List.length_nil]; omega)) fun C4 hC4 => ?_
            walk_at "S"
            refine ⟨small_le (by simp), fun D3 hD3 => ?_⟩
            refine s_cat (by walk_at "L") (by walk_at "L") (small_le (by simp only [List.length_map, List.length_append, List.length_cons, List.length_nil]; omega)) fun C5 hC5 => ?_
            walk_at "S"
            have k10 : Kp [] H9 (upd (upd H9 C4 (.lst ((((R.map V.str ++ [.str "try"]) ++ (rowsL e ra).map V.str) ++ [.str (caughtS ws)]) ++ (rowsL e rb).map V.str))) D3 (.lst [.str "done"])) := by walk_at "K"
            have kk : Kp [] H (upd (upd H9 C4 (.lst ((((R.map V.str ++ [.str "try"]) ++ (rowsL e ra).map V.str) ++ [.str (caughtS ws)]) ++ (rowsL e rb).map V.str))) D3 (.lst [.str "done"])) := (((k2.tr k3).tr k8).tr k9).tr k10
            refine ⟨C5, _, _, _, _, rfl, kk.upd_new hC5, kk.free trivial hC5, ?_⟩
            rw [upd_same, ec2]
            simp only [List.map_append, List.map_cons, List.append_assoc, List.cons_append, List.nil_append, List.map_nil]
      · obtain ⟨l, o2, o3, o4, o5, rfl, k2, hl, hl2⟩ := I
        rw [List.take_of_length_le (by omega)] at hl2
        walk_at "S"
        exact q _ _ k2 hl hl2
end

section
variable {P : Program} {w : World} {K : PySem.W.Frag} {mg : Str → Option Value} {base : Heap}
theorem l_lines_all {f : Addr} {fd : FuncData} (F : Fun K "_law_lines" "_law_lines" s_l_lines f fd) (T : Txt K mg)
    (m1 : mg "_law_lines" = some (.ref f)) (k1 : PySem.W.keepIn K (.ref f) = true) (b1 : Binds K fd ["_law_rows_here"] []) :
    ∀ d : Nat, FnOk P w K mg base CX0 (d + 2) f fd ["_law_rows_here"] (spLines K d)
  | 0 => ok_l_lines (d := 0) F T ⟨_, _, ⟨fun _ _ _ _ z => z.elim, fun _ _ _ _ _ _ _ _ _ _ _ _ _ z => z.elim⟩, m1, k1, b1⟩
  | d + 1 => ok_l_lines (d := d + 1) F T ⟨_, _, l_lines_all F T m1 k1 b1 d, m1, k1, b1⟩
def spRead (K : PySem.W.Frag) : Sp := fun vs H Q _ => ∃ xs : List PyData, vs = [.str (textOf (rowsL 3 xs))] ∧ (∀ x ∈ xs, OkRow 3 x) ∧ cnts 3 xs ≤ 40 ∧
  ∀ H' v, Kp [] H H' → Dp K H' v (.tuple xs) → Q v H'
theorem ok_read_body {f : Addr} {fd : FuncData} (F : Fun K "read_body" "read_body" s_read_body f fd) (T : Txt K mg)
    (D_rows_in : DnF P w K mg base 3 "rows_in" ["lines"] (spRowsInL K)) (D_is_body : DnF P w K mg base 12 "is_body" ["thing"] (spIsBody K))
    (D_body_text : DnF P w K mg base 6 "body_text" ["body"] (spText K)) : FnOk P w K mg base CX0 13 f fd ["text"] (spRead K) := by
  refine F.ok sc_read_body (fun vs H Q E h => ?_) (fun cdv A outer s H vs Q E hr h => ?_)
  · obtain ⟨xs, rfl, _⟩ := h
    rfl
  · obtain ⟨f_rows_in, fd_rows_in, G_rows_in, m_rows_in, k_rows_in, b_rows_in⟩ := D_rows_in; obtain ⟨f_body_text, fd_body_text, G_body_text, m_body_text, k_body_text, b_body_text⟩ := D_body_text; obtain ⟨f_is_body, fd_is_body, G_is_body, m_is_body, k_is_body, b_is_body⟩ := D_is_body
    obtain ⟨xs, rfl, ok, few, q⟩ := h
    have ll := OkRow.linesAll ok
    have run := OkRow.runs ok ([], [])
    have split := textOf_split fun z hz => (ll.1 z hz).nl
    have tlen := textOf_len fun z hz => (ll.1 z hz).len
    have good : ∀ x ∈ xs, RowG x ∧ isRowX 3 x = true := fun x hx => (ok x hx).good (by have := cnts_mem (d := 3) hx; omega)
    have hal : (xs.all (isRowX 3) && decide (cnts 3 xs ≤ 40)) = true := by
      rw [List.all_eq_true.mpr fun x hx => (good x hx).2, decide_eq_true few]
      rfl
    have lx := len_le_cnts 3 xs
    refine ⟨_, (pss_cons (ps_if (pt_not (pt_val (pe_callB (isiK (K := K) rfl) (by rfl) T.n_isinstance (by decide +kernel) (pa_cons (pv 0) (pa_cons (pe_bltn (v := .ty "str") (by rfl) T.n_str (by decide +kernel) rfl) pa_nil))))) (pss_one ps_never) pss_nil)
      (pss_cons (ps_set (i := 1) sc_read_body.nd rfl (Or.inl rfl) (pe_call G_rows_in (hr.mono (by first | decide | omega)) (by rfl) m_rows_in k_rows_in b_rows_in .nil pass0 (pa_cons (pe_slice (slLK (K := K) rfl) (pe_m1 PySem.F.slot_str_split PySem.F.type_str_split splitR (pv 0) pe_str) po_none (po_some (pe_un un_neg pe_int))) pa_nil)))
      (pss_cons (ps_if (PW.pt (pw_or (pt_not (pt_val (pe_call G_is_body (hr.mono (by first | decide | omega)) (by rfl) m_is_body k_is_body b_is_body .nil pass0 (pa_cons (pv 1) pa_nil)))) (pw_or1 (pt_cmpR op_ne (pe_call G_body_text (hr.mono (by first | decide | omega)) (by rfl) m_body_text k_body_text b_body_text .nil pass0 (pa_cons (pv 1) pa_nil)) (pv 0) (nomark _))))) (pss_one ps_never) pss_nil)
      (pss_one (ps_ret (pv 1)))))), ?_⟩
    refine st_start (σ' := [some (.str (textOf (rowsL 3 xs))), none]) rfl ?_
    walk_at "S"
    refine isi_ty (.base (.str _)) (b := true) (by decide +kernel) ?_
    walk_at "S"
    refine s_splitS (by decide +kernel) (Nat.le_trans (by omega : _ ≤ 200000) (by decide)) fun wp hwp => ?_
    rw [split]
    walk_at "S"
    intro sl hsl
    rw [cut_last1, List.map_append, show (([("" : Str)].map V.str)) = [V.str ""] from rfl, List.dropLast_concat] at *
    walk_at "S"
    refine ⟨sl, rowsL 3 xs, rfl, sq_l upd_same, by omega, fun z hz => ⟨by have := (ll.1 z hz).len; omega, (ll.1 z hz).wd⟩, fun H2 v ys k2 e _ dv => ?_, fun H2 k2 e => absurd run (e _)⟩
    rw [run] at e
    cases e
    walk_at "S"
    refine .inl ⟨v, xs, rfl, dv, fun x hx => (good x hx).1, by omega, fun H3 k3 => ?_⟩
    rw [hal]
    walk_at "S"
    refine ⟨v, xs, rfl, Dp.same k3 _ _ dv, ok, by omega, fun H4 k4 => ?_⟩
    walk_at "S"
    refine s_ndec (fun h => absurd rfl h) (fun _ => ?_)
    walk_at "S"
    exact q _ _ (by walk_at "K") (Dp.same k4 _ _ (Dp.same k3 _ _ dv))
def spRight (K : PySem.W.Frag) : Sp := fun vs H Q _ => ∃ (v : V) (xs : List PyData), vs = [v] ∧ Dp K H v (.tuple xs) ∧ (∀ x ∈ xs, OkRow 3 x) ∧ cnts 3 xs ≤ 40 ∧ ∀ H', Kp [] H H' → Q (.bl true) H'
theorem ok_right {f : Addr} {fd : FuncData} (F : Fun K "_law_right" "_law_right" s_l_right f fd) (T : Txt K mg)
    (D_l_lines : DnF P w K mg base 5 "_law_lines" ["_law_rows_here"] (spLines K 3)) (D_read_body : DnF P w K mg base 13 "read_body" ["text"] (spRead K))
    (D_body_text : DnF P w K mg base 6 "body_text" ["body"] (spText K)) : FnG P w K mg base 14 f fd ["_law_body"] (spRight K) := by
  refine fnG_of F sc_l_right (fun vs H Q E h => ?_) (fun cdv A outer s H vs Q E hG hr h => ?_)
  · obtain ⟨v, xs, rfl, _⟩ := h
    rfl
  · obtain ⟨f_l_lines, fd_l_lines, G_l_lines, m_l_lines, k_l_lines, b_l_lines⟩ := D_l_lines; obtain ⟨f_body_text, fd_body_text, G_body_text, m_body_text, k_body_text, b_body_text⟩ := D_body_text; obtain ⟨f_read_body, fd_read_body, G_read_body, m_read_body, k_read_body, b_read_body⟩ := D_read_body
    obtain ⟨v, xs, rfl, hd, ok, few, q⟩ := h
    have sh := OkRow.shows ok few
    have rep : ∀ {H : Hp} {Q : VK} {u : V}, Dp K H u (.tuple xs) → Q (.str (PyData.shown (.tuple xs))) H → rReprD K [u] H Q := fun d q =>
      ⟨_, _, rfl, d, rfl, sh.ok, sh.nd, Nat.le_trans sh.dp (by decide), sh.fits, q⟩
    have ll := OkRow.linesAll ok
    refine ⟨_, (pss_cons (ps_set (i := 1) sc_l_right.nd rfl (Or.inl rfl) (pe_callB (reprK (K := K) rfl hG hr.units) (by rfl) T.n_repr (by decide +kernel) (pa_cons (pv 0) pa_nil)))
      (pss_cons (ps_set (i := 2) sc_l_right.nd rfl (Or.inl rfl) (pe_m1 PySem.F.slot_str_join PySem.F.type_str_join (joinK (K := K) rfl) pe_str (pe_lc (own := [("_law_line", 4)]) (g := gName 4) (tt := tYes) rfl sc_l_right.nd (kiL (K := K) rfl (pi_list (pe_call G_l_lines (hr.mono (by first | decide | omega)) (by rfl) m_l_lines k_l_lines b_l_lines .nil pass0 (pa_cons (pv 0) pa_nil)))) (blkOk_by (own := [("_law_line", 4)]) (N := N_l_right) (sc := (defScope s_l_right)) (by decide +kernel)) (fun _ _ _ _ _ => (pg_name (i := 4) sc_l_right.nd rfl (Or.inl rfl))) (fun _ _ _ _ _ => pts_nil) (fun _ _ _ _ _ => (pe_op addS (pv 4) pe_str)))))
      (pss_cons (ps_set (i := 3) sc_l_right.nd rfl (Or.inl rfl) (pe_call G_body_text (hr.mono (by first | decide | omega)) (by rfl) m_body_text k_body_text b_body_text .nil pass0 (pa_cons (pv 0) pa_nil)))
      (pss_cons (ps_if (PW.pt (pw_or (pt_not (pt_val (pe_callB (isiK (K := K) rfl) (by rfl) T.n_isinstance (by decide +kernel) (pa_cons (pv 3) (pa_cons (pe_bltn (v := .ty "str") (by rfl) T.n_str (by decide +kernel) rfl) pa_nil))))) (pw_or (pt_cmpR op_ne (pv 3) (pv 2) (nomark _)) (pw_or1 (pt_cmpR op_ne (pe_callB (reprK (K := K) rfl hG hr.units) (by rfl) T.n_repr (by decide +kernel) (pa_cons (pv 0) pa_nil)) (pv 1) (nomark _)))))) (pss_one (ps_ret pe_bl)) pss_nil)
      (pss_one (ps_ret (pe_cmpR op_eq (pe_callB (reprK (K := K) rfl hG hr.units) (by rfl) T.n_repr (by decide +kernel) (pa_cons (pe_call G_read_body (hr.mono (by first | decide | omega)) (by rfl) m_read_body k_read_body b_read_body .nil pass0 (pa_cons (pv 2) pa_nil)) pa_nil)) (pv 1) (nomark _)))))))), ?_⟩
    refine st_start (σ' := [some v, none, none, none, none]) rfl ?_
    walk_at "S"
    refine rep hd ?_
    walk_at "S"
    refine ⟨v, xs, rfl, hd, ok, by omega, fun H1 p k1 hp hp1 => ?_⟩
    walk_at "S"
    refine ⟨⟨_, sq_l hp1⟩, fun D hD => ?_⟩
    have L : LcOk D ((rowsL 3 xs).map V.str).length (fun i => (((rowsL 3 xs).map (fun z : Str => z ++ ("\n" : Str))).map V.str).take i) [] H1 (fun _ _ => True) :=
      .ofTake (by rw [List.length_map]; exact small_le (by omega)) hD trivial (fun _ _ _ h => h)
    refine lc_go (walk_list (K := K) (a := p) (xs := (rowsL 3 xs).map V.str)) L trivial (fun H3 k3 => k3.seqL trivial (sq_l hp1)) (fun j x H3 H' hj J y => ?_) fun H3 J => ?_
    · obtain ⟨rfl, hx3⟩ := y
      rw [List.getElem?_map] at hx3
      obtain ⟨z, ez, rfl⟩ : ∃ z, (rowsL 3 xs)[j]? = some z ∧ x = V.str z := by
        cases e : (rowsL 3 xs)[j]? with
        | none => rw [e] at hx3; cases hx3
        | some z => rw [e] at hx3; exact ⟨z, rfl, (Option.some.inj hx3).symm⟩
      walk_at "S"
      refine ⟨rfl, ?_⟩
      walk_at "S"
      have nz := (ll.1 z (List.mem_of_getElem? ez)).len
      have n1 : ("\n" : Str).length = 1 := by decide +kernel
      refine s_addS (small_le (by rw [n1]; omega)) ?_
      refine J.put L hj (take_put ?_) Kp.refl trivial
      rw [List.getElem?_map, List.getElem?_map, ez]
      rfl
    · obtain ⟨p1, k3, _⟩ := J
      dsimp only at p1
      rw [List.take_of_length_le (by simp)] at p1
      walk_at "S"
      have eL : ("" : Str).length = 0 := by decide +kernel
      have sm := nl_sum fun z hz => (ll.1 z hz).len
      refine s_joinL (zs := (rowsL 3 xs).map (fun z : Str => z ++ ("\n" : Str))) (sq_l p1) (by rw [eL]; omega) ?_
      rw [show Txt.join "" ((rowsL 3 xs).map (fun z : Str => z ++ ("\n" : Str))) = textOf (rowsL 3 xs) from rfl]
      have d3 := Dp.same k3 _ _ (Dp.same k1 _ _ hd)
      walk_at "S"
      refine ⟨v, xs, rfl, d3, ok, by omega, fun H4 k4 => ?_⟩
      walk_at "S"
      refine isi_ty (.base (.str _)) (b := true) (by decide +kernel) ?_
      walk_at "S"
      refine s_ndec (fun h => absurd rfl h) (fun _ => ?_)
      walk_at "S"
      refine rep (Dp.same k4 _ _ d3) ?_
      walk_at "S"
      refine s_ndec (fun h => absurd rfl h) (fun _ => ?_)
      walk_at "S"
      refine ⟨xs, rfl, ok, few, fun H5 u k5 du => ?_⟩
      walk_at "S"
      refine rep du ?_
      walk_at "S"
      rw [decide_eq_true rfl]
      exact q _ (by walk_at "K")
def spLaw (K : PySem.W.Frag) : Sp := fun vs H Q _ => ∃ (a : Addr) (ns : List Int), vs = [.ref a] ∧ SqL K H a (ns.map V.int) ∧ ns.length ≤ 63 ∧ ∀ H', Q (.bl true) H'
theorem turns (n : Int) (h : 0 ≤ n) : 1 ≤ (if (if n < 4 then n else 4) > 1 then (if n < 4 then n else 4) else 1) ∧ (if (if n < 4 then n else 4) > 1 then (if n < 4 then n else 4) else 1) ≤ (4 : Int) := by
  split <;> split <;> omega
/-- the drawn bodies -/
def Bodies (K : PySem.W.Frag) (H : Hp) (vs : List V) : Prop := ∀ v ∈ vs, ∃ xs, Dp K H v (.tuple xs) ∧ (∀ x ∈ xs, OkRow 3 x) ∧ cnts 3 xs ≤ 40
theorem Bodies.tups {H H' : Hp} {vs : List V} (h : Bodies K H vs) (t : TupK H H') : Bodies K H' vs := fun v hv => by
  obtain ⟨xs, d, ok, few⟩ := h v hv
  exact ⟨xs, Dp.tups t _ _ (flatAll_of fun y hy => (ok y hy).flatD : flatAll xs = true) d, ok, few⟩
theorem ok_law {f : Addr} {fd : FuncData} (F : Fun K "law" "law" s_law f fd) (T : Txt K mg)
    (D_l_pot : DnF P w K mg base 2 "_law_pot" ["_law_script", "_law_k"] (spPot K))
    (D_l_rows : DnF P w K mg base 11 "_law_rows" ["_law_pot_here", "_law_room", "_law_deep"] (spRows K 3))
    (D_l_right : DnG P w K mg base 14 "_law_right" ["_law_body"] (spRight K)) : FnG P w K mg base 15 f fd ["_law_script"] (spLaw K) := by
  refine fnG_of F sc_law (fun vs H Q E h => ?_) (fun cdv A outer s H vs Q E hG hr h => ?_)
  · obtain ⟨a, ns, rfl, _⟩ := h
    rfl
  · obtain ⟨f_l_rows, fd_l_rows, G_l_rows, m_l_rows, k_l_rows, b_l_rows⟩ := D_l_rows; obtain ⟨f_l_pot, fd_l_pot, G_l_pot, m_l_pot, k_l_pot, b_l_pot⟩ := D_l_pot; obtain ⟨f_l_right, fd_l_right, G_l_right, m_l_right, k_l_right, b_l_right⟩ := D_l_right
    obtain ⟨a, ns, rfl, ha, hn, q⟩ := h
    refine ⟨_, (pss_cons (ps_set (i := 1) sc_law.nd rfl (Or.inl rfl) (pe_lst (pa_cons (pe_tup pa_nil) pa_nil)))
      (pss_cons (ps_for PassesOwn.never rfl (pi_range1 rfl T.n_range (pa_cons (pe_callB (call_max2 rfl) (by rfl) T.n_max (by decide +kernel) (pa_cons pe_int (pa_cons (pe_callB (call_min2 rfl) (by rfl) T.n_min (by decide +kernel) (pa_cons pe_int (pa_cons (pe_callB (lenK (K := K) rfl) (by rfl) T.n_len (by decide +kernel) (pa_cons (pv 0) pa_nil)) pa_nil))) pa_nil))) pa_nil)) (pg_name (i := 2) sc_law.nd rfl (Or.inl rfl)) (pss_one (ps_expr (kBM (K := K) rfl (pe_bm PySem.F.plainAttrs_list PySem.F.slot_list_append PySem.F.type_list_append mt_append (pv 1) (pa_cons (pe_call G_l_rows (hr.mono (by first | decide | omega)) (by rfl) m_l_rows k_l_rows b_l_rows .nil pass0 (pa_cons (pe_call G_l_pot (hr.mono (by first | decide | omega)) (by rfl) m_l_pot k_l_pot b_l_pot .nil pass0 (pa_cons (pv 0) (pa_cons (pv 2) pa_nil))) (pa_cons (pe_lst (pa_cons pe_int pa_nil)) (pa_cons pe_int pa_nil)))) pa_nil))))))
      (pss_cons (ps_for PassesOwn.never rfl (kiL (K := K) rfl (pi_list (pe_op op_cat (pv 1) (revK (K := K) rfl (pv 1))))) (pg_name (i := 3) sc_law.nd rfl (Or.inl rfl)) (pss_one (ps_if (pt_not (pt_val (pe_callG G_l_right hG (hr.mono (by first | decide | omega)) (by rfl) m_l_right k_l_right b_l_right .nil (pa_cons (pv 3) pa_nil)))) (pss_one (ps_ret pe_bl)) pss_nil)))
      (pss_one (ps_ret pe_bl))))), ?_⟩
    refine st_start (σ' := [some (.ref a), none, none, none]) rfl ?_
    walk_at "S"
    refine ⟨small_le (by simp), fun b0 hb0 => ?_⟩
    walk_at "S"
    refine ⟨small_le (by simp), fun l hl => ?_⟩
    have hs1 : SqL K (upd (upd H b0 (.tup [])) l (.lst [.ref b0])) a (ns.map V.int) := ((Kp.refl.upd_new hb0).upd_new hl).seqL (W := []) trivial ha
    have hl0 : H l = none := (Kp.refl.upd_new hb0).free (W := []) trivial hl
    have k1 : Kp [] H (upd (upd H b0 (.tup [])) l (.lst [.ref b0])) := (Kp.refl.upd_new hb0).upd_new hl
    have B1 : Bodies K (upd (upd H b0 (.tup [])) l (.lst [.ref b0])) [.ref b0] := fun v hv => by
      rw [List.mem_singleton.mp hv]
      exact ⟨[], .tup (sq_t ((upd_ne (ne_of_none upd_same hl)).trans upd_same)) .nil, by simp, by unfold cnts; simp⟩
    have el : upd (upd H b0 (.tup [])) l (.lst [.ref b0]) l = some (.lst [.ref b0]) := upd_same
    generalize upd (upd H b0 (.tup [])) l (.lst [.ref b0]) = H1 at *
    walk_at "S"
    have tb := turns ((ns.map V.int).length : Int) (by omega)
    generalize (if (if ((ns.map V.int).length : Int) < 4 then ((ns.map V.int).length : Int) else 4) > 1 then (if ((ns.map V.int).length : Int) < 4 then ((ns.map V.int).length : Int) else 4) else 1) = N at tb ⊢
    refine ⟨by omega, by omega, ?_⟩
    refine for_go walk_range (fun i σ H2 => ∃ (v2 v3 : Option V) (vs : List V), σ = [some (.ref a), some (.ref l), v2, v3] ∧ Kp [] H H2 ∧ H2 l = some (.lst vs) ∧ Bodies K H2 vs ∧ vs.length = i + 1)
      ⟨_, _, _, rfl, k1, el, B1, rfl⟩ (fun _ _ _ _ _ => trivial) (fun i x σ Ha Hb hi I y => ?_) fun σ H2 I => ?_
    · obtain ⟨rfl, rfl⟩ := y
      obtain ⟨v2, v3, vs, rfl, k2, el2, B2, nl⟩ := I
      dsimp only
      rw [show (0 : Int) + (i : Int) = (i : Int) from Int.zero_add _]
      walk_at "S"
      refine ⟨a, ns, i, rfl, k2.seqL trivial ha, by omega, fun H3 p k3 np hp3 => ?_⟩
      walk_at "S"
      refine ⟨small_le (by simp), fun r hr3 => ?_⟩
      walk_at "S"
      have npr := hp3.ne hr3
      refine ⟨p, r, 40, rfl, hp3.upd npr, upd_same, Nat.le_refl _, fun H4 v xs m k4 hp4 hr4 ok d4 few => ?_⟩
      have np0 : H p = none := k2.free trivial np
      have nr0 : H r = none := (k2.tr k3).free trivial hr3
      have nr2 : Hb r = none := k3.free trivial hr3
      have pl : l ≠ p := ne_of_none el2 np
      have rl : l ≠ r := ne_of_none el2 nr2
      have el4 : H4 l = some (.lst vs) := k4.get (nin2 pl rl) ((upd_ne rl).trans (k3.get trivial el2))
      walk_at "S"
      refine s_append el4 (small_lt (by omega)) ?_
      have t4 : TupK Hb (upd H4 l (.lst (vs ++ [v]))) := (((TupK.of k3 fun x hx => absurd hx List.not_mem_nil).trans (.new hr3)).trans (TupK.two k4 (hp3.upd npr).noTup (.lst upd_same))).trans (.lst el4)
      refine ⟨_, _, vs ++ [v], rfl, ?_, upd_same, ?_, ?_⟩
      · exact (((k2.tr k3).upd_new hr3).step k4 fun x hx => by
          simp only [List.mem_cons, List.not_mem_nil, or_false] at hx
          rcases hx with rfl | rfl
          · exact .inr np0
          · exact .inr nr0).upd_loc hl0
      · intro u hu
        rcases List.mem_append.mp hu with hu | hu
        · exact B2.tups t4 u hu
        · rw [List.mem_singleton.mp hu]
          exact ⟨xs, Dp.tups (.lst el4) _ _ (flatAll_of fun y hy => (ok y hy).flatD : flatAll xs = true) d4, ok, by omega⟩
      · rw [List.length_append, List.length_singleton]; omega
    · obtain ⟨v2, v3, vs, rfl, k2, el2, B2, nl⟩ := I
      walk_at "S"
      refine ⟨l, vs, rfl, sq_l el2, fun rl hrl => ?_⟩
      refine s_cat (by walk_at "L") upd_same (small_le (by rw [List.length_reverse]; omega)) fun c hc => ?_
      walk_at "S"
      refine ⟨⟨_, sq_l upd_same⟩, ?_⟩
      have B3 := (B2.tups (.new (o := .lst vs.reverse) hrl)).tups (.new (o := .lst (vs ++ vs.reverse)) hc)
      have ec : upd (upd H2 rl (.lst vs.reverse)) c (.lst (vs ++ vs.reverse)) c = some (.lst (vs ++ vs.reverse)) := upd_same
      generalize upd (upd H2 rl (.lst vs.reverse)) c (.lst (vs ++ vs.reverse)) = H3 at *
      refine for_go (walk_list (K := K) (a := c) (xs := vs ++ vs.reverse)) (fun i σ H4 => (∃ u3 : Option V, σ = [some (.ref a), some (.ref l), v2, u3]) ∧ Kp [] H3 H4)
        ⟨⟨_, rfl⟩, Kp.refl⟩ (fun i σ H4 hi I => I.2.seqL trivial (sq_l ec)) (fun i x σ Ha Hb hi I y => ?_) fun σ H4 I => ?_
      · obtain ⟨rfl, hx⟩ := y
        obtain ⟨⟨u3, rfl⟩, k4⟩ := I
        have mx : x ∈ vs := by
          have := List.mem_of_getElem? hx
          simpa using this
        obtain ⟨xs, d, ok, few⟩ := B3 x mx
        walk_at "S"
        refine ⟨x, xs, rfl, Dp.same k4 _ _ d, ok, few, fun H5 k5 => ?_⟩
        walk_at "S"
        exact ⟨⟨_, rfl⟩, k4.tr k5⟩
      · obtain ⟨⟨u3, rfl⟩, k4⟩ := I
        walk_at "S"
        exact q _
end

local macro_rules | `(tactic| walk_at "N") => `(tactic| first
  | with_reducible assumption
  | (apply Ne.symm; with_reducible assumption)
  | (refine' ne_of_none (H := ?H0) ?h1 ?h2; (case h2 => with_reducible assumption); (case h1 => walk_at "L"))
  | (apply Ne.symm; refine' ne_of_none (H := ?H0) ?h1 ?h2; (case h2 => with_reducible assumption); (case h1 => walk_at "L"))
  | fail "no")
local macro_rules | `(tactic| walk_at "M") => `(tactic| first
  | exact trivial
  | exact True.intro
  | (refine ⟨?_, ?_⟩; (walk_at "N"); (walk_at "M"))
  | fail "no")
local macro_rules | `(tactic| walk_at "L") => `(tactic| first
  | with_reducible assumption
  | with_reducible exact upd_same
  | ((with_reducible refine' (upd_ne ?n1).trans ?l1); (case n1 => walk_at "N"); (case l1 => walk_at "L"))
  | ((with_reducible refine' Kp.get ?k1 ?m1 ?l1); (case k1 => with_reducible assumption); (case l1 => walk_at "L"); (case m1 => walk_at "M"))
  | fail "no")
local macro_rules | `(tactic| walk_at "Q") => `(tactic| first
  | with_reducible assumption
  | ((with_reducible refine' sq_l ?e1); (case e1 => walk_at "L"))
  | ((with_reducible refine' sq_t ?e1); (case e1 => walk_at "L"))
  | ((with_reducible refine' Kp.seqL ?k1 ?m1 ?l1); (case k1 => with_reducible assumption); (case l1 => walk_at "Q"); (case m1 => walk_at "M"))
  | fail "no")
local macro_rules | `(tactic| walk_at "K") => `(tactic| first
  | with_reducible assumption
  | with_reducible exact Kp.refl
  | ((with_reducible refine' Kp.upd_mem ?k1 ?m1); (case m1 => simp only [List.mem_cons, true_or, or_true]); (case k1 => walk_at "K"))
  | ((with_reducible refine' Kp.upd_new ?k1 ?m1); (case m1 => with_reducible assumption); (case k1 => walk_at "K"))
  | ((with_reducible refine' Kp.upd_loc ?k1 ?m1); (case m1 => with_reducible assumption); (case k1 => walk_at "K"))
  | ((with_reducible refine' Kp.step ?k1 ?k2 ?m1); (case k2 => with_reducible assumption); (case m1 => (intro z hz; first | exact (List.not_mem_nil hz).elim | exact .inl hz | (simp only [List.mem_cons, List.not_mem_nil, or_false] at hz ⊢; first | (left; assumption) | (subst hz; first | (left; rfl) | (right; assumption))))); (case k1 => walk_at "K"))
  | fail "no")
local macro_rules | `(tactic| walk_at "C") => `(tactic| first | decide | assumption | omega | (show (0 : Int) < _; omega) | exact ⟨by decide, by decide⟩ | exact ⟨by omega, by omega⟩ | (left; exact ⟨by omega, by omega⟩) | (right; exact ⟨by omega, by omega⟩) | fail "no")
local macro_rules | `(tactic| walk_at "S1") => `(tactic| first
  | ((with_reducible refine' s_var ?h1 ?_); (case h1 => exact rfl))
  | with_reducible refine' s_c ?_
  | with_reducible refine' s_op ?_
  | with_reducible refine' s_un ?_
  | with_reducible refine' s_nil ?_
  | with_reducible refine' s_cons ?_
  | with_reducible refine' s_cb ?_
  | with_reducible refine' s_call ?_
  | with_reducible refine' s_test ?_
  | with_reducible refine' s_B ?_
  | with_reducible refine' s_and ?_
  | with_reducible refine' s_or ?_
  | with_reducible refine' s_not ?_
  | with_reducible refine' s_andV ?_
  | with_reducible refine' s_orV ?_
  | with_reducible refine' s_notV ?_
  | with_reducible refine' s_ifE ?_
  | with_reducible refine' s_chain ?_
  | with_reducible refine' s_tup ?_
  | with_reducible refine' s_lst ?_
  | with_reducible refine' s_sl ?_
  | with_reducible refine' s_noPart ?_
  | with_reducible refine' s_part ?_
  | with_reducible refine' s_fld ?_
  | with_reducible refine' s_bm ?_
  | with_reducible refine' s_bm0 ?_
  | with_reducible refine' s_m1 ?_
  | with_reducible refine' s_m0 ?_
  | with_reducible refine' s_seq ?_
  | with_reducible refine' s_next ?_
  | with_reducible refine' s_asg ?_
  | with_reducible refine' s_gname ?_
  | with_reducible refine' s_drop ?_
  | with_reducible refine' s_ret ?_
  | with_reducible refine' s_retN ?_
  | with_reducible refine' s_ifS ?_
  | with_reducible refine' s_gsub ?_
  | with_reducible refine' s_par ?_
  | with_reducible refine' s_bl ?_
  | with_reducible refine' s_iStr ?_
  | with_reducible refine' s_iList ?_
  | with_reducible refine' s_iTup ?_
  | with_reducible refine' s_iRng1 ?_
  | with_reducible refine' s_str ?_
  | with_reducible refine' s_ref ?_
  | with_reducible refine' s_yes ?_
  | with_reducible refine' s_for ?_
  | with_reducible refine' s_lc ?_
  | with_reducible refine' i_T ?_
  | with_reducible refine' i_F ?_
  | with_reducible refine' i_nT ?_
  | with_reducible refine' i_nF ?_
  | with_reducible refine' s_int ?_
  | with_reducible refine' s_ints2 ?_
  | with_reducible refine' s_ints1 ?_
  | with_reducible refine' s_strs1 ?_
  | with_reducible refine' s_vals2 ?_
  | with_reducible refine' s_vals3 ?_
  | ((with_reducible refine' s_gtup ?h1 ?l1 ?_); (case h1 => walk_at "Q"); (case l1 => exact rfl))
  | with_reducible refine' s_gcons ?_
  | with_reducible refine' s_gnil ?_
  | with_reducible refine' s_par3 ?_
  | with_reducible refine' s_ex ?_
  | with_reducible refine' s_I0 ?_
  | ((with_reducible refine' s_I ?c1 ?_); (case c1 => walk_at "C"))
  | ((with_reducible refine' s_eq ?h1 ?_); (case h1 => exact rfl))
  | ((with_reducible refine' s_ne ?h1 ?_); (case h1 => exact rfl))
  | ((with_reducible refine' s_ixL ?h1 ?a1 ?_); (case h1 => walk_at "Q"); (case a1 => exact rfl))
  | ((with_reducible refine' s_ixT ?h1 ?a1 ?_); (case h1 => walk_at "Q"); (case a1 => exact rfl))
  | ((with_reducible refine' s_setL ?h1 ?a1 ?_); (case h1 => walk_at "L"); (case a1 => exact rfl))
  | ((with_reducible refine' s_lenL ?h1 ?_); (case h1 => walk_at "Q"))
  | ((with_reducible refine' s_lenT ?h1 ?_); (case h1 => walk_at "Q"))
  | ((with_reducible refine' s_lenStr ?h1 ?_); (case h1 => assumption))
  | ((with_reducible refine' s_slL ?h1 ?_); (case h1 => walk_at "Q"))
  | ((with_reducible refine' s_slS ?h1 ?_); (case h1 => assumption))
  | with_reducible refine' s_U ?_
  | ((with_reducible refine' s_tyL ?h1 ?_); (case h1 => walk_at "L"))
  | with_reducible refine' s_inSg ?_
  | with_reducible refine' s_nn ?_
  | with_reducible refine' s_meth ?_
  | with_reducible refine' s_make ?_
  | with_reducible refine' s_dnew ?_
  | with_reducible refine' s_dget ?_
  | with_reducible refine' s_din ?_
  | with_reducible refine' s_dnotin ?_
  | with_reducible refine' s_dput ?_
  | with_reducible refine' s_dget1 ?_
  | with_reducible refine' s_sfld ?_
  | with_reducible refine' s_revL ?_
  | with_reducible refine' s_iZip3 ?_
  | with_reducible refine' s_iRng2 ?_
  | dsimp only
  | fail "no")
local macro_rules | `(tactic| walk_at "S") => `(tactic| repeat walk_at "S1")

theorem all_mk {l : PySem.W.OpenLaw} {w : World} {K : PySem.W.Frag} {h : Heap} {mg : Str → Option Value} {fa : Addr} (X : K.In h) (G : h.Ns mainGlobals mg) (hfa : mg "law" = some (.ref fa))
    {od_is_name an_is_name od_is_path an_is_path od_is_whole an_is_whole od_is_word an_is_word od_are_words an_are_words od_is_bare an_is_bare od_is_row_within an_is_row_within od_are_rows an_are_rows od_counted an_counted od_is_body an_is_body od_lines_of an_lines_of od_body_text an_body_text od_number_in an_number_in od_row_in an_row_in od_rows_in an_rows_in od_read_body an_read_body od_l_at an_l_at od_l_pot an_l_pot od_l_draw an_l_draw od_l_name an_l_name od_l_path an_l_path od_l_number an_l_number od_l_fault_words an_l_fault_words od_l_row an_l_row od_l_rows an_l_rows od_l_lines an_l_lines od_l_right an_l_right od_law an_law : Option Addr} {sl_is_name sl_is_path sl_is_whole sl_is_word sl_are_words sl_is_bare sl_is_row_within sl_are_rows sl_counted sl_is_body sl_lines_of sl_body_text sl_number_in sl_row_in sl_rows_in sl_read_body sl_l_at sl_l_pot sl_l_draw sl_l_name sl_l_path sl_l_number sl_l_fault_words sl_l_row sl_l_rows sl_l_lines sl_l_right sl_law : Array (Option Value)} {oc_is_name kV_is_name dc_is_name pm_is_name cd_is_name ct_is_name oc_is_path kV_is_path dc_is_path pm_is_path cd_is_path ct_is_path oc_is_whole kV_is_whole dc_is_whole pm_is_whole cd_is_whole ct_is_whole oc_is_word kV_is_word dc_is_word pm_is_word cd_is_word ct_is_word oc_are_words kV_are_words dc_are_words pm_are_words cd_are_words ct_are_words oc_is_bare kV_is_bare dc_is_bare pm_is_bare cd_is_bare ct_is_bare oc_is_row_within kV_is_row_within dc_is_row_within pm_is_row_within cd_is_row_within ct_is_row_within oc_are_rows kV_are_rows dc_are_rows pm_are_rows cd_are_rows ct_are_rows oc_counted kV_counted dc_counted pm_counted cd_counted ct_counted oc_is_body kV_is_body dc_is_body pm_is_body cd_is_body ct_is_body oc_lines_of kV_lines_of dc_lines_of pm_lines_of cd_lines_of ct_lines_of oc_body_text kV_body_text dc_body_text pm_body_text cd_body_text ct_body_text oc_number_in kV_number_in dc_number_in pm_number_in cd_number_in ct_number_in oc_row_in kV_row_in dc_row_in pm_row_in cd_row_in ct_row_in oc_rows_in kV_rows_in dc_rows_in pm_rows_in cd_rows_in ct_rows_in oc_read_body kV_read_body dc_read_body pm_read_body cd_read_body ct_read_body oc_l_at kV_l_at dc_l_at pm_l_at cd_l_at ct_l_at oc_l_pot kV_l_pot dc_l_pot pm_l_pot cd_l_pot ct_l_pot oc_l_draw kV_l_draw dc_l_draw pm_l_draw cd_l_draw ct_l_draw oc_l_name kV_l_name dc_l_name pm_l_name cd_l_name ct_l_name oc_l_path kV_l_path dc_l_path pm_l_path cd_l_path ct_l_path oc_l_number kV_l_number dc_l_number pm_l_number cd_l_number ct_l_number oc_l_fault_words kV_l_fault_words dc_l_fault_words pm_l_fault_words cd_l_fault_words ct_l_fault_words oc_l_row kV_l_row dc_l_row pm_l_row cd_l_row ct_l_row oc_l_rows kV_l_rows dc_l_rows pm_l_rows cd_l_rows ct_l_rows oc_l_lines kV_l_lines dc_l_lines pm_l_lines cd_l_lines ct_l_lines oc_l_right kV_l_right dc_l_right pm_l_right cd_l_right ct_l_right oc_law kV_law dc_law pm_law cd_law ct_law : Value}
    {f_is_name f_is_path f_is_whole f_is_word f_are_words f_is_bare f_is_row_within f_are_rows f_counted f_is_body f_lines_of f_body_text f_number_in f_row_in f_rows_in f_read_body f_l_at f_l_pot f_l_draw f_l_name f_l_path f_l_number f_l_fault_words f_l_row f_l_rows f_l_lines f_l_right f_law : Addr}
    {t_MOST_LETTERS t_LETTERS t_DOT t_MOST_NAMES t_MOST_ROWS t_MOST_TRIES t_FIGURES : Tok}
    {a_FAULT_WORDS : Addr} {o_FAULT_WORDS : Obj} {i_FAULT_WORDS : Array Value} {e_FAULT_WORDS : Nat}
    {a_LEADING : Addr} {o_LEADING : Obj} {i_LEADING : Array Value} {e_LEADING : Nat}
    (a_is_name : PySem.W.nsIn K mainGlobals "is_name" = some (some (.ref f_is_name))) (l_is_name : K.lookup f_is_name = some ⟨oc_is_name, od_is_name, .func (PySem.W.fnOf "is_name" "is_name" (defArgs s_is_name) (defBody s_is_name) (defScope s_is_name) .none kV_is_name dc_is_name pm_is_name an_is_name cd_is_name ct_is_name), sl_is_name⟩) (c_is_name : PySem.W.codeIn K cd_is_name "is_name" = true) (k_is_name : PySem.W.keepIn K (.ref f_is_name) = true)
    (a_is_path : PySem.W.nsIn K mainGlobals "is_path" = some (some (.ref f_is_path))) (l_is_path : K.lookup f_is_path = some ⟨oc_is_path, od_is_path, .func (PySem.W.fnOf "is_path" "is_path" (defArgs s_is_path) (defBody s_is_path) (defScope s_is_path) .none kV_is_path dc_is_path pm_is_path an_is_path cd_is_path ct_is_path), sl_is_path⟩) (c_is_path : PySem.W.codeIn K cd_is_path "is_path" = true) (k_is_path : PySem.W.keepIn K (.ref f_is_path) = true)
    (a_is_whole : PySem.W.nsIn K mainGlobals "is_whole" = some (some (.ref f_is_whole))) (l_is_whole : K.lookup f_is_whole = some ⟨oc_is_whole, od_is_whole, .func (PySem.W.fnOf "is_whole" "is_whole" (defArgs s_is_whole) (defBody s_is_whole) (defScope s_is_whole) .none kV_is_whole dc_is_whole pm_is_whole an_is_whole cd_is_whole ct_is_whole), sl_is_whole⟩) (c_is_whole : PySem.W.codeIn K cd_is_whole "is_whole" = true) (k_is_whole : PySem.W.keepIn K (.ref f_is_whole) = true)
    (a_is_word : PySem.W.nsIn K mainGlobals "is_word" = some (some (.ref f_is_word))) (l_is_word : K.lookup f_is_word = some ⟨oc_is_word, od_is_word, .func (PySem.W.fnOf "is_word" "is_word" (defArgs s_is_word) (defBody s_is_word) (defScope s_is_word) .none kV_is_word dc_is_word pm_is_word an_is_word cd_is_word ct_is_word), sl_is_word⟩) (c_is_word : PySem.W.codeIn K cd_is_word "is_word" = true) (k_is_word : PySem.W.keepIn K (.ref f_is_word) = true)
    (a_are_words : PySem.W.nsIn K mainGlobals "are_words" = some (some (.ref f_are_words))) (l_are_words : K.lookup f_are_words = some ⟨oc_are_words, od_are_words, .func (PySem.W.fnOf "are_words" "are_words" (defArgs s_are_words) (defBody s_are_words) (defScope s_are_words) .none kV_are_words dc_are_words pm_are_words an_are_words cd_are_words ct_are_words), sl_are_words⟩) (c_are_words : PySem.W.codeIn K cd_are_words "are_words" = true) (k_are_words : PySem.W.keepIn K (.ref f_are_words) = true)
    (a_is_bare : PySem.W.nsIn K mainGlobals "is_bare" = some (some (.ref f_is_bare))) (l_is_bare : K.lookup f_is_bare = some ⟨oc_is_bare, od_is_bare, .func (PySem.W.fnOf "is_bare" "is_bare" (defArgs s_is_bare) (defBody s_is_bare) (defScope s_is_bare) .none kV_is_bare dc_is_bare pm_is_bare an_is_bare cd_is_bare ct_is_bare), sl_is_bare⟩) (c_is_bare : PySem.W.codeIn K cd_is_bare "is_bare" = true) (k_is_bare : PySem.W.keepIn K (.ref f_is_bare) = true)
    (a_is_row_within : PySem.W.nsIn K mainGlobals "is_row_within" = some (some (.ref f_is_row_within))) (l_is_row_within : K.lookup f_is_row_within = some ⟨oc_is_row_within, od_is_row_within, .func (PySem.W.fnOf "is_row_within" "is_row_within" (defArgs s_is_row_within) (defBody s_is_row_within) (defScope s_is_row_within) .none kV_is_row_within dc_is_row_within pm_is_row_within an_is_row_within cd_is_row_within ct_is_row_within), sl_is_row_within⟩) (c_is_row_within : PySem.W.codeIn K cd_is_row_within "is_row_within" = true) (k_is_row_within : PySem.W.keepIn K (.ref f_is_row_within) = true)
    (a_are_rows : PySem.W.nsIn K mainGlobals "are_rows" = some (some (.ref f_are_rows))) (l_are_rows : K.lookup f_are_rows = some ⟨oc_are_rows, od_are_rows, .func (PySem.W.fnOf "are_rows" "are_rows" (defArgs s_are_rows) (defBody s_are_rows) (defScope s_are_rows) .none kV_are_rows dc_are_rows pm_are_rows an_are_rows cd_are_rows ct_are_rows), sl_are_rows⟩) (c_are_rows : PySem.W.codeIn K cd_are_rows "are_rows" = true) (k_are_rows : PySem.W.keepIn K (.ref f_are_rows) = true)
    (a_counted : PySem.W.nsIn K mainGlobals "counted" = some (some (.ref f_counted))) (l_counted : K.lookup f_counted = some ⟨oc_counted, od_counted, .func (PySem.W.fnOf "counted" "counted" (defArgs s_counted) (defBody s_counted) (defScope s_counted) .none kV_counted dc_counted pm_counted an_counted cd_counted ct_counted), sl_counted⟩) (c_counted : PySem.W.codeIn K cd_counted "counted" = true) (k_counted : PySem.W.keepIn K (.ref f_counted) = true)
    (a_is_body : PySem.W.nsIn K mainGlobals "is_body" = some (some (.ref f_is_body))) (l_is_body : K.lookup f_is_body = some ⟨oc_is_body, od_is_body, .func (PySem.W.fnOf "is_body" "is_body" (defArgs s_is_body) (defBody s_is_body) (defScope s_is_body) .none kV_is_body dc_is_body pm_is_body an_is_body cd_is_body ct_is_body), sl_is_body⟩) (c_is_body : PySem.W.codeIn K cd_is_body "is_body" = true) (k_is_body : PySem.W.keepIn K (.ref f_is_body) = true)
    (a_lines_of : PySem.W.nsIn K mainGlobals "lines_of" = some (some (.ref f_lines_of))) (l_lines_of : K.lookup f_lines_of = some ⟨oc_lines_of, od_lines_of, .func (PySem.W.fnOf "lines_of" "lines_of" (defArgs s_lines_of) (defBody s_lines_of) (defScope s_lines_of) .none kV_lines_of dc_lines_of pm_lines_of an_lines_of cd_lines_of ct_lines_of), sl_lines_of⟩) (c_lines_of : PySem.W.codeIn K cd_lines_of "lines_of" = true) (k_lines_of : PySem.W.keepIn K (.ref f_lines_of) = true)
    (a_body_text : PySem.W.nsIn K mainGlobals "body_text" = some (some (.ref f_body_text))) (l_body_text : K.lookup f_body_text = some ⟨oc_body_text, od_body_text, .func (PySem.W.fnOf "body_text" "body_text" (defArgs s_body_text) (defBody s_body_text) (defScope s_body_text) .none kV_body_text dc_body_text pm_body_text an_body_text cd_body_text ct_body_text), sl_body_text⟩) (c_body_text : PySem.W.codeIn K cd_body_text "body_text" = true) (k_body_text : PySem.W.keepIn K (.ref f_body_text) = true)
    (a_number_in : PySem.W.nsIn K mainGlobals "number_in" = some (some (.ref f_number_in))) (l_number_in : K.lookup f_number_in = some ⟨oc_number_in, od_number_in, .func (PySem.W.fnOf "number_in" "number_in" (defArgs s_number_in) (defBody s_number_in) (defScope s_number_in) .none kV_number_in dc_number_in pm_number_in an_number_in cd_number_in ct_number_in), sl_number_in⟩) (c_number_in : PySem.W.codeIn K cd_number_in "number_in" = true) (k_number_in : PySem.W.keepIn K (.ref f_number_in) = true)
    (a_row_in : PySem.W.nsIn K mainGlobals "row_in" = some (some (.ref f_row_in))) (l_row_in : K.lookup f_row_in = some ⟨oc_row_in, od_row_in, .func (PySem.W.fnOf "row_in" "row_in" (defArgs s_row_in) (defBody s_row_in) (defScope s_row_in) .none kV_row_in dc_row_in pm_row_in an_row_in cd_row_in ct_row_in), sl_row_in⟩) (c_row_in : PySem.W.codeIn K cd_row_in "row_in" = true) (k_row_in : PySem.W.keepIn K (.ref f_row_in) = true)
    (a_rows_in : PySem.W.nsIn K mainGlobals "rows_in" = some (some (.ref f_rows_in))) (l_rows_in : K.lookup f_rows_in = some ⟨oc_rows_in, od_rows_in, .func (PySem.W.fnOf "rows_in" "rows_in" (defArgs s_rows_in) (defBody s_rows_in) (defScope s_rows_in) .none kV_rows_in dc_rows_in pm_rows_in an_rows_in cd_rows_in ct_rows_in), sl_rows_in⟩) (c_rows_in : PySem.W.codeIn K cd_rows_in "rows_in" = true) (k_rows_in : PySem.W.keepIn K (.ref f_rows_in) = true)
    (a_read_body : PySem.W.nsIn K mainGlobals "read_body" = some (some (.ref f_read_body))) (l_read_body : K.lookup f_read_body = some ⟨oc_read_body, od_read_body, .func (PySem.W.fnOf "read_body" "read_body" (defArgs s_read_body) (defBody s_read_body) (defScope s_read_body) .none kV_read_body dc_read_body pm_read_body an_read_body cd_read_body ct_read_body), sl_read_body⟩) (c_read_body : PySem.W.codeIn K cd_read_body "read_body" = true) (k_read_body : PySem.W.keepIn K (.ref f_read_body) = true)
    (a_l_at : PySem.W.nsIn K mainGlobals "_law_at" = some (some (.ref f_l_at))) (l_l_at : K.lookup f_l_at = some ⟨oc_l_at, od_l_at, .func (PySem.W.fnOf "_law_at" "_law_at" (defArgs s_l_at) (defBody s_l_at) (defScope s_l_at) .none kV_l_at dc_l_at pm_l_at an_l_at cd_l_at ct_l_at), sl_l_at⟩) (c_l_at : PySem.W.codeIn K cd_l_at "_law_at" = true) (k_l_at : PySem.W.keepIn K (.ref f_l_at) = true)
    (a_l_pot : PySem.W.nsIn K mainGlobals "_law_pot" = some (some (.ref f_l_pot))) (l_l_pot : K.lookup f_l_pot = some ⟨oc_l_pot, od_l_pot, .func (PySem.W.fnOf "_law_pot" "_law_pot" (defArgs s_l_pot) (defBody s_l_pot) (defScope s_l_pot) .none kV_l_pot dc_l_pot pm_l_pot an_l_pot cd_l_pot ct_l_pot), sl_l_pot⟩) (c_l_pot : PySem.W.codeIn K cd_l_pot "_law_pot" = true) (k_l_pot : PySem.W.keepIn K (.ref f_l_pot) = true)
    (a_l_draw : PySem.W.nsIn K mainGlobals "_law_draw" = some (some (.ref f_l_draw))) (l_l_draw : K.lookup f_l_draw = some ⟨oc_l_draw, od_l_draw, .func (PySem.W.fnOf "_law_draw" "_law_draw" (defArgs s_l_draw) (defBody s_l_draw) (defScope s_l_draw) .none kV_l_draw dc_l_draw pm_l_draw an_l_draw cd_l_draw ct_l_draw), sl_l_draw⟩) (c_l_draw : PySem.W.codeIn K cd_l_draw "_law_draw" = true) (k_l_draw : PySem.W.keepIn K (.ref f_l_draw) = true)
    (a_l_name : PySem.W.nsIn K mainGlobals "_law_name" = some (some (.ref f_l_name))) (l_l_name : K.lookup f_l_name = some ⟨oc_l_name, od_l_name, .func (PySem.W.fnOf "_law_name" "_law_name" (defArgs s_l_name) (defBody s_l_name) (defScope s_l_name) .none kV_l_name dc_l_name pm_l_name an_l_name cd_l_name ct_l_name), sl_l_name⟩) (c_l_name : PySem.W.codeIn K cd_l_name "_law_name" = true) (k_l_name : PySem.W.keepIn K (.ref f_l_name) = true)
    (a_l_path : PySem.W.nsIn K mainGlobals "_law_path" = some (some (.ref f_l_path))) (l_l_path : K.lookup f_l_path = some ⟨oc_l_path, od_l_path, .func (PySem.W.fnOf "_law_path" "_law_path" (defArgs s_l_path) (defBody s_l_path) (defScope s_l_path) .none kV_l_path dc_l_path pm_l_path an_l_path cd_l_path ct_l_path), sl_l_path⟩) (c_l_path : PySem.W.codeIn K cd_l_path "_law_path" = true) (k_l_path : PySem.W.keepIn K (.ref f_l_path) = true)
    (a_l_number : PySem.W.nsIn K mainGlobals "_law_number" = some (some (.ref f_l_number))) (l_l_number : K.lookup f_l_number = some ⟨oc_l_number, od_l_number, .func (PySem.W.fnOf "_law_number" "_law_number" (defArgs s_l_number) (defBody s_l_number) (defScope s_l_number) .none kV_l_number dc_l_number pm_l_number an_l_number cd_l_number ct_l_number), sl_l_number⟩) (c_l_number : PySem.W.codeIn K cd_l_number "_law_number" = true) (k_l_number : PySem.W.keepIn K (.ref f_l_number) = true)
    (a_l_fault_words : PySem.W.nsIn K mainGlobals "_law_fault_words" = some (some (.ref f_l_fault_words))) (l_l_fault_words : K.lookup f_l_fault_words = some ⟨oc_l_fault_words, od_l_fault_words, .func (PySem.W.fnOf "_law_fault_words" "_law_fault_words" (defArgs s_l_fault_words) (defBody s_l_fault_words) (defScope s_l_fault_words) .none kV_l_fault_words dc_l_fault_words pm_l_fault_words an_l_fault_words cd_l_fault_words ct_l_fault_words), sl_l_fault_words⟩) (c_l_fault_words : PySem.W.codeIn K cd_l_fault_words "_law_fault_words" = true) (k_l_fault_words : PySem.W.keepIn K (.ref f_l_fault_words) = true)
    (a_l_row : PySem.W.nsIn K mainGlobals "_law_row" = some (some (.ref f_l_row))) (l_l_row : K.lookup f_l_row = some ⟨oc_l_row, od_l_row, .func (PySem.W.fnOf "_law_row" "_law_row" (defArgs s_l_row) (defBody s_l_row) (defScope s_l_row) .none kV_l_row dc_l_row pm_l_row an_l_row cd_l_row ct_l_row), sl_l_row⟩) (c_l_row : PySem.W.codeIn K cd_l_row "_law_row" = true) (k_l_row : PySem.W.keepIn K (.ref f_l_row) = true)
    (a_l_rows : PySem.W.nsIn K mainGlobals "_law_rows" = some (some (.ref f_l_rows))) (l_l_rows : K.lookup f_l_rows = some ⟨oc_l_rows, od_l_rows, .func (PySem.W.fnOf "_law_rows" "_law_rows" (defArgs s_l_rows) (defBody s_l_rows) (defScope s_l_rows) .none kV_l_rows dc_l_rows pm_l_rows an_l_rows cd_l_rows ct_l_rows), sl_l_rows⟩) (c_l_rows : PySem.W.codeIn K cd_l_rows "_law_rows" = true) (k_l_rows : PySem.W.keepIn K (.ref f_l_rows) = true)
    (a_l_lines : PySem.W.nsIn K mainGlobals "_law_lines" = some (some (.ref f_l_lines))) (l_l_lines : K.lookup f_l_lines = some ⟨oc_l_lines, od_l_lines, .func (PySem.W.fnOf "_law_lines" "_law_lines" (defArgs s_l_lines) (defBody s_l_lines) (defScope s_l_lines) .none kV_l_lines dc_l_lines pm_l_lines an_l_lines cd_l_lines ct_l_lines), sl_l_lines⟩) (c_l_lines : PySem.W.codeIn K cd_l_lines "_law_lines" = true) (k_l_lines : PySem.W.keepIn K (.ref f_l_lines) = true)
    (a_l_right : PySem.W.nsIn K mainGlobals "_law_right" = some (some (.ref f_l_right))) (l_l_right : K.lookup f_l_right = some ⟨oc_l_right, od_l_right, .func (PySem.W.fnOf "_law_right" "_law_right" (defArgs s_l_right) (defBody s_l_right) (defScope s_l_right) .none kV_l_right dc_l_right pm_l_right an_l_right cd_l_right ct_l_right), sl_l_right⟩) (c_l_right : PySem.W.codeIn K cd_l_right "_law_right" = true) (k_l_right : PySem.W.keepIn K (.ref f_l_right) = true)
    (a_law : PySem.W.nsIn K mainGlobals "law" = some (some (.ref f_law))) (l_law : K.lookup f_law = some ⟨oc_law, od_law, .func (PySem.W.fnOf "law" "law" (defArgs s_law) (defBody s_law) (defScope s_law) .none kV_law dc_law pm_law an_law cd_law ct_law), sl_law⟩) (c_law : PySem.W.codeIn K cd_law "law" = true) (k_law : PySem.W.keepIn K (.ref f_law) = true)
    (z_len : PySem.W.nsIn K mainGlobals "len" = some none)
    (z_isinstance : PySem.W.nsIn K mainGlobals "isinstance" = some none)
    (z_str : PySem.W.nsIn K mainGlobals "str" = some none)
    (z_all : PySem.W.nsIn K mainGlobals "all" = some none)
    (z_bool : PySem.W.nsIn K mainGlobals "bool" = some none)
    (z_int : PySem.W.nsIn K mainGlobals "int" = some none)
    (z_tuple : PySem.W.nsIn K mainGlobals "tuple" = some none)
    (z_set : PySem.W.nsIn K mainGlobals "set" = some none)
    (z_list : PySem.W.nsIn K mainGlobals "list" = some none)
    (z_max : PySem.W.nsIn K mainGlobals "max" = some none)
    (z_divmod : PySem.W.nsIn K mainGlobals "divmod" = some none)
    (z_range : PySem.W.nsIn K mainGlobals "range" = some none)
    (z_repr : PySem.W.nsIn K mainGlobals "repr" = some none)
    (z_min : PySem.W.nsIn K mainGlobals "min" = some none)
    (v_MOST_LETTERS : PySem.W.nsIn K mainGlobals "MOST_LETTERS" = some (some (.int 8 t_MOST_LETTERS)))
    (v_LETTERS : PySem.W.nsIn K mainGlobals "LETTERS" = some (some (.str "abcdefghijklmnopqrstuvwxyz" t_LETTERS)))
    (v_DOT : PySem.W.nsIn K mainGlobals "DOT" = some (some (.str "." t_DOT)))
    (v_MOST_NAMES : PySem.W.nsIn K mainGlobals "MOST_NAMES" = some (some (.int 4 t_MOST_NAMES)))
    (v_MOST_ROWS : PySem.W.nsIn K mainGlobals "MOST_ROWS" = some (some (.int 40 t_MOST_ROWS)))
    (v_MOST_TRIES : PySem.W.nsIn K mainGlobals "MOST_TRIES" = some (some (.int 3 t_MOST_TRIES)))
    (v_FIGURES : PySem.W.nsIn K mainGlobals "FIGURES" = some (some (.str "0123456789" t_FIGURES)))
    (v_FAULT_WORDS : PySem.W.nsIn K mainGlobals "FAULT_WORDS" = some (some (.ref a_FAULT_WORDS))) (y_FAULT_WORDS : K.lookup a_FAULT_WORDS = some o_FAULT_WORDS) (w_FAULT_WORDS : o_FAULT_WORDS.cls = .type "tuple" ∧ o_FAULT_WORDS.data = .seq i_FAULT_WORDS e_FAULT_WORDS ∧ i_FAULT_WORDS.size ≤ sizeLine ∧ Vals [.str "NOMODULE", .str "NONAME", .str "HALF", .str "FLAT", .str "NOTASK", .str "ALL"] i_FAULT_WORDS.toList)
    (v_LEADING : PySem.W.nsIn K mainGlobals "LEADING" = some (some (.ref a_LEADING))) (y_LEADING : K.lookup a_LEADING = some o_LEADING) (w_LEADING : o_LEADING.cls = .type "tuple" ∧ o_LEADING.data = .seq i_LEADING e_LEADING ∧ i_LEADING.size ≤ sizeLine ∧ Vals [.str "now", .str "take", .str "late", .str "ask"] i_LEADING.toList) :
    ∃ fd : FuncData, (∀ (s : Shared) (v : Value), BindsTo s fd ⟨[v], []⟩ [("_law_script", v)]) ∧ ∀ base : Heap, K.In base → base.Ns mainGlobals mg → FnG l.prog w K mg base 15 fa fd ["_law_script"] (spLaw K) := by
  have e := hfa.symm.trans (PySem.W.mg_of X G a_law)
  cases e
  have F_is_name := fun_mk (st := s_is_name) l_is_name c_is_name k_is_name
  have b_is_name := F_is_name.binds (ps := ["thing"]) fun _ _ _ _ _ _ us hl => match us, hl with | [_], _ => rfl
  have m_is_name := PySem.W.mg_of X G a_is_name
  have F_is_path := fun_mk (st := s_is_path) l_is_path c_is_path k_is_path
  have b_is_path := F_is_path.binds (ps := ["thing"]) fun _ _ _ _ _ _ us hl => match us, hl with | [_], _ => rfl
  have m_is_path := PySem.W.mg_of X G a_is_path
  have F_is_whole := fun_mk (st := s_is_whole) l_is_whole c_is_whole k_is_whole
  have b_is_whole := F_is_whole.binds (ps := ["thing"]) fun _ _ _ _ _ _ us hl => match us, hl with | [_], _ => rfl
  have m_is_whole := PySem.W.mg_of X G a_is_whole
  have F_is_word := fun_mk (st := s_is_word) l_is_word c_is_word k_is_word
  have b_is_word := F_is_word.binds (ps := ["thing"]) fun _ _ _ _ _ _ us hl => match us, hl with | [_], _ => rfl
  have m_is_word := PySem.W.mg_of X G a_is_word
  have F_are_words := fun_mk (st := s_are_words) l_are_words c_are_words k_are_words
  have b_are_words := F_are_words.binds (ps := ["thing"]) fun _ _ _ _ _ _ us hl => match us, hl with | [_], _ => rfl
  have m_are_words := PySem.W.mg_of X G a_are_words
  have F_is_bare := fun_mk (st := s_is_bare) l_is_bare c_is_bare k_is_bare
  have b_is_bare := F_is_bare.binds (ps := ["row"]) fun _ _ _ _ _ _ us hl => match us, hl with | [_], _ => rfl
  have m_is_bare := PySem.W.mg_of X G a_is_bare
  have F_is_row_within := fun_mk (st := s_is_row_within) l_is_row_within c_is_row_within k_is_row_within
  have b_is_row_within := F_is_row_within.binds (ps := ["thing", "tries"]) fun _ _ _ _ _ _ us hl => match us, hl with | [_, _], _ => rfl
  have m_is_row_within := PySem.W.mg_of X G a_is_row_within
  have F_are_rows := fun_mk (st := s_are_rows) l_are_rows c_are_rows k_are_rows
  have b_are_rows := F_are_rows.binds (ps := ["thing", "tries"]) fun _ _ _ _ _ _ us hl => match us, hl with | [_, _], _ => rfl
  have m_are_rows := PySem.W.mg_of X G a_are_rows
  have F_counted := fun_mk (st := s_counted) l_counted c_counted k_counted
  have b_counted := F_counted.binds (ps := ["body"]) fun _ _ _ _ _ _ us hl => match us, hl with | [_], _ => rfl
  have m_counted := PySem.W.mg_of X G a_counted
  have F_is_body := fun_mk (st := s_is_body) l_is_body c_is_body k_is_body
  have b_is_body := F_is_body.binds (ps := ["thing"]) fun _ _ _ _ _ _ us hl => match us, hl with | [_], _ => rfl
  have m_is_body := PySem.W.mg_of X G a_is_body
  have F_lines_of := fun_mk (st := s_lines_of) l_lines_of c_lines_of k_lines_of
  have b_lines_of := F_lines_of.binds (ps := ["rows"]) fun _ _ _ _ _ _ us hl => match us, hl with | [_], _ => rfl
  have m_lines_of := PySem.W.mg_of X G a_lines_of
  have F_body_text := fun_mk (st := s_body_text) l_body_text c_body_text k_body_text
  have b_body_text := F_body_text.binds (ps := ["body"]) fun _ _ _ _ _ _ us hl => match us, hl with | [_], _ => rfl
  have m_body_text := PySem.W.mg_of X G a_body_text
  have F_number_in := fun_mk (st := s_number_in) l_number_in c_number_in k_number_in
  have b_number_in := F_number_in.binds (ps := ["word"]) fun _ _ _ _ _ _ us hl => match us, hl with | [_], _ => rfl
  have m_number_in := PySem.W.mg_of X G a_number_in
  have F_row_in := fun_mk (st := s_row_in) l_row_in c_row_in k_row_in
  have b_row_in := F_row_in.binds (ps := ["words"]) fun _ _ _ _ _ _ us hl => match us, hl with | [_], _ => rfl
  have m_row_in := PySem.W.mg_of X G a_row_in
  have F_rows_in := fun_mk (st := s_rows_in) l_rows_in c_rows_in k_rows_in
  have b_rows_in := F_rows_in.binds (ps := ["lines"]) fun _ _ _ _ _ _ us hl => match us, hl with | [_], _ => rfl
  have m_rows_in := PySem.W.mg_of X G a_rows_in
  have F_read_body := fun_mk (st := s_read_body) l_read_body c_read_body k_read_body
  have b_read_body := F_read_body.binds (ps := ["text"]) fun _ _ _ _ _ _ us hl => match us, hl with | [_], _ => rfl
  have m_read_body := PySem.W.mg_of X G a_read_body
  have F_l_at := fun_mk (st := s_l_at) l_l_at c_l_at k_l_at
  have b_l_at := F_l_at.binds (ps := ["_law_script", "_law_k"]) fun _ _ _ _ _ _ us hl => match us, hl with | [_, _], _ => rfl
  have m_l_at := PySem.W.mg_of X G a_l_at
  have F_l_pot := fun_mk (st := s_l_pot) l_l_pot c_l_pot k_l_pot
  have b_l_pot := F_l_pot.binds (ps := ["_law_script", "_law_k"]) fun _ _ _ _ _ _ us hl => match us, hl with | [_, _], _ => rfl
  have m_l_pot := PySem.W.mg_of X G a_l_pot
  have F_l_draw := fun_mk (st := s_l_draw) l_l_draw c_l_draw k_l_draw
  have b_l_draw := F_l_draw.binds (ps := ["_law_pot_here", "_law_many"]) fun _ _ _ _ _ _ us hl => match us, hl with | [_, _], _ => rfl
  have m_l_draw := PySem.W.mg_of X G a_l_draw
  have F_l_name := fun_mk (st := s_l_name) l_l_name c_l_name k_l_name
  have b_l_name := F_l_name.binds (ps := ["_law_pot_here"]) fun _ _ _ _ _ _ us hl => match us, hl with | [_], _ => rfl
  have m_l_name := PySem.W.mg_of X G a_l_name
  have F_l_path := fun_mk (st := s_l_path) l_l_path c_l_path k_l_path
  have b_l_path := F_l_path.binds (ps := ["_law_pot_here"]) fun _ _ _ _ _ _ us hl => match us, hl with | [_], _ => rfl
  have m_l_path := PySem.W.mg_of X G a_l_path
  have F_l_number := fun_mk (st := s_l_number) l_l_number c_l_number k_l_number
  have b_l_number := F_l_number.binds (ps := ["_law_pot_here"]) fun _ _ _ _ _ _ us hl => match us, hl with | [_], _ => rfl
  have m_l_number := PySem.W.mg_of X G a_l_number
  have F_l_fault_words := fun_mk (st := s_l_fault_words) l_l_fault_words c_l_fault_words k_l_fault_words
  have b_l_fault_words := F_l_fault_words.binds (ps := ["_law_pot_here"]) fun _ _ _ _ _ _ us hl => match us, hl with | [_], _ => rfl
  have m_l_fault_words := PySem.W.mg_of X G a_l_fault_words
  have F_l_row := fun_mk (st := s_l_row) l_l_row c_l_row k_l_row
  have b_l_row := F_l_row.binds (ps := ["_law_pot_here", "_law_room", "_law_deep"]) fun _ _ _ _ _ _ us hl => match us, hl with | [_, _, _], _ => rfl
  have m_l_row := PySem.W.mg_of X G a_l_row
  have F_l_rows := fun_mk (st := s_l_rows) l_l_rows c_l_rows k_l_rows
  have b_l_rows := F_l_rows.binds (ps := ["_law_pot_here", "_law_room", "_law_deep"]) fun _ _ _ _ _ _ us hl => match us, hl with | [_, _, _], _ => rfl
  have m_l_rows := PySem.W.mg_of X G a_l_rows
  have F_l_lines := fun_mk (st := s_l_lines) l_l_lines c_l_lines k_l_lines
  have b_l_lines := F_l_lines.binds (ps := ["_law_rows_here"]) fun _ _ _ _ _ _ us hl => match us, hl with | [_], _ => rfl
  have m_l_lines := PySem.W.mg_of X G a_l_lines
  have F_l_right := fun_mk (st := s_l_right) l_l_right c_l_right k_l_right
  have b_l_right := F_l_right.binds (ps := ["_law_body"]) fun _ _ _ _ _ _ us hl => match us, hl with | [_], _ => rfl
  have m_l_right := PySem.W.mg_of X G a_l_right
  have F_law := fun_mk (st := s_law) l_law c_law k_law
  have b_law := F_law.binds (ps := ["_law_script"]) fun _ _ _ _ _ _ us hl => match us, hl with | [_], _ => rfl
  have m_law := PySem.W.mg_of X G a_law
  have n_len := PySem.W.mg_none_of X G z_len
  have n_isinstance := PySem.W.mg_none_of X G z_isinstance
  have n_str := PySem.W.mg_none_of X G z_str
  have n_all := PySem.W.mg_none_of X G z_all
  have n_bool := PySem.W.mg_none_of X G z_bool
  have n_int := PySem.W.mg_none_of X G z_int
  have n_tuple := PySem.W.mg_none_of X G z_tuple
  have n_set := PySem.W.mg_none_of X G z_set
  have n_list := PySem.W.mg_none_of X G z_list
  have n_max := PySem.W.mg_none_of X G z_max
  have n_divmod := PySem.W.mg_none_of X G z_divmod
  have n_range := PySem.W.mg_none_of X G z_range
  have n_repr := PySem.W.mg_none_of X G z_repr
  have n_min := PySem.W.mg_none_of X G z_min
  have g_MOST_LETTERS := PySem.W.mg_of X G v_MOST_LETTERS
  have g_LETTERS := PySem.W.mg_of X G v_LETTERS
  have g_DOT := PySem.W.mg_of X G v_DOT
  have g_MOST_NAMES := PySem.W.mg_of X G v_MOST_NAMES
  have g_FAULT_WORDS := PySem.W.mg_of X G v_FAULT_WORDS
  have q_FAULT_WORDS : ∀ H, SqT K H a_FAULT_WORDS [.str "NOMODULE", .str "NONAME", .str "HALF", .str "FLAT", .str "NOTASK", .str "ALL"] := fun H => .inr ⟨o_FAULT_WORDS, i_FAULT_WORDS, e_FAULT_WORDS, y_FAULT_WORDS, w_FAULT_WORDS.1, w_FAULT_WORDS.2.1, w_FAULT_WORDS.2.2.1, w_FAULT_WORDS.2.2.2⟩
  have g_LEADING := PySem.W.mg_of X G v_LEADING
  have q_LEADING : ∀ H, SqT K H a_LEADING [.str "now", .str "take", .str "late", .str "ask"] := fun H => .inr ⟨o_LEADING, i_LEADING, e_LEADING, y_LEADING, w_LEADING.1, w_LEADING.2.1, w_LEADING.2.2.1, w_LEADING.2.2.2⟩
  have g_MOST_ROWS := PySem.W.mg_of X G v_MOST_ROWS
  have g_MOST_TRIES := PySem.W.mg_of X G v_MOST_TRIES
  have g_FIGURES := PySem.W.mg_of X G v_FIGURES
  refine ⟨PySem.W.fnOf "law" "law" (defArgs s_law) (defBody s_law) (defScope s_law) .none kV_law dc_law pm_law an_law cd_law ct_law, fun s v => .of_eq rfl, fun base _ _ => ?_⟩
  have T : Txt K mg := ⟨n_len, n_isinstance, n_str, n_all, n_bool, n_int, n_tuple, n_set, n_list, n_max, n_divmod, n_range, n_repr, n_min, ⟨_, g_MOST_LETTERS⟩, ⟨_, g_LETTERS⟩, ⟨_, g_DOT⟩, ⟨_, g_MOST_NAMES⟩, ⟨_, g_FAULT_WORDS, q_FAULT_WORDS⟩, ⟨_, g_LEADING, q_LEADING⟩, ⟨_, g_MOST_ROWS⟩, ⟨_, g_MOST_TRIES⟩, ⟨_, g_FIGURES⟩⟩
  have D_l_at : DnF l.prog w K mg base 1 "_law_at" ["_law_script", "_law_k"] (spAt K) := ⟨_, _, ok_at F_l_at T, m_l_at, k_l_at, b_l_at⟩
  have D_l_pot : DnF l.prog w K mg base 2 "_law_pot" ["_law_script", "_law_k"] (spPot K) := ⟨_, _, ok_pot F_l_pot T D_l_at, m_l_pot, k_l_pot, b_l_pot⟩
  have D_l_draw : DnF l.prog w K mg base 1 "_law_draw" ["_law_pot_here", "_law_many"] spDraw := ⟨_, _, ok_draw F_l_draw T, m_l_draw, k_l_draw, b_l_draw⟩
  have D_l_name : DnF l.prog w K mg base 2 "_law_name" ["_law_pot_here"] spName := ⟨_, _, ok_name F_l_name T D_l_draw, m_l_name, k_l_name, b_l_name⟩
  have D_l_path : DnF l.prog w K mg base 3 "_law_path" ["_law_pot_here"] spPath := ⟨_, _, ok_path F_l_path T D_l_draw D_l_name, m_l_path, k_l_path, b_l_path⟩
  have D_l_number : DnF l.prog w K mg base 2 "_law_number" ["_law_pot_here"] spNumber := ⟨_, _, ok_number F_l_number D_l_draw, m_l_number, k_l_number, b_l_number⟩
  have D_l_fault_words : DnF l.prog w K mg base 3 "_law_fault_words" ["_law_pot_here"] spWords := ⟨_, _, ok_words F_l_fault_words T D_l_draw D_l_name, m_l_fault_words, k_l_fault_words, b_l_fault_words⟩
  have D_l_rows : DnF l.prog w K mg base 11 "_law_rows" ["_law_pot_here", "_law_room", "_law_deep"] (spRows K 3) := ⟨_, _, rows_all F_l_rows F_l_row T D_l_draw D_l_name D_l_path D_l_number D_l_fault_words m_l_rows k_l_rows b_l_rows m_l_row k_l_row b_l_row 3 (Nat.le_refl _), m_l_rows, k_l_rows, b_l_rows⟩
  have D_is_name : DnF l.prog w K mg base 1 "is_name" ["thing"] (spIsName K) := ⟨_, _, ok_is_name F_is_name T, m_is_name, k_is_name, b_is_name⟩
  have D_is_path : DnF l.prog w K mg base 2 "is_path" ["thing"] (spIsPath K) := ⟨_, _, ok_is_path F_is_path T D_is_name, m_is_path, k_is_path, b_is_path⟩
  have D_is_whole : DnF l.prog w K mg base 1 "is_whole" ["thing"] (spIsWhole K) := ⟨_, _, ok_is_whole F_is_whole T, m_is_whole, k_is_whole, b_is_whole⟩
  have D_is_word : DnF l.prog w K mg base 2 "is_word" ["thing"] spIsWord := ⟨_, _, ok_is_word F_is_word T D_is_name, m_is_word, k_is_word, b_is_word⟩
  have D_are_words : DnF l.prog w K mg base 3 "are_words" ["thing"] (spAreWords K) := ⟨_, _, ok_are_words F_are_words T D_is_word, m_are_words, k_are_words, b_are_words⟩
  have D_is_bare : DnF l.prog w K mg base 3 "is_bare" ["row"] (spIsBare K) := ⟨_, _, ok_is_bare F_is_bare T D_is_name D_is_path D_is_whole, m_is_bare, k_is_bare, b_is_bare⟩
  have D_are_rows : DnF l.prog w K mg base 11 "are_rows" ["thing", "tries"] (spAreRows K 3) := ⟨_, _, are_rows_all F_are_rows F_is_row_within T D_is_bare D_are_words m_are_rows k_are_rows b_are_rows m_is_row_within k_is_row_within b_is_row_within 3, m_are_rows, k_are_rows, b_are_rows⟩
  have D_counted : DnF l.prog w K mg base 4 "counted" ["body"] (spCounted K 3) := ⟨_, _, counted_all F_counted m_counted k_counted b_counted 3, m_counted, k_counted, b_counted⟩
  have D_is_body : DnF l.prog w K mg base 12 "is_body" ["thing"] (spIsBody K) := ⟨_, _, ok_is_body F_is_body T D_are_rows D_counted, m_is_body, k_is_body, b_is_body⟩
  have D_lines_of : DnF l.prog w K mg base 5 "lines_of" ["rows"] (spLines K 3) := ⟨_, _, lines_all F_lines_of T m_lines_of k_lines_of b_lines_of 3, m_lines_of, k_lines_of, b_lines_of⟩
  have D_body_text : DnF l.prog w K mg base 6 "body_text" ["body"] (spText K) := ⟨_, _, ok_body_text F_body_text D_lines_of, m_body_text, k_body_text, b_body_text⟩
  have D_number_in : DnF l.prog w K mg base 1 "number_in" ["word"] (spNum K) := ⟨_, _, ok_number_in F_number_in T, m_number_in, k_number_in, b_number_in⟩
  have D_row_in : DnF l.prog w K mg base 2 "row_in" ["words"] (spRowInW K) := ⟨_, _, ok_row_of F_row_in T D_number_in, m_row_in, k_row_in, b_row_in⟩
  have D_rows_in : DnF l.prog w K mg base 3 "rows_in" ["lines"] (spRowsInL K) := ⟨_, _, ok_rows_in F_rows_in T D_row_in, m_rows_in, k_rows_in, b_rows_in⟩
  have D_read_body : DnF l.prog w K mg base 13 "read_body" ["text"] (spRead K) := ⟨_, _, ok_read_body F_read_body T D_rows_in D_is_body D_body_text, m_read_body, k_read_body, b_read_body⟩
  have D_l_lines : DnF l.prog w K mg base 5 "_law_lines" ["_law_rows_here"] (spLines K 3) := ⟨_, _, l_lines_all F_l_lines T m_l_lines k_l_lines b_l_lines 3, m_l_lines, k_l_lines, b_l_lines⟩
  have D_l_right : DnG l.prog w K mg base 14 "_law_right" ["_law_body"] (spRight K) := ⟨_, _, ok_right F_l_right T D_l_lines D_read_body D_body_text, m_l_right, k_l_right, b_l_right⟩
  exact ok_law F_law T D_l_pot D_l_rows D_l_right
end K13
open PySem PySem.W PyProof.Rows in
set_option maxRecDepth 100000 in
set_option maxHeartbeats 0 in
theorem PySem.Challenge.cw_halfmade_k13_whole_bodies_written_holds : PySem.Challenge.rw_halfmade_k13_whole_bodies_written.Holds := by
  w_on; o_law; k_head; (case hw => w_witness2)
  k_fill
  refine HL.walk_ofG (l := PySem.Challenge.rw_halfmade_k13_whole_bodies_written) (n := 63) (k := 15) (x := "_law_script") (sp := fun w => K13.spLaw _) rfl (by decide) rfl ⟨rfl, by decide, by decide⟩ (fun w h Y => PySem.W.kIn_of Y) ?F (fun _ _ a ns hl _ hS => ⟨a, ns, rfl, hS, hl, fun _ => rfl⟩)
  case F =>
    intro w mg fa h KX G hmg
    refine' K13.all_mk KX G hmg ?a_is_name ?l_is_name ?c_is_name ?k_is_name ?a_is_path ?l_is_path ?c_is_path ?k_is_path ?a_is_whole ?l_is_whole ?c_is_whole ?k_is_whole ?a_is_word ?l_is_word ?c_is_word ?k_is_word ?a_are_words ?l_are_words ?c_are_words ?k_are_words ?a_is_bare ?l_is_bare ?c_is_bare ?k_is_bare ?a_is_row_within ?l_is_row_within ?c_is_row_within ?k_is_row_within ?a_are_rows ?l_are_rows ?c_are_rows ?k_are_rows ?a_counted ?l_counted ?c_counted ?k_counted ?a_is_body ?l_is_body ?c_is_body ?k_is_body ?a_lines_of ?l_lines_of ?c_lines_of ?k_lines_of ?a_body_text ?l_body_text ?c_body_text ?k_body_text ?a_number_in ?l_number_in ?c_number_in ?k_number_in ?a_row_in ?l_row_in ?c_row_in ?k_row_in ?a_rows_in ?l_rows_in ?c_rows_in ?k_rows_in ?a_read_body ?l_read_body ?c_read_body ?k_read_body ?a_l_at ?l_l_at ?c_l_at ?k_l_at ?a_l_pot ?l_l_pot ?c_l_pot ?k_l_pot ?a_l_draw ?l_l_draw ?c_l_draw ?k_l_draw ?a_l_name ?l_l_name ?c_l_name ?k_l_name ?a_l_path ?l_l_path ?c_l_path ?k_l_path ?a_l_number ?l_l_number ?c_l_number ?k_l_number ?a_l_fault_words ?l_l_fault_words ?c_l_fault_words ?k_l_fault_words ?a_l_row ?l_l_row ?c_l_row ?k_l_row ?a_l_rows ?l_l_rows ?c_l_rows ?k_l_rows ?a_l_lines ?l_l_lines ?c_l_lines ?k_l_lines ?a_l_right ?l_l_right ?c_l_right ?k_l_right ?a_law ?l_law ?c_law ?k_law ?z_len ?z_isinstance ?z_str ?z_all ?z_bool ?z_int ?z_tuple ?z_set ?z_list ?z_max ?z_divmod ?z_range ?z_repr ?z_min ?v_MOST_LETTERS ?v_LETTERS ?v_DOT ?v_MOST_NAMES ?v_MOST_ROWS ?v_MOST_TRIES ?v_FIGURES ?v_FAULT_WORDS ?y_FAULT_WORDS ?w_FAULT_WORDS ?v_LEADING ?y_LEADING ?w_LEADING
    (case a_is_name => k_is)
    (case l_is_name => k_is)
    (case c_is_name => k_is)
    (case k_is_name => k_is)
    (case a_is_path => k_is)
    (case l_is_path => k_is)
    (case c_is_path => k_is)
    (case k_is_path => k_is)
    (case a_is_whole => k_is)
    (case l_is_whole => k_is)
    (case c_is_whole => k_is)
    (case k_is_whole => k_is)
    (case a_is_word => k_is)
    (case l_is_word => k_is)
    (case c_is_word => k_is)
    (case k_is_word => k_is)
    (case a_are_words => k_is)
    (case l_are_words => k_is)
    (case c_are_words => k_is)
    (case k_are_words => k_is)
    (case a_is_bare => k_is)
    (case l_is_bare => k_is)
    (case c_is_bare => k_is)
    (case k_is_bare => k_is)
    (case a_is_row_within => k_is)
    (case l_is_row_within => k_is)
    (case c_is_row_within => k_is)
    (case k_is_row_within => k_is)
    (case a_are_rows => k_is)
    (case l_are_rows => k_is)
    (case c_are_rows => k_is)
    (case k_are_rows => k_is)
    (case a_counted => k_is)
    (case l_counted => k_is)
    (case c_counted => k_is)
    (case k_counted => k_is)
    (case a_is_body => k_is)
    (case l_is_body => k_is)
    (case c_is_body => k_is)
    (case k_is_body => k_is)
    (case a_lines_of => k_is)
    (case l_lines_of => k_is)
    (case c_lines_of => k_is)
    (case k_lines_of => k_is)
    (case a_body_text => k_is)
    (case l_body_text => k_is)
    (case c_body_text => k_is)
    (case k_body_text => k_is)
    (case a_number_in => k_is)
    (case l_number_in => k_is)
    (case c_number_in => k_is)
    (case k_number_in => k_is)
    (case a_row_in => k_is)
    (case l_row_in => k_is)
    (case c_row_in => k_is)
    (case k_row_in => k_is)
    (case a_rows_in => k_is)
    (case l_rows_in => k_is)
    (case c_rows_in => k_is)
    (case k_rows_in => k_is)
    (case a_read_body => k_is)
    (case l_read_body => k_is)
    (case c_read_body => k_is)
    (case k_read_body => k_is)
    (case a_l_at => k_is)
    (case l_l_at => k_is)
    (case c_l_at => k_is)
    (case k_l_at => k_is)
    (case a_l_pot => k_is)
    (case l_l_pot => k_is)
    (case c_l_pot => k_is)
    (case k_l_pot => k_is)
    (case a_l_draw => k_is)
    (case l_l_draw => k_is)
    (case c_l_draw => k_is)
    (case k_l_draw => k_is)
    (case a_l_name => k_is)
    (case l_l_name => k_is)
    (case c_l_name => k_is)
    (case k_l_name => k_is)
    (case a_l_path => k_is)
    (case l_l_path => k_is)
    (case c_l_path => k_is)
    (case k_l_path => k_is)
    (case a_l_number => k_is)
    (case l_l_number => k_is)
    (case c_l_number => k_is)
    (case k_l_number => k_is)
    (case a_l_fault_words => k_is)
    (case l_l_fault_words => k_is)
    (case c_l_fault_words => k_is)
    (case k_l_fault_words => k_is)
    (case a_l_row => k_is)
    (case l_l_row => k_is)
    (case c_l_row => k_is)
    (case k_l_row => k_is)
    (case a_l_rows => k_is)
    (case l_l_rows => k_is)
    (case c_l_rows => k_is)
    (case k_l_rows => k_is)
    (case a_l_lines => k_is)
    (case l_l_lines => k_is)
    (case c_l_lines => k_is)
    (case k_l_lines => k_is)
    (case a_l_right => k_is)
    (case l_l_right => k_is)
    (case c_l_right => k_is)
    (case k_l_right => k_is)
    (case a_law => k_is)
    (case l_law => k_is)
    (case c_law => k_is)
    (case k_law => k_is)
    (case z_len => k_is)
    (case z_isinstance => k_is)
    (case z_str => k_is)
    (case z_all => k_is)
    (case z_bool => k_is)
    (case z_int => k_is)
    (case z_tuple => k_is)
    (case z_set => k_is)
    (case z_list => k_is)
    (case z_max => k_is)
    (case z_divmod => k_is)
    (case z_range => k_is)
    (case z_repr => k_is)
    (case z_min => k_is)
    (case v_MOST_LETTERS => k_is)
    (case v_LETTERS => k_is)
    (case v_DOT => k_is)
    (case v_MOST_NAMES => k_is)
    (case v_MOST_ROWS => k_is)
    (case v_MOST_TRIES => k_is)
    (case v_FIGURES => k_is)
    (case v_FAULT_WORDS => k_is)
    (case y_FAULT_WORDS => k_is)
    (case w_FAULT_WORDS => exact ⟨rfl, rfl, by decide, (.cons ⟨_, rfl⟩ (.cons ⟨_, rfl⟩ (.cons ⟨_, rfl⟩ (.cons ⟨_, rfl⟩ (.cons ⟨_, rfl⟩ (.cons ⟨_, rfl⟩ .nil))))))⟩)
    (case v_LEADING => k_is)
    (case y_LEADING => k_is)
    (case w_LEADING => exact ⟨rfl, rfl, by decide, (.cons ⟨_, rfl⟩ (.cons ⟨_, rfl⟩ (.cons ⟨_, rfl⟩ (.cons ⟨_, rfl⟩ .nil))))⟩)

