import PyProof.Rows.All
import Wide.All
import OpenK.AllK
import Wide.FinOn
import PyProof.ReprNest
import HandS.ForMost
import HandS.IsInst
import HandS.Style
import HandS.Walk
import HandS.WideBits
import HandS.NoneIn
import HandS.RaiseMore
import KE.GoesZip
import KE.GoesMore
import KE.GoesEnum
import HandS.ForDict
import HandS.More
import HandS.ExcInit
import HandS.Conv
import HandS.WordsExc
import HandS.ExcField
import HandS.ExcOwn
import PyProof.InstEq
import PyProof.NeKinds
import HandS.Strs
import PyProof.RowDictHeap
import PyProof.ReprRoads
import HandS.TupAny
import PySem.Challenge.RW_halfmade_k31_whole_runs_in_order
set_option Elab.async false
set_option linter.all false
set_option maxRecDepth 100000
set_option maxHeartbeats 4000000
/-! HLa: promises of defs that are called where no repr is under way (guards known), and repr of plain data. -/
namespace HL
open PySem PySem.Spec PyProof.Rows L2

/-- a def that keeps its promise where no built-in of the guarded kind is under way -/
structure FnG (P : Program) (w : World) (K : PySem.W.Frag) (mg : Str → Option Value) (base : Heap)
    (k : Nat) (f : Addr) (fd : FuncData) (ps : List Str) (sp : Sp) : Prop where
  len : ∀ vs H Q E, sp vs H Q E → vs.length = ps.length
  run : ∀ (A : Around) (outer : List Env) (s : Shared) (H : Hp) (args : Args) (us : List Value) (vs : List V)
    (Q : VK) (E : XK), A.guards = some [] → Room k A → Env0 P w K mg base A outer s H →
    BindsTo s fd args (ps.zip us) → Vals vs us → sp vs H Q E →
    codeAny (model P w) A (.call (.ref f) args) (CR CX0 outer P w H s Q E) s

theorem FnG.ofOk {P : Program} {w : World} {K : PySem.W.Frag} {mg : Str → Option Value} {base : Heap}
    {k : Nat} {f : Addr} {fd : FuncData} {ps : List Str} {sp : Sp}
    (F : FnOk P w K mg base CX0 k f fd ps sp) : FnG P w K mg base k f fd ps sp :=
  ⟨F.len, fun A outer s H args us vs Q E _ => F.run A outer s H args us vs Q E⟩
theorem FnG.mono {P : Program} {w : World} {K : PySem.W.Frag} {mg : Str → Option Value} {base : Heap}
    {j k : Nat} {f : Addr} {fd : FuncData} {ps : List Str} {sp : Sp}
    (F : FnG P w K mg base j f fd ps sp) (h : j ≤ k) : FnG P w K mg base k f fd ps sp :=
  ⟨F.len, fun A outer s H args us vs Q E g hr => F.run A outer s H args us vs Q E g (hr.mono h)⟩

theorem guards_deeper {A : Around} (env : Env) (h : A.guards = some []) : (A.deeper env).guards = some [] := h

/-- what a body's end says of the call's end -/
theorem bodyEnd {X : Cx} {ps : List (Addr × Obj)} {outer : List Env} {P : Program} {w : World} {H H' : Hp} {s s' : Shared} {σ' : L2.St}
    {Q : VK} {v : V} {u : Value} (J : Inv X ps σ' H' s') (rv : RelV v u) (q : Q v H')
    (hX : Inv X ps σ' H' s' → s'.os = s.os ∧ AllBare s'.gens ∧ Un (frs outer) [] H H' s.heap s'.heap ∧ HOk P w H' s'.heap) :
    CE outer P w H s Q u s' :=
  ⟨v, H', (hX J).1, (hX J).2.1, (hX J).2.2.1, (hX J).2.2.2, rv, q⟩
/-- a def, by its body: as Fun.ok, with the guards handed on -/
theorem fnG_of {P : Program} {w : World} {K : PySem.W.Frag} {mg : Str → Option Value} {base : Heap}
    {x qual : Str} {st : Stmt} {f : Addr} {fd : FuncData} {N ps : List Str} {k : Nat} {sp : Sp}
    (F : Fun K x qual st f fd) (S : FnScope N ps (defScope st))
    (len : ∀ vs H Q E, sp vs H Q E → vs.length = ps.length)
    (hbody : ∀ (cdv : Value) (A : Around) (outer : List Env) (s : Shared) (H : Hp) (vs : List V) (Q : VK) (E : XK),
      (A.deeper (envOfC qual (defScope st) s.heap.objs.size f cdv)).guards = some [] →
      Room k (A.deeper (envOfC qual (defScope st) s.heap.objs.size f cdv)) → sp vs H Q E →
      ∃ t, PSs (cxOf CX0 P w K mg base N qual (defScope st) f cdv A outer s H E).nox (defBody st) t ∧
        t { nx := fun _ H' => Q .non H', rt := Q } (start N vs) H) :
    FnG P w K mg base (k + 1) f fd ps sp where
  len := len
  run := by
    intro A outer s H args us vs Q E known room ent bnd rel prm
    rcases F.ex with ⟨_, _, _, _, _, _, cdv, _, _, e, at_, code⟩
    subst e
    have old := ent.mod.kin.keeps fun b o z => (ent.bs b o z).1
    have free := ent.mod.nolimit.keeps fun b o z => (ent.bs b o z).1
    have fits : vs.length = ps.length := len _ _ _ _ prm
    have places : ∀ y ∈ ps.zip us, (defScope st).names.lookup y.1 = some .local ∨
        ((defScope st).names.lookup y.1 = some .cell ∧
          ((cellsFrom (s.heap.objs.size + 1) (defScope st).names []).lookup y.1).isSome = true) := by
      rintro ⟨n, v⟩ hy
      exact (S.par n (List.of_mem_zip hy).1).imp id fun c => ⟨c, PySem.W.cellsFrom_some _ _ _ (Or.inl c)⟩
    apply codeAny_call_function room.depth (old _ _ at_) rfl S.co S.gen rfl (PySem.W.codeRec_of old code)
    apply bnd
    apply wpAny_newFunctionEnv_cells S.kind places
    rintro env rfl s1 made
    refine ⟨free.keeps made.toInCall.keep, codeAny_func ?_⟩
    rcases hbody cdv A outer s H vs Q E (guards_deeper _ known) (room.deeper _) prm with ⟨t, ht, hq⟩
    have I : Inv (cxOf CX0 P w K mg base N qual (defScope st) f cdv A outer s H E) [] (start N vs) H s1 :=
      inv_start S room.hd ent fits rel made
    apply wpAny_mono (ht.nox.run [] s1 (start N vs) H _ I hq) _ fun _ _ z => z
    intro fl s' hs
    match fl, hs with
    | .ret u, ⟨v, σ', H', J, rv, q⟩ => exact bodyEnd J rv q fun J => ⟨J.os, J.bare, J.base, J.hok⟩
    | .next, ⟨σ', H', J, q⟩ => exact bodyEnd (v := V.non) J rfl q fun J => ⟨J.os, J.bare, J.base, J.hok⟩
    | .brk, ⟨_, _, _, q⟩ => exact q.elim
    | .cont, ⟨_, _, _, q⟩ => exact q.elim

/-- a call by name of such a def -/
theorem pe_callG {X : Cx} {k : Nat} {f : Addr} {fd : FuncData} {ps : List Str} {sp : Sp} {dvs : List V} {ds : List Value}
    {x : Str} {p pos : Pos} {e : Expr} {es : List Expr} {t : TA}
    (F : FnG X.prog X.w X.K X.mg X.base k f fd ps sp) (known : X.A.guards = some []) (room : Room k X.A)
    (hg : Gl X x) (hm : X.mg x = some (.ref f)) (hk : PySem.W.keepIn X.K (.ref f) = true)
    (hb : Binds X.K fd ps ds) (hd : Vals dvs ds) (ha : PA X (e :: es) t)
    (hdb : (x == ("__debug__" : Str)) = false := by decide)
    (he : starEach (e :: es) X.env = (false, eval e X.env) :: starEach es X.env := by rfl)
    (hpl : (backTo pos (starEach es X.env)).any (·.1) = false := by rfl) :
    PE X (.Call (.Name x p) (e :: es) [] pos) (tCall sp dvs E0 t) where
  run := by
    intro pins s σ H Q I h
    apply wpAny_Call_Name_kw (ld_glob I hg hm ?_ hdb)
    apply PySem.W.callWith_K (h₀ := X.base) I.ok.mod.kin hk ?_ he hpl
    refine thn (ha.run pos pins s σ H _ I h) ?_
    rintro us s1 ⟨vs, H1, J, r, q⟩
    have both : Vals (vs ++ dvs) (us ++ ds) := r.append hd
    have many : (us ++ ds).length = ps.length := both.length ▸ F.len _ _ _ _ q
    refine ⟨J.kIn, wpAny_call (codeAny_mono (F.run X.A X.stack s1 H1 ⟨us, []⟩ _ _ Q E0 known room J.env0 (hb s1 us J.kIn many) both q) ?_)⟩
    intro res s' hq
    match res, hq with
    | .error _, z => exact z.elim
    | .ok (.ret _), z => exact J.after z
    | .ok .next, z => exact z.elim
    | .ok .brk, z => exact z.elim
    | .ok .cont, z => exact z.elim

/-! ### repr of plain data -/
section
variable {X : Cx}
def rReprD (K : PySem.W.Frag) : List V → Hp → VK → Prop := fun xs H Q =>
  ∃ (x : V) (d : PyData), xs = [x] ∧ Dp K H x d ∧ isDisplay d = true ∧ d.showable = true ∧ d.hasDict = false ∧
    d.depth ≤ 60 ∧ d.shown.length ≤ sizeLine ∧ Q (.str d.shown) H
theorem call_reprD (hg : X.A.guards = some []) (hu : X.A.units + 64 < cLine) : CallR X (.builtin "repr") (rReprD X.K) := by
  intro pins s σ H xs us Q I r h
  obtain ⟨x, d, rfl, hd, h1, h2, h3, h4, h5, q⟩ := h
  cases r with
  | cons rx rn =>
    cases rn
    rename_i u
    obtain ⟨as, rd⟩ := Dp.reads I d x u hd rx
    obtain ⟨a, rfl⟩ := isRef_of_reads rd h1
    refine repr_of_reads' rd h2 (PyData.noDict_hsm h3) hg (by omega) (fun _ _ e => e) (fun h' u tk hk => ?_) h5
    exact ⟨.str d.shown, H, I.kept hk, ⟨u, rfl⟩, q⟩
end
end HL

/-! HLb: what stays (Kp), readings step by step. -/
namespace HL
open PySem PySem.Spec PyProof.Rows L2

def Nin (q : Addr) : List Addr → Prop
  | [] => True
  | x :: r => q ≠ x ∧ Nin q r
/-- all that was tracked stands, but what is in W -/
def Kp (W : List Addr) (H H' : Hp) : Prop := ∀ q o, Nin q W → H q = some o → H' q = some o
theorem Kp.refl {W : List Addr} {H : Hp} : Kp W H H := fun _ _ _ h => h
theorem Kp.get {W : List Addr} {H H' : Hp} {q : Addr} {o : HO} (k : Kp W H H') (n : Nin q W) (h : H q = some o) : H' q = some o := k q o n h
theorem Nin.of_mem {q x : Addr} : ∀ {W : List Addr}, Nin q W → x ∈ W → q ≠ x
  | [], _, h => nomatch h
  | y :: r, ⟨a, b⟩, h => by
    rcases List.mem_cons.mp h with rfl | h
    · exact a
    · exact Nin.of_mem b h
theorem Nin.intro {q : Addr} : ∀ {W : List Addr}, (∀ x ∈ W, q ≠ x) → Nin q W
  | [], _ => trivial
  | y :: r, h => ⟨h y List.mem_cons_self, Nin.intro fun x hx => h x (List.mem_cons_of_mem _ hx)⟩
theorem Kp.upd_mem {W : List Addr} {H H' : Hp} {a : Addr} {o : HO} (k : Kp W H H') (m : a ∈ W) : Kp W H (upd H' a o) := fun q u n h => by
  rw [upd_ne (n.of_mem m)]
  exact k q u n h
theorem Kp.upd_new {W : List Addr} {H H' : Hp} {a : Addr} {o : HO} (k : Kp W H H') (m : H' a = none) : Kp W H (upd H' a o) := fun q u n h => by
  have e := k q u n h
  rw [upd_ne (ne_of_none e m)]
  exact e
theorem Kp.upd_loc {W : List Addr} {H H' : Hp} {a : Addr} {o : HO} (k : Kp W H H') (m : H a = none) : Kp W H (upd H' a o) := fun q u n h => by
  rw [upd_ne (ne_of_none h m)]
  exact k q u n h
/-- a step that changes what is in W, or what was not there ahead -/
theorem Kp.step {W W' : List Addr} {H H1 H2 : Hp} (k : Kp W H H1) (l : Kp W' H1 H2) (m : ∀ x ∈ W', x ∈ W ∨ H x = none) : Kp W H H2 := fun q u n h =>
  l q u (Nin.intro fun x hx => (m x hx).elim (fun z => n.of_mem z) fun z => ne_of_none h z) (k q u n h)
theorem Kp.free {W : List Addr} {H H' : Hp} {a : Addr} (k : Kp W H H') (n : Nin a W) (h : H' a = none) : H a = none := by
  cases e : H a with
  | none => rfl
  | some o =>
    rw [k a o n e] at h
    cases h
theorem Kp.same {H H' : Hp} (k : Kp [] H H') : Same H H' := fun b o h => k b o trivial h
theorem Kp.of_same {W : List Addr} {H H' : Hp} (k : Same H H') : Kp W H H' := fun b o _ h => k b o h
theorem Kp.weak {W W' : List Addr} {H H' : Hp} (k : Kp W H H') (m : ∀ x ∈ W, x ∈ W') : Kp W' H H' := fun q o n h => k q o (Nin.intro fun x hx => n.of_mem (m x hx)) h

/-! ### steps of readings -/
section
variable {σ : L2.St} {H : Hp} {Q : VK} {ta tb te : TE} {tt tu : TT} {i : Nat} {v x y : V} {K : PySem.W.Frag} {D : Ends} {t u : TS}
theorem s_var (h : σ[i]? = some (some v)) (q : Q v H) : tVar i σ H Q := ⟨v, h, q⟩
theorem s_c (q : Q v H) : tC v σ H Q := q
theorem s_op {r : R2} (h : ta σ H fun x H1 => tb σ H1 fun y H2 => r x y H2 Q) : tOp r ta tb σ H Q := h
theorem s_un {r : V → Hp → VK → Prop} (h : ta σ H fun x H1 => r x H1 Q) : tUn r ta σ H Q := h
theorem s_nil {Q : List V → Hp → Prop} (q : Q [] H) : tNil σ H Q := q
theorem s_cons {tr : TA} {Q : List V → Hp → Prop} (h : ta σ H fun x H1 => tr σ H1 fun xs H2 => Q (x :: xs) H2) : tCons ta tr σ H Q := h
theorem s_cb {r : List V → Hp → VK → Prop} {tl : TA} (h : tl σ H fun vs H1 => r vs H1 Q) : tCB r tl σ H Q := h
theorem s_call {sp : Sp} {dvs : List V} {E : XK} {tl : TA} (h : tl σ H fun vs H1 => sp (vs ++ dvs) H1 Q E) : tCall sp dvs E tl σ H Q := h
theorem s_test {Q : Bool → Hp → Prop} (h : te σ H fun x H1 => ∃ k, x = .bl k ∧ Q k H1) : tTest te σ H Q := h
theorem s_B {Q : Bool → Hp → Prop} (h : te σ H fun x H1 => ∃ k, x = .bl k ∧ Q k H1) : tB te σ H Q := h
theorem s_bl {R : Bool → Prop} {k : Bool} (q : R k) : ∃ k', V.bl k = .bl k' ∧ R k' := ⟨k, rfl, q⟩
theorem s_and {Q : Bool → Hp → Prop} (h : tt σ H fun c H1 => if c = true then tu σ H1 Q else Q false H1) : tAnd tt tu σ H Q := h
theorem s_or {Q : Bool → Hp → Prop} (h : tt σ H fun c H1 => if c = true then Q true H1 else tu σ H1 Q) : tOr tt tu σ H Q := h
theorem s_not {Q : Bool → Hp → Prop} (h : tt σ H fun c H1 => Q (!c) H1) : tNot tt σ H Q := h
theorem s_andV (h : ta σ H fun x H1 => ∃ c, x = .bl c ∧ if c = true then tb σ H1 Q else Q (.bl false) H1) : tAndV ta tb σ H Q := h
theorem s_orV (h : ta σ H fun x H1 => ∃ c, x = .bl c ∧ if c = true then Q (.bl true) H1 else tb σ H1 Q) : tOrV ta tb σ H Q := h
theorem s_notV (h : ta σ H fun x H1 => ∃ c, x = .bl c ∧ Q (.bl (!c)) H1) : tNotV ta σ H Q := h
theorem s_ifE (h : tt σ H fun c H1 => if c = true then ta σ H1 Q else tb σ H1 Q) : tIf tt ta tb σ H Q := h
theorem s_chain {r r' : R2} {tc : TE} (h : ta σ H fun x H1 => tb σ H1 fun y H2 => r x y H2 fun z H3 => ∃ k, z = .bl k ∧ (if k = true then tc σ H3 fun w' H4 => r' y w' H4 Q else Q (.bl false) H3)) : tChain r r' ta tb tc σ H Q := h
theorem s_tup {tl : TA} (h : tl σ H fun xs H1 => xs.length ≤ sizeLine ∧ ∀ p, H1 p = none → Q (.ref p) (upd H1 p (.tup xs))) : tTup tl σ H Q := h
theorem s_lst {tl : TA} (h : tl σ H fun xs H1 => xs.length ≤ sizeLine ∧ ∀ p, H1 p = none → Q (.ref p) (upd H1 p (.lst xs))) : tLst tl σ H Q := h
theorem s_sl {r : V → Option Int → Option Int → Hp → VK → Prop} {tl th : TO} (h : te σ H fun x H1 => tl σ H1 fun l H2 => th σ H2 fun u H3 => r x l u H3 Q) : tSl r te tl th σ H Q := h
theorem s_noPart {Q : Option Int → Hp → Prop} (q : Q none H) : tNoPart σ H Q := q
theorem s_part {Q : Option Int → Hp → Prop} (h : te σ H fun x H1 => ∃ i, x = .int i ∧ Q (some i) H1) : tPart te σ H Q := h
theorem s_int {R : Int → Prop} {k : Int} (q : R k) : ∃ i, V.int k = .int i ∧ R i := ⟨k, rfl, q⟩
theorem s_ints2 {R : Int → Int → Prop} {a b : Int} (q : R a b) : ∃ i j, [V.int a, V.int b] = [V.int i, V.int j] ∧ R i j := ⟨a, b, rfl, q⟩
theorem s_ints1 {R : Int → Prop} {a : Int} (q : R a) : ∃ i, [V.int a] = [V.int i] ∧ R i := ⟨a, rfl, q⟩
theorem s_strs1 {R : Str → Prop} {a : Str} (q : R a) : ∃ i, [V.str a] = [V.str i] ∧ R i := ⟨a, rfl, q⟩
theorem s_vals2 {R : V → V → Prop} {a b : V} (q : R a b) : ∃ i j, [a, b] = [i, j] ∧ R i j := ⟨a, b, rfl, q⟩
theorem s_vals3 {R : V → V → V → Prop} {a b c : V} (q : R a b c) : ∃ i j k, [a, b, c] = [i, j, k] ∧ R i j k := ⟨a, b, c, rfl, q⟩
theorem s_fld {f : Str} (h : ta σ H fun x H1 => ∃ a C dx fs v, x = .ref a ∧ H1 a = some (.ins C dx fs) ∧ Cls K C ∧ NoAttr K C f ∧ fs.lookup f = some v ∧ Q v H1) : tFld K ta f σ H Q := h
theorem s_bm {T : String} {r : V → List V → Hp → VK → Prop} {tl : TA} (h : ta σ H fun x H1 => tyV K T x H1 ∧ tl σ H1 fun xs H2 => r x xs H2 Q) : tBM K T r ta tl σ H Q := h
theorem s_bm0 {T : String} {r : V → List V → Hp → VK → Prop} (h : ta σ H fun x H1 => tyV K T x H1 ∧ r x [] H1 Q) : tBM0 K T r ta σ H Q := h
theorem s_m1 {r : V → List V → Hp → VK → Prop} (h : ta σ H fun x H1 => (∃ a, x = .str a) ∧ te σ H1 fun y H2 => r x [y] H2 Q) : tM1 r ta te σ H Q := h
theorem s_m0 {r : V → List V → Hp → VK → Prop} (h : ta σ H fun x H1 => (∃ a, x = .str a) ∧ r x [] H1 Q) : tM0 r ta σ H Q := h
theorem s_ex {a : Str} {P : Prop} (h : P) : (∃ b, V.str a = .str b) ∧ P := ⟨⟨a, rfl⟩, h⟩
/-! statements -/
theorem s_seq (h : t { D with nx := u D } σ H) : tSeq t u D σ H := h
theorem s_next (h : D.nx σ H) : tNext D σ H := h
theorem s_asg {g : TG} (h : te σ H fun x H1 => g x σ H1 D.nx) : tAsg te g D σ H := h
theorem s_gname {Q : L2.St → Hp → Prop} (q : Q (σ.set i (some v)) H) : gName i v σ H Q := q
theorem s_drop (h : te σ H fun _ H1 => D.nx σ H1) : tDrop te D σ H := h
theorem s_ret (h : te σ H D.rt) : tRet te D σ H := h
theorem s_retN (h : D.rt .non H) : tRetN D σ H := h
theorem s_ifS (h : tt σ H fun b H1 => if b = true then t D σ H1 else u D σ H1) : tIfS tt t u D σ H := h
theorem s_gsub {to ti : TE} {ts : TSet} {Q : L2.St → Hp → Prop} (h : to σ H fun o H1 => ti σ H1 fun i H2 => ts o i v H2 fun H3 => Q σ H3) : gSub to ti ts v σ H Q := h
theorem s_gtup {n : Nat} {g : TGs} {a : Addr} {xs : List V} {Q : L2.St → Hp → Prop} (h : SqT K H a xs) (l : xs.length = n) (q : g xs σ H Q) : gTup K n g (.ref a) σ H Q := ⟨a, xs, rfl, h, l, q⟩
theorem s_gcons {g : TG} {u : TGs} {r : List V} {Q : L2.St → Hp → Prop} (q : g v σ H fun σ' H' => u r σ' H' Q) : gCons g u (v :: r) σ H Q := ⟨v, r, rfl, q⟩
theorem s_gnil {Q : L2.St → Hp → Prop} (q : Q σ H) : gNil [] σ H Q := ⟨rfl, q⟩
theorem s_par3 {i j l : Nat} {tl : TA} (h : tl σ H fun vs H1 => ∃ u v w, vs = [u, v, w] ∧ D.nx (((σ.set i (some u)).set j (some v)).set l (some w)) H1) : tPar3 i j l tl D σ H := h
theorem s_par {i j : Nat} {tl : TA} (h : tl σ H fun vs H1 => ∃ v w, vs = [v, w] ∧ D.nx ((σ.set i (some v)).set j (some w)) H1) : tPar i j tl D σ H := h
/-! operators -/
theorem s_I0 {g : Int → Int → V} {a b : Int} (q : Q (g a b) H) : rI0 g (.int a) (.int b) H Q := ⟨a, b, rfl, rfl, q⟩
theorem s_I {C : Int → Int → Prop} {g : Int → Int → V} {a b : Int} (c : C a b) (q : Q (g a b) H) : rI C g (.int a) (.int b) H Q := ⟨a, b, rfl, rfl, c, q⟩
theorem s_eq (h : scal x y = true) (q : Q (.bl (decide (x = y))) H) : rEq x y H Q := ⟨h, q⟩
theorem s_ne (h : scal x y = true) (q : Q (.bl (!decide (x = y))) H) : rNe x y H Q := ⟨h, q⟩
theorem s_ixL {p : Addr} {xs : List V} {k : Int} (h : SqL K H p xs) (a : atI xs k = some v) (q : Q v H) : rIxL K (.ref p) (.int k) H Q := ⟨p, xs, k, v, rfl, rfl, h, a, q⟩
theorem s_ixT {p : Addr} {xs : List V} {k : Int} (h : SqT K H p xs) (a : atI xs k = some v) (q : Q v H) : rIxT K (.ref p) (.int k) H Q := ⟨p, xs, k, v, rfl, rfl, h, a, q⟩
theorem s_setL {p : Addr} {xs : List V} {k : Int} {j : Nat} {Q : Hp → Prop} (h : H p = some (.lst xs)) (a : ixN xs.length k = some j) (q : Q (upd H p (.lst (xs.set j v)))) : rSetL (.ref p) (.int k) v H Q := ⟨p, xs, k, j, rfl, rfl, h, a, q⟩
theorem s_append {p : Addr} {xs : List V} (h : H p = some (.lst xs)) (l : xs.length < sizeLine) (q : Q .non (upd H p (.lst (xs ++ [v])))) : rAppend (.ref p) [v] H Q := ⟨p, xs, v, rfl, rfl, h, l, q⟩
/-! what a test decides -/
theorem s_dec {c A B : Prop} [Decidable c] (h1 : c → A) (h2 : ¬ c → B) : if decide c = true then A else B := by
  by_cases h : c
  · rw [if_pos (decide_eq_true h)]; exact h1 h
  · rw [if_neg (by simpa using h)]; exact h2 h
theorem s_ndec {c A B : Prop} [Decidable c] (h1 : ¬ c → A) (h2 : c → B) : if (!decide c) = true then A else B := by
  by_cases h : c
  · rw [if_neg (by simpa using h)]; exact h2 h
  · rw [if_pos (by simpa using h)]; exact h1 h
theorem s_bool {c : Bool} {A B : Prop} (h1 : c = true → A) (h2 : c = false → B) : if c = true then A else B := by
  cases c with
  | true => rw [if_pos rfl]; exact h1 rfl
  | false => rw [if_neg Bool.false_ne_true]; exact h2 rfl
end
theorem st_start {t : TS} {D : Ends} {σ σ' : L2.St} {H : Hp} (e : σ = σ') (h : t D σ' H) : t D σ H := e ▸ h
theorem sq_l {K : PySem.W.Frag} {H : Hp} {a : Addr} {xs : List V} (h : H a = some (.lst xs)) : SqL K H a xs := .inl (.inl h)
theorem sq_t {K : PySem.W.Frag} {H : Hp} {a : Addr} {xs : List V} (h : H a = some (.tup xs)) : SqT K H a xs := .inl (.inl h)
theorem Kp.seqL {W : List Addr} {K : PySem.W.Frag} {H H' : Hp} {a : Addr} {xs : List V} (k : Kp W H H') (n : Nin a W) (h : SqL K H a xs) : SqL K H' a xs := by
  rcases h with (h | ⟨o, h⟩) | h
  · exact .inl (.inl (k _ _ n h))
  · exact .inl (.inr ⟨o, k _ _ n h⟩)
  · exact .inr h
end HL

/-! HLc: comprehensions by what they have made, isinstance, facts of the text's defs. -/
namespace HL
open PySem PySem.Spec PyProof.Rows L2

/-- a def of the text, called by its name: its promise -/
def DnF (P : Program) (w : World) (K : PySem.W.Frag) (mg : Str → Option Value) (base : Heap) (k : Nat) (x : Str) (ps : List Str) (sp : Sp) : Prop :=
  ∃ (f : Addr) (fd : FuncData), FnOk P w K mg base CX0 k f fd ps sp ∧ mg x = some (.ref f) ∧ PySem.W.keepIn K (.ref f) = true ∧ Binds K fd ps []
def DnG (P : Program) (w : World) (K : PySem.W.Frag) (mg : Str → Option Value) (base : Heap) (k : Nat) (x : Str) (ps : List Str) (sp : Sp) : Prop :=
  ∃ (f : Addr) (fd : FuncData), FnG P w K mg base k f fd ps sp ∧ mg x = some (.ref f) ∧ PySem.W.keepIn K (.ref f) = true ∧ Binds K fd ps []

/-! ### comprehensions: acc i is what is made behind i turns; W what the parts may change, R what is known of that -/
structure LcOk (D : Addr) (n : Nat) (acc : Nat → List V) (W : List Addr) (H1 : Hp) (R : Nat → Hp → Prop) : Prop where
  sz : n ≤ sizeLine
  a0 : acc 0 = []
  al : ∀ i, i ≤ n → (acc i).length ≤ i
  nD : H1 D = none
  nW : Nin D W
  st : ∀ i H o, R i H → R i (upd H D o)
def LcInv (D : Addr) (acc : Nat → List V) (W : List Addr) (H1 : Hp) (R : Nat → Hp → Prop) (i : Nat) (H : Hp) : Prop := H D = some (.lst (acc i)) ∧ Kp W H1 H ∧ R i H
section
variable {J : It} {n : Nat} {G : Hp → Prop} {Y : Nat → Hp → V → Hp → Prop} {D : Addr} {acc : Nat → List V} {W : List Addr} {H1 H H4 : Hp} {R : Nat → Hp → Prop} {i : Nat} {y : V}
theorem LcInv.put (I : LcInv D acc W H1 R i H) (L : LcOk D n acc W H1 R) (hi : i < n) (e : acc (i + 1) = acc i ++ [y]) (k : Kp W H H4) (r : R (i + 1) H4) :
    ∃ a, H4 D = some (.lst a) ∧ a.length < sizeLine ∧ LcInv D acc W H1 R (i + 1) (upd H4 D (.lst (a ++ [y]))) := by
  obtain ⟨p1, p2, p3⟩ := I
  refine ⟨acc i, k.get L.nW p1, ?_, by rw [upd_same, e], ?_, L.st _ _ _ r⟩
  · have h1 := L.al i (Nat.le_of_lt hi)
    have h2 := L.sz
    omega
  · exact (p2.step k (fun x hx => .inl hx)).upd_loc L.nD
theorem LcInv.skip (I : LcInv D acc W H1 R i H) (L : LcOk D n acc W H1 R) (e : acc (i + 1) = acc i) (k : Kp W H H4) (r : R (i + 1) H4) : LcInv D acc W H1 R (i + 1) H4 :=
  ⟨by rw [e]; exact k.get L.nW I.1, I.2.1.step k (fun x hx => .inl hx), r⟩
theorem lc_go (w : Walk J n G Y) (L : LcOk D n acc W H1 R) {g : TG} {tt : TT} {te : TE} {vs : List Nat} {σ : L2.St} {Qd : Hp → Prop} (r0 : R 0 H1) (hG : ∀ H, Kp W H1 H → G H)
    (hs : ∀ i x H H', i < n → LcInv D acc W H1 R i H → Y i H x H' → g x (wipe σ vs) H' fun σ2 H2 => wipe σ2 vs = wipe σ vs ∧ tt σ2 H2 fun b H3 =>
      if b = true then te σ2 H3 fun y H4 => ∃ a, H4 D = some (.lst a) ∧ a.length < sizeLine ∧ LcInv D acc W H1 R (i + 1) (upd H4 D (.lst (a ++ [y]))) else LcInv D acc W H1 R (i + 1) H3)
    (hd : ∀ H, LcInv D acc W H1 R n H → Qd H) :
    ∃ W : Nat → Nat → Hp → Prop, (∃ m, W 0 m (upd H1 D (.lst []))) ∧ ∀ i m H, W i m H →
      (J.stop i H ∧ Qd H) ∨ (J.go i H ∧ ∃ Nx : Hp → Prop, (∀ H', Nx H' → ∃ m', m' < m ∧ W (i + 1) m' H') ∧ ∀ x H', J.yld i H x H' → g x (wipe σ vs) H' fun σ2 H2 => wipe σ2 vs = wipe σ vs ∧ tt σ2 H2 fun b H3 =>
        if b = true then te σ2 H3 fun y H4 => ∃ acc, H4 D = some (.lst acc) ∧ acc.length < sizeLine ∧ Nx (upd H4 D (.lst (acc ++ [y]))) else Nx H3) :=
  lc_it w (LcInv D acc W H1 R) ⟨by rw [upd_same, L.a0], Kp.refl.upd_new L.nD, L.st _ _ _ r0⟩ (fun i H _ p => hG H p.2.1) hs hd
end
theorem LcOk.ofTake {D : Addr} {n : Nat} {ys : List V} {W : List Addr} {H1 : Hp} {R : Nat → Hp → Prop} (sz : n ≤ sizeLine) (nD : H1 D = none) (nW : Nin D W) (st : ∀ i H o, R i H → R i (upd H D o)) : LcOk D n (fun i => ys.take i) W H1 R :=
  ⟨sz, List.take_zero, fun i _ => by rw [List.length_take]; omega, nD, nW, st⟩
theorem take_put {α : Type} {l : List α} {i : Nat} {x : α} (h : l[i]? = some x) : l.take (i + 1) = l.take i ++ [x] := by
  rw [List.take_add_one, h]
  rfl
/-! ### comprehensions whose values are not told ahead: PL i xs of what is made behind i turns -/
structure LcOkP (D : Addr) (n : Nat) (PL : Nat → List V → Prop) (W : List Addr) (H1 : Hp) (R : Nat → Hp → Prop) : Prop where
  sz : n ≤ sizeLine
  a0 : PL 0 []
  nD : H1 D = none
  nW : Nin D W
  st : ∀ i H o, R i H → R i (upd H D o)
def LcInvP (D : Addr) (PL : Nat → List V → Prop) (W : List Addr) (H1 : Hp) (R : Nat → Hp → Prop) (i : Nat) (H : Hp) : Prop :=
  (∃ xs, H D = some (.lst xs) ∧ PL i xs ∧ xs.length ≤ i) ∧ Kp W H1 H ∧ R i H
section
variable {J : It} {n : Nat} {G : Hp → Prop} {Y : Nat → Hp → V → Hp → Prop} {D : Addr} {PL : Nat → List V → Prop} {W : List Addr} {H1 H H4 : Hp} {R : Nat → Hp → Prop} {i : Nat} {y : V}
theorem LcInvP.put (I : LcInvP D PL W H1 R i H) (L : LcOkP D n PL W H1 R) (hi : i < n) (e : ∀ xs, PL i xs → PL (i + 1) (xs ++ [y])) (k : Kp W H H4) (r : R (i + 1) H4) :
    ∃ a, H4 D = some (.lst a) ∧ a.length < sizeLine ∧ LcInvP D PL W H1 R (i + 1) (upd H4 D (.lst (a ++ [y]))) := by
  obtain ⟨⟨xs, p0, p1, pl⟩, p2, p3⟩ := I
  have h2 := L.sz
  refine ⟨xs, k.get L.nW p0, by omega, ⟨xs ++ [y], upd_same, e xs p1, by simp; exact pl⟩, ?_, L.st _ _ _ r⟩
  exact (p2.step k (fun x hx => .inl hx)).upd_loc L.nD
theorem lc_goP (w : Walk J n G Y) (L : LcOkP D n PL W H1 R) {g : TG} {tt : TT} {te : TE} {vs : List Nat} {σ : L2.St} {Qd : Hp → Prop} (r0 : R 0 H1) (hG : ∀ H, Kp W H1 H → G H)
    (hs : ∀ i x H H', i < n → LcInvP D PL W H1 R i H → Y i H x H' → g x (wipe σ vs) H' fun σ2 H2 => wipe σ2 vs = wipe σ vs ∧ tt σ2 H2 fun b H3 =>
      if b = true then te σ2 H3 fun y H4 => ∃ a, H4 D = some (.lst a) ∧ a.length < sizeLine ∧ LcInvP D PL W H1 R (i + 1) (upd H4 D (.lst (a ++ [y]))) else LcInvP D PL W H1 R (i + 1) H3)
    (hd : ∀ H, LcInvP D PL W H1 R n H → Qd H) :
    ∃ W : Nat → Nat → Hp → Prop, (∃ m, W 0 m (upd H1 D (.lst []))) ∧ ∀ i m H, W i m H →
      (J.stop i H ∧ Qd H) ∨ (J.go i H ∧ ∃ Nx : Hp → Prop, (∀ H', Nx H' → ∃ m', m' < m ∧ W (i + 1) m' H') ∧ ∀ x H', J.yld i H x H' → g x (wipe σ vs) H' fun σ2 H2 => wipe σ2 vs = wipe σ vs ∧ tt σ2 H2 fun b H3 =>
        if b = true then te σ2 H3 fun y H4 => ∃ acc, H4 D = some (.lst acc) ∧ acc.length < sizeLine ∧ Nx (upd H4 D (.lst (acc ++ [y]))) else Nx H3) :=
  lc_it w (LcInvP D PL W H1 R) ⟨⟨[], upd_same, L.a0, Nat.le_refl _⟩, Kp.refl.upd_new L.nD, L.st _ _ _ r0⟩ (fun i H _ p => hG H p.2.1) hs hd
end
/-! ### small steps more -/
section
variable {σ : L2.St} {H : Hp} {Q : VK} {K : PySem.W.Frag} {A B : Prop}
theorem s_lc {wi : TI} {g : TG} {tt : TT} {te : TE} {vs : List Nat} (h : wi σ H fun J H1 => ∀ D, H1 D = none → ∃ W : Nat → Nat → Hp → Prop, (∃ m, W 0 m (upd H1 D (.lst []))) ∧ ∀ i m H, W i m H →
  (J.stop i H ∧ Q (.ref D) H) ∨ (J.go i H ∧ ∃ Nx : Hp → Prop, (∀ H', Nx H' → ∃ m', m' < m ∧ W (i + 1) m' H') ∧ ∀ x H', J.yld i H x H' → g x (wipe σ vs) H' fun σ2 H2 => wipe σ2 vs = wipe σ vs ∧ tt σ2 H2 fun b H3 =>
    if b = true then te σ2 H3 fun y H4 => ∃ acc, H4 D = some (.lst acc) ∧ acc.length < sizeLine ∧ Nx (upd H4 D (.lst (acc ++ [y]))) else Nx H3)) : tLc wi g tt te vs σ H Q := h
theorem s_iStr {te : TE} {R : It → Hp → Prop} (h : te σ H fun v H1 => ∃ x, v = .str x ∧ R (Its x) H1) : iStr te σ H R := h
theorem s_iList {te : TE} {R : It → Hp → Prop} (h : te σ H fun x H1 => ∃ a, x = .ref a ∧ (∃ xs, SqL K H1 a xs) ∧ R (Itl K a) H1) : iList K te σ H R := h
theorem s_iTup {te : TE} {R : It → Hp → Prop} (h : te σ H fun x H1 => ∃ a, x = .ref a ∧ (∃ xs, SqT K H1 a xs) ∧ R (Itt K a) H1) : iTup K te σ H R := h
theorem s_iRng1 {ta : TA} {R : It → Hp → Prop} (h : ta σ H fun vs H1 => ∃ j : Int, vs = [.int j] ∧ -(2 ^ 62) ≤ j ∧ j < 2 ^ 62 ∧ R (Itr 0 j.toNat) H1) : iRng1 ta σ H R := h
theorem s_str {R : Str → Prop} {a : Str} (q : R a) : ∃ x, V.str a = .str x ∧ R x := ⟨a, rfl, q⟩
theorem s_ref {R : Addr → Prop} {a : Addr} (q : R a) : ∃ x, V.ref a = .ref x ∧ R x := ⟨a, rfl, q⟩
theorem s_yes {R : Bool → Hp → Prop} (q : R true H) : tYes σ H R := q
theorem s_for {wi : TI} {g : TG} {tb : TS} {E : Ends} (h : wi σ H fun J H1 => ∃ W : Nat → Nat → L2.St → Hp → Prop, (∃ m, W 0 m σ H1) ∧ ∀ i m σ H, W i m σ H →
      (J.stop i H ∧ E.nx σ H) ∨ (J.go i H ∧ ∃ N : L2.St → Hp → Prop, (∀ σ' H', N σ' H' → ∃ m', m' < m ∧ W (i + 1) m' σ' H') ∧ ∀ x H', J.yld i H x H' → g x σ H' fun σ2 H2 => tb { E with nx := N, ct := N, bk := E.nx } σ2 H2)) : tFor wi g tb E σ H := h
theorem i_T (h : A) : if true = true then A else B := by rw [if_pos rfl]; exact h
theorem i_F (h : B) : if false = true then A else B := by rw [if_neg Bool.false_ne_true]; exact h
theorem i_nT (h : B) : if (!true) = true then A else B := by rw [if_neg (by decide)]; exact h
theorem i_nF (h : A) : if (!false) = true then A else B := by rw [if_pos (by decide)]; exact h
theorem isi_ty {x : V} {t T : String} {b : Bool} (ht : TyX K H x (.type t)) (hk : kitB t T = some b) (q : Q (.bl b) H) : rIsi K [x, .ty T] H Q := ⟨x, .ty T, .type t, .type T, b, rfl, .ty T, ht, kit_ty hk, q⟩
theorem s_lenS {z : Str} (l : z.length ≤ sizeLine) (q : Q (.int z.length) H) : (fun (xs : List V) (H : Hp) (Q : VK) => ∃ z, xs = [.str z] ∧ z.length ≤ sizeLine ∧ Q (.int z.length) H) [.str z] H Q := ⟨z, rfl, l, q⟩
end
end HL

/-! HLm: words between dots, in plain Lean. -/
namespace HL
open PySem PySem.Spec PyProof.Rows L2 TL
def mkS (l : List Nat) : Str := ⟨l.toArray⟩
theorem tl_mkS (l : List Nat) : tl (mkS l) = l := rfl
theorem mkS_tl (z : Str) : mkS (tl z) = z := mk_tl z
theorem mkS_inj {a b : List Nat} (h : mkS a = mkS b) : a = b := by
  have := congrArg tl h
  exact this
theorem mkS_len (l : List Nat) : (mkS l).length = l.length := by rw [len_tl, tl_mkS]
theorem mkS_app (a b : List Nat) : mkS a ++ mkS b = mkS (a ++ b) := ext_tl (by rw [tl_append, tl_mkS, tl_mkS, tl_mkS])
/-- the words between dots; acc what the first one has already -/
def wds : List Nat → List Nat → List (List Nat)
  | acc, [] => [acc]
  | acc, c :: r => if c = 46 then acc :: wds [] r else wds (acc ++ [c]) r
theorem wds_spl : ∀ (l acc : List Nat), spl [46] 0 acc l = wds acc l
  | [], acc => by rw [spl_nil]; rfl
  | c :: r, acc => by
    by_cases h : c = 46
    · subst h
      rw [spl_hit (by simp [pre])]
      show acc :: spl [46] 0 [] r = _
      rw [wds_spl r]
      simp [wds]
    · rw [spl_miss (pre_of_head _ _ h), wds_spl r]
      simp [wds, h]
theorem map_mkS_tl (ys : List Str) : (ys.map tl).map mkS = ys := by
  rw [List.map_map]
  conv => rhs; rw [← List.map_id ys]
  exact List.map_congr_left fun a _ => mkS_tl a
/-- z.split('.') -/
theorem split_dot (z : Str) : Txt.split z "." = (wds [] (tl z)).map mkS := by
  have h := split_spl z "." (by decide +kernel) (kind_ok (by decide +kernel))
  rw [show tl "." = [46] from by decide +kernel, wds_spl] at h
  rw [← h, map_mkS_tl]
theorem wds_ne : ∀ (l acc : List Nat), wds acc l ≠ []
  | [], acc => by simp [wds]
  | c :: r, acc => by
    unfold wds
    split
    · simp
    · exact wds_ne r _
theorem wds_mem : ∀ (l acc p : List Nat), p ∈ wds acc l → p.length ≤ acc.length + l.length
  | [], acc, p, h => by simp [wds] at h; subst h; simp
  | c :: r, acc, p, h => by
    unfold wds at h
    split at h
    · rcases List.mem_cons.mp h with rfl | h
      · simp
      · have := wds_mem r [] p h
        simp at this ⊢
        omega
    · have := wds_mem r _ p h
      simp at this ⊢
      omega
theorem wds_length : ∀ (l acc : List Nat), (wds acc l).length ≤ l.length + 1
  | [], acc => by simp [wds]
  | c :: r, acc => by
    unfold wds
    split
    · have := wds_length r []
      simp
      omega
    · have := wds_length r (acc ++ [c])
      simp
      omega
theorem wds_sum : ∀ (l acc : List Nat), ((wds acc l).map List.length).sum ≤ acc.length + l.length
  | [], acc => by simp [wds]
  | c :: r, acc => by
    unfold wds
    split
    · have := wds_sum r []
      simp at this ⊢
      omega
    · have := wds_sum r (acc ++ [c])
      simp at this ⊢
      omega
/-- one sign more -/
def wst (s : List (List Nat) × List Nat) (c : Nat) : List (List Nat) × List Nat := if c = 46 then (s.1 ++ [s.2], []) else (s.1, s.2 ++ [c])
theorem wst_run : ∀ (l : List Nat) (p : List (List Nat)) (acc : List Nat), (l.foldl wst (p, acc)).1 ++ [(l.foldl wst (p, acc)).2] = p ++ wds acc l
  | [], p, acc => rfl
  | c :: r, p, acc => by
    rw [List.foldl_cons]
    by_cases h : c = 46
    · rw [show wst (p, acc) c = (p ++ [acc], []) by unfold wst; rw [if_pos h]]
      rw [wst_run r, List.append_assoc]
      simp [wds, h]
    · rw [show wst (p, acc) c = (p, acc ++ [c]) by unfold wst; rw [if_neg h]]
      rw [wst_run r]
      simp [wds, h]
theorem joinL_dot : ∀ {ps : List (List Nat)}, ps ≠ [] → (∀ p ∈ ps, 46 ∉ p) → wds [] (joinL [46] ps) = ps := fun hne h => by
  rw [← wds_spl]
  exact spl_join hne h
theorem wds_free : ∀ (l acc : List Nat), 46 ∉ acc → ∀ p ∈ wds acc l, 46 ∉ p
  | [], acc, h, p, hp => by simp [wds] at hp; subst hp; exact h
  | c :: r, acc, h, p, hp => by
    unfold wds at hp
    split at hp
    · rcases List.mem_cons.mp hp with rfl | hp
      · exact h
      · exact wds_free r [] (by simp) p hp
    · rename_i hc
      exact wds_free r _ (by simp [h]; exact fun e => hc e.symm) p hp
theorem sum_take_le (f : List Nat → Nat) : ∀ (l : List (List Nat)) (k : Nat), ((l.take k).map f).sum ≤ (l.map f).sum
  | [], k => by simp
  | a :: r, 0 => by simp
  | a :: r, k + 1 => by
    have := sum_take_le f r k
    rw [List.take_succ_cons, List.map_cons, List.sum_cons, List.map_cons, List.sum_cons]
    omega
theorem joinS (ps : List (List Nat)) : Txt.join "." (ps.map mkS) = mkS (joinL [46] ps) := ext_tl (by
  rw [join_eq, tl_join, List.map_map, show tl "." = [46] from by decide +kernel, tl_mkS]
  congr 1
  conv => rhs; rw [← List.map_id ps]
  exact List.map_congr_left fun a _ => tl_mkS a)
theorem eqvAll_strs : ∀ xs ys : List Str, PyData.eqvAll (xs.map PyData.str) (ys.map PyData.str) = decide (xs = ys)
  | [], [] => by simp [PyData.eqvAll]
  | [], _ :: _ => by simp [PyData.eqvAll]
  | _ :: _, [] => by simp [PyData.eqvAll]
  | x :: xs, y :: ys => by
    have ih := eqvAll_strs xs ys
    simp only [List.map_cons, PyData.eqvAll, ih, PyData.eqv]
    by_cases h : x = y
    · subst h; simp
    · simp [h]
theorem dpAll_strs {K : PySem.W.Frag} {H : Hp} : ∀ xs : List Str, DpAll K H (xs.map V.str) (xs.map PyData.str)
  | [] => .nil
  | x :: xs => .cons (.str x) (dpAll_strs xs)
theorem joinL_len (S : List Nat) : ∀ ps : List (List Nat), (joinL S ps).length ≤ (ps.map List.length).sum + ps.length * S.length
  | [] => by simp [joinL]
  | [p] => by simp [joinL]
  | p :: q :: r => by
    have ih := joinL_len S (q :: r)
    have e : joinL S (p :: q :: r) = p ++ S ++ joinL S (q :: r) := by simp [joinL]
    rw [e, List.length_append, List.length_append, List.map_cons, List.sum_cons, List.length_cons, Nat.add_mul]
    omega
theorem join_len (y : Str) (ps : List Str) : (Txt.join y ps).length ≤ (ps.map (·.length)).sum + ps.length * y.length := by
  have h := joinL_len (tl y) (ps.map tl)
  rw [len_tl, join_eq, tl_join]
  rw [List.length_map, List.map_map, ← len_tl] at h
  have e : (List.map (List.length ∘ tl) ps) = ps.map (·.length) := List.map_congr_left fun a _ => (len_tl a).symm
  rw [e] at h
  exact h
theorem sum_le_of {l : List Str} {m : Nat} (h : ∀ y ∈ l, y.length ≤ m) : (l.map (·.length)).sum ≤ l.length * m := by
  induction l with
  | nil => simp
  | cons a r ih =>
    have h1 := h a List.mem_cons_self
    have h2 := ih fun y hy => h y (List.mem_cons_of_mem _ hy)
    rw [List.map_cons, List.sum_cons, List.length_cons, Nat.add_mul]
    omega
/-- codes that a text may have -/
def OkL (l : List Nat) : Prop := ∀ c ∈ l, c < 1114112
theorem OkL.app {a b : List Nat} (h : OkL a) (g : OkL b) : OkL (a ++ b) := fun c hc => (List.mem_append.mp hc).elim (h c) (g c)
theorem OkL.str {l : List Nat} (h : OkL l) : PyData.strOk (mkS l) = true := by
  unfold PyData.strOk mkS
  simp only [List.all_toArray, List.all_eq_true]
  intro c hc
  simpa using h c hc
theorem OkL.strT {z : Str} (h : OkL (tl z)) : PyData.strOk z = true := by
  have := OkL.str h
  rw [mkS_tl] at this
  exact this
theorem atI_mem {α : Type} {xs : List α} {i : Int} {v : α} (h : atI xs i = some v) : v ∈ xs := by
  unfold atI at h
  cases e : ixN xs.length i with
  | none => rw [e] at h; cases h
  | some j => rw [e] at h; exact List.mem_of_getElem? h
theorem joinL_mem {S : List Nat} {c : Nat} : ∀ ps : List (List Nat), c ∈ joinL S ps → c ∈ S ∨ ∃ p ∈ ps, c ∈ p
  | [], h => by simp [joinL] at h
  | [p], h => .inr ⟨p, by simp, by simpa [joinL] using h⟩
  | p :: q :: r, h => by
    have e : joinL S (p :: q :: r) = p ++ (S ++ joinL S (q :: r)) := rfl
    rw [e] at h
    rcases List.mem_append.mp h with h | h
    · exact .inr ⟨p, by simp, h⟩
    rcases List.mem_append.mp h with h | h
    · exact .inl h
    rcases joinL_mem (q :: r) h with h | ⟨y, hy, hc⟩
    · exact .inl h
    · exact .inr ⟨y, List.mem_cons_of_mem _ hy, hc⟩
theorem OkL.join {s : Str} {ys : List Str} (h : OkL (tl s)) (g : ∀ y ∈ ys, OkL (tl y)) : OkL (tl (Txt.join s ys)) := fun c hc => by
  rw [join_eq, tl_join] at hc
  rcases joinL_mem _ hc with e | ⟨p, hp, e⟩
  · exact h c e
  · obtain ⟨y, hy, rfl⟩ := List.mem_map.mp hp
    exact g y hy c e
theorem wds_sub : ∀ (l acc p : List Nat), p ∈ wds acc l → ∀ c ∈ p, c ∈ acc ∨ c ∈ l
  | [], acc, p, h, c, hc => by simp [wds] at h; subst h; exact .inl hc
  | a :: r, acc, p, h, c, hc => by
    unfold wds at h
    split at h
    · rcases List.mem_cons.mp h with rfl | h
      · exact .inl hc
      · rcases wds_sub r [] p h c hc with e | e
        · cases e
        · exact .inr (List.mem_cons_of_mem _ e)
    · rcases wds_sub r _ p h c hc with e | e
      · rcases List.mem_append.mp e with e | e
        · exact .inl e
        · rw [List.mem_singleton.mp e]
          exact .inr List.mem_cons_self
      · exact .inr (List.mem_cons_of_mem _ e)
theorem OkL.wds {l : List Nat} (h : OkL l) : ∀ p ∈ wds [] l, OkL p := fun p hp c hc => by
  rcases wds_sub l [] p hp c hc with e | e
  · cases e
  · exact h c e
theorem OkL.cut {z : Str} (h : OkL (tl z)) (lo hi : Option Int) : OkL (tl (cutS z lo hi)) := fun c hc => by
  apply h
  have hc2 : c ∈ List.take (HT.sIx z.length z.length hi - HT.sIx z.length 0 lo) (List.drop (HT.sIx z.length 0 lo) z.cps.toList) := hc
  exact List.mem_of_mem_drop (List.mem_of_mem_take hc2)
theorem shaped_strs {xs : List Str} (h : ∀ x ∈ xs, PyData.strOk x = true) : SeqAt.shaped (.list (xs.map PyData.str)) = true := by
  have e : ∀ ys : List Str, (∀ x ∈ ys, PyData.strOk x = true) → PyData.canLayAll0 (ys.map PyData.str) = true ∧ PyData.depthAll (ys.map PyData.str) = 0 := by
    intro ys
    induction ys with
    | nil => intro _; simp [PyData.canLayAll0, PyData.depthAll]
    | cons a r ih =>
      intro g
      obtain ⟨h1, h2⟩ := ih fun x hx => g x (List.mem_cons_of_mem _ hx)
      simp [PyData.canLayAll0, PyData.depthAll, PyData.canLay0, PyData.depth, h1, h2, g a List.mem_cons_self]
  obtain ⟨h1, h2⟩ := e xs h
  unfold SeqAt.shaped
  simp [PyData.canLay0, PyData.depth, h1, h2]
/-- what a name is -/
def lets : List Nat := tl "abcdefghijklmnopqrstuvwxyz"
def isNameL (l : List Nat) : Bool := decide (1 ≤ l.length) && decide (l.length ≤ 8) && l.all fun c => decide (c ∈ lets)
def isPathL (l : List Nat) : Bool := decide ((wds [] l).length ≤ 4) && (wds [] l).all isNameL
theorem joinL_cons (S p : List Nat) {ps : List (List Nat)} (h : ps ≠ []) : joinL S (p :: ps) = p ++ (S ++ joinL S ps) := by
  cases ps with
  | nil => exact absurd rfl h
  | cons a r => rfl
theorem joinL_wds : ∀ (l acc : List Nat), joinL [46] (wds acc l) = acc ++ l
  | [], acc => by simp [wds, joinL]
  | c :: r, acc => by
    unfold wds
    split
    · rename_i h
      rw [joinL_cons _ _ (wds_ne _ _), joinL_wds r []]
      simp [h]
    · rw [joinL_wds r _]
      simp
theorem wds_one : ∀ (l acc : List Nat), (wds acc l).length = 1 → wds acc l = [acc ++ l]
  | [], acc, _ => by simp [wds]
  | c :: r, acc, h => by
    unfold wds at h ⊢
    split at h
    · have := List.length_pos_iff.mpr (wds_ne r [])
      simp at h
      exact absurd h (wds_ne r [])
    · rename_i hc
      rw [if_neg hc, wds_one r _ h]
      simp
theorem wds_nodot : ∀ (l acc : List Nat), 46 ∉ l → wds acc l = [acc ++ l]
  | [], acc, _ => by simp [wds]
  | c :: r, acc, h => by
    have hc : c ≠ 46 := fun e => h (by simp [e])
    unfold wds
    rw [if_neg hc, wds_nodot r _ fun q => h (List.mem_cons_of_mem _ q)]
    simp
theorem name_nodot {l : List Nat} (h : isNameL l = true) : 46 ∉ l := fun hm => by
  unfold isNameL at h
  simp only [Bool.and_eq_true, List.all_eq_true, decide_eq_true_eq] at h
  have := h.2 46 hm
  revert this
  decide +kernel
theorem name_words (l : List Nat) : isNameL l = (decide ((wds [] l).length = 1) && (wds [] l).all isNameL) := by
  by_cases h1 : (wds [] l).length = 1
  · rw [wds_one l [] h1]
    simp
  · rw [decide_eq_false h1, Bool.false_and]
    cases h : isNameL l with
    | false => rfl
    | true => exact absurd (by rw [wds_nodot l [] (name_nodot h)]; rfl) h1
end HL

/-! HLk: the rules with the written part K named, for use within a comprehension's block too. -/
namespace HL
open PySem PySem.Spec PyProof.Rows L2 TL
def rLen (K : PySem.W.Frag) : List V → Hp → VK → Prop := fun vs H Q =>
  ∃ p ys, vs = [.ref p] ∧ (SqL K H p ys ∨ SqT K H p ys) ∧ Q (.int ys.length) H
def rLenS : List V → Hp → VK → Prop := fun vs H Q =>
  ∃ z : Str, vs = [.str z] ∧ z.length ≤ sizeLine ∧ Q (.int z.length) H
def rListOf (K : PySem.W.Frag) : List V → Hp → VK → Prop := fun vs H Q =>
  ∃ p ys, vs = [.ref p] ∧ (SqL K H p ys ∨ SqT K H p ys) ∧ ∀ l, H l = none → Q (.ref l) (upd H l (.lst ys))
def rTupleOf (K : PySem.W.Frag) : List V → Hp → VK → Prop := fun vs H Q =>
  ∃ p ys, vs = [.ref p] ∧ ((SqL K H p ys ∧ ∀ l, H l = none → Q (.ref l) (upd H l (.tup ys))) ∨ (SqT K H p ys ∧ Q (.ref p) H))
def rJoin (K : PySem.W.Frag) : V → List V → Hp → VK → Prop := fun x vs H Q =>
  ∃ a p, ∃ ys : List Str, x = .str a ∧ vs = [.ref p] ∧ (SqL K H p (ys.map V.str) ∨ SqT K H p (ys.map V.str)) ∧
    (ys.map (·.length)).sum + ys.length * a.length ≤ 16777216 ∧ Q (.str (Txt.join a ys)) H
def rSplit : V → List V → Hp → VK → Prop := fun x vs H Q =>
  ∃ a b, x = .str a ∧ vs = [.str b] ∧ (b.length == 0) = false ∧ a.length + 2 ≤ sizeLine ∧ rNewStrs (Txt.split a b) H Q
def rAddS : R2 := fun x y H Q => ∃ i j, x = .str i ∧ y = .str j ∧ i.length + j.length ≤ sizeLine ∧ Q (.str (i ++ j)) H
def rInSg : R2 := fun x y H Q => ∃ (c : Nat) (z : Str), x = .str ⟨#[c]⟩ ∧ y = .str z ∧ Q (.bl (decide (c ∈ z.cps.toList))) H
def rDivmod : List V → Hp → VK → Prop := fun vs H Q => ∃ i j, vs = [.int i, .int j] ∧ CDiv i j ∧ ∀ p, H p = none → Q (.ref p) (upd H p (.tup [.int (i / j), .int (i % j)]))
section
variable {X : Cx} {K : PySem.W.Frag} {e tg : Expr} {to : TE} {tl : TA} {T : String} {r : V → List V → Hp → VK → Prop}
theorem addS : OpR X (binaryOp .Add) rAddS := op_add_str
theorem inSg : OpR X (compareOp .In) rInSg := op_in_sign
theorem divmodR : CallR X (.builtin "divmod") rDivmod := call_divmod
theorem ixLK (h : X.K = K) : IxR X (rIxL K) := h ▸ ix_list
theorem ixTK (h : X.K = K) : IxR X (rIxT K) := h ▸ ix_tup
theorem slLK (h : X.K = K) : SlR X (rSlL K) := h ▸ sl_list
theorem slTK (h : X.K = K) : SlR X (rSlT K) := h ▸ sl_tup
theorem inK (h : X.K = K) : OpR X (compareOp .In) (rIn K false) := h ▸ op_in_seq
theorem ninK (h : X.K = K) : OpR X (compareOp .NotIn) (rIn K true) := h ▸ op_notIn_seq
theorem eqDK (h : X.K = K) (hu : X.A.units + 64 < cLine) : OpR X (compareOp .Eq) (rEqD K) := h ▸ op_eqD hu
theorem neDK (h : X.K = K) (hu : X.A.units + 64 < cLine) : OpR X (compareOp .NotEq) (rNeD K) := h ▸ op_neD hu
theorem lenK (h : X.K = K) : CallR X (.builtin "len") (rLen K) := h ▸ call_len_seq
theorem lenS : CallR X (.builtin "len") rLenS := call_len_str
theorem listK (h : X.K = K) : CallR X (.type "list") (rListOf K) := h ▸ call_list_of
theorem tupleK (h : X.K = K) : CallR X (.type "tuple") (rTupleOf K) := h ▸ call_tuple_of
theorem joinK (h : X.K = K) : MtR X "str.join" (rJoin K) := h ▸ mt_join
theorem splitR : MtR X "str.split" rSplit := mt_split
theorem isiK (h : X.K = K) : CallR X (.builtin "isinstance") (rIsi K) := h ▸ call_isi
theorem allK (h : X.K = K) (hc : X.calm = true) : CallR X (.builtin "all") (rAll K) := h ▸ cr_all hc
theorem anyK (h : X.K = K) (hc : X.calm = true) : CallR X (.builtin "any") (rAny K) := h ▸ cr_any hc
theorem reprK (h : X.K = K) (hg : X.A.guards = some []) (hu : X.A.units + 64 < cLine) : CallR X (.builtin "repr") (rReprD K) := h ▸ call_reprD hg hu
theorem kBM (h : X.K = K) (p : PE X e (tBM X.K T r to tl)) : PE X e (tBM K T r to tl) := h ▸ p
theorem kBM0 (h : X.K = K) (p : PE X e (tBM0 X.K T r to)) : PE X e (tBM0 K T r to) := h ▸ p
theorem kFld {f : Str} (h : X.K = K) (p : PE X e (tFld X.K to f)) : PE X e (tFld K to f) := h ▸ p
theorem kiL (h : X.K = K) (p : PI X tg e (iList X.K to)) : PI X tg e (iList K to) := h ▸ p
theorem kiT (h : X.K = K) (p : PI X tg e (iTup X.K to)) : PI X tg e (iTup K to) := h ▸ p
theorem kiE (h : X.K = K) (p : PI X tg e (iEnum X.K tl)) : PI X tg e (iEnum K tl) := h ▸ p
theorem kgT {n : Nat} {g : TGs} (h : X.K = K) (p : PG X e (gTup X.K n g)) : PG X e (gTup K n g) := h ▸ p
end
/-- a statement, what follows behind it: stopped at by the steps, to be cut by an invariant -/
def tCut (t u : TS) : TS := tSeq t u
theorem pss_cut2 {X : Cx} {st : Stmt} {rest : List Stmt} {t u : TS} (h1 : PS X st t) (h2 : PSs X rest u) : PSs X (st :: rest) (tCut t u) := pss_cons h1 h2
theorem s_cut {t u : TS} {D : Ends} {σ : L2.St} {H : Hp} (Iv : L2.St → Hp → Prop) (h1 : ∀ J : L2.St → Hp → Prop, (∀ σ H, Iv σ H → J σ H) → t { D with nx := J } σ H) (h2 : ∀ σ H, Iv σ H → u D σ H) : tCut t u D σ H := h1 (u D) h2
/-- a for over a walk: Pv by the turn, the slots, the heap -/
theorem for_go {J : It} {n : Nat} {G : Hp → Prop} {Y : Nat → Hp → V → Hp → Prop} (w : Walk J n G Y) {g : TG} {tb : TS} {nx : L2.St → Hp → Prop} {rt : VK} {σ : L2.St} {H : Hp}
    (Pv : Nat → L2.St → Hp → Prop) (h0 : Pv 0 σ H) (hG : ∀ i σ H, i ≤ n → Pv i σ H → G H)
    (hs : ∀ i x σ H H', i < n → Pv i σ H → Y i H x H' → g x σ H' fun σ2 H2 => tb { nx := Pv (i + 1), rt := rt, bk := nx, ct := Pv (i + 1) } σ2 H2) (hd : ∀ σ H, Pv n σ H → nx σ H) :
    ∃ W : Nat → Nat → L2.St → Hp → Prop, (∃ m, W 0 m σ H) ∧ ∀ i m σ H, W i m σ H → (J.stop i H ∧ nx σ H) ∨
      (J.go i H ∧ ∃ N : L2.St → Hp → Prop, (∀ σ' H', N σ' H' → ∃ m', m' < m ∧ W (i + 1) m' σ' H') ∧
        ∀ x H', J.yld i H x H' → g x σ H' fun σ2 H2 => tb { nx := N, rt := rt, bk := nx, ct := N } σ2 H2) :=
  for_it w (D := { nx := nx, rt := rt }) Pv h0 hG hs hd
/-! ### steps of these -/
section
variable {σ : L2.St} {H : Hp} {Q : VK} {K : PySem.W.Frag} {p : Addr} {ys : List V}
theorem s_lenL (h : SqL K H p ys) (q : Q (.int ys.length) H) : rLen K [.ref p] H Q := ⟨p, ys, rfl, .inl h, q⟩
theorem s_lenT (h : SqT K H p ys) (q : Q (.int ys.length) H) : rLen K [.ref p] H Q := ⟨p, ys, rfl, .inr h, q⟩
theorem s_lenStr {z : Str} (h : z.length ≤ sizeLine) (q : Q (.int z.length) H) : rLenS [.str z] H Q := ⟨z, rfl, h, q⟩
theorem s_listL (h : SqL K H p ys) (q : ∀ l, H l = none → Q (.ref l) (upd H l (.lst ys))) : rListOf K [.ref p] H Q := ⟨p, ys, rfl, .inl h, q⟩
theorem s_tupL (h : SqL K H p ys) (q : ∀ l, H l = none → Q (.ref l) (upd H l (.tup ys))) : rTupleOf K [.ref p] H Q := ⟨p, ys, rfl, .inl ⟨h, q⟩⟩
theorem s_joinL {a : Str} {zs : List Str} (h : SqL K H p (zs.map V.str)) (l : (zs.map (·.length)).sum + zs.length * a.length ≤ 16777216) (q : Q (.str (Txt.join a zs)) H) : rJoin K (.str a) [.ref p] H Q := ⟨a, p, zs, rfl, rfl, .inl h, l, q⟩
theorem s_splitS {a b : Str} (h1 : (b.length == 0) = false) (h2 : a.length + 2 ≤ sizeLine) (q : ∀ p, H p = none → Q (.ref p) (upd H p (.lst ((Txt.split a b).map V.str)))) : rSplit (.str a) [.str b] H Q := ⟨a, b, rfl, rfl, h1, h2, q⟩
theorem s_slL {lo hi : Option Int} (h : SqL K H p ys) (q : ∀ l, H l = none → Q (.ref l) (upd H l (.lst (cutV ys lo hi)))) : rSlL K (.ref p) lo hi H Q := ⟨p, ys, rfl, h, q⟩
theorem s_slS {z : Str} {lo hi : Option Int} (h : z.length ≤ sizeLine) (q : Q (.str (cutS z lo hi)) H) : rSlS (.str z) lo hi H Q := ⟨z, rfl, h, q⟩
theorem s_ixS {z : Str} {k : Int} {c : Nat} (h : z.length ≤ sizeLine) (a : atI z.cps.toList k = some c) (q : Q (.str ⟨#[c]⟩) H) : rIxS (.str z) (.int k) H Q := ⟨z, k, c, rfl, rfl, h, a, q⟩
theorem s_addS {a b : Str} (l : a.length + b.length ≤ sizeLine) (q : Q (.str (a ++ b)) H) : rAddS (.str a) (.str b) H Q := ⟨a, b, rfl, rfl, l, q⟩
theorem s_inSg {c : Nat} {z : Str} (q : Q (.bl (decide (c ∈ z.cps.toList))) H) : rInSg (.str ⟨#[c]⟩) (.str z) H Q := ⟨c, z, rfl, rfl, q⟩
theorem s_divmod {a b : Int} (c : CDiv a b) (q : ∀ p, H p = none → Q (.ref p) (upd H p (.tup [.int (a / b), .int (a % b)]))) : rDivmod [.int a, .int b] H Q := ⟨a, b, rfl, c, q⟩
theorem s_U {g : Int → V} {i : Int} (q : Q (g i) H) : rU g (.int i) H Q := ⟨i, rfl, q⟩
theorem s_nn {P : Prop} (q : P) : V.non = V.non ∧ P := ⟨rfl, q⟩
theorem s_tyL {P : Prop} (h : H p = some (.lst ys)) (q : P) : tyV K "list" (.ref p) H ∧ P := ⟨.inl ⟨rfl, _, sq_l h⟩, q⟩
theorem s_all {bs : List Bool} (h : SqL K H p (bs.map V.bl)) (q : Q (.bl (bs.all id)) H) : rAll K [.ref p] H Q := ⟨p, bs, rfl, h, q⟩
theorem s_any {bs : List Bool} (h : SqL K H p (bs.map V.bl)) (q : Q (.bl (bs.any id)) H) : rAny K [.ref p] H Q := ⟨p, bs, rfl, h, q⟩
theorem s_eqD {x y : V} {d e : PyData} (hd : Dp K H x d) (he : Dp K H y e) (sd : SeqAt.shaped d = true) (se : SeqAt.shaped e = true) (q : Q (.bl (PyData.eqv d e)) H) : rEqD K x y H Q := ⟨d, e, hd, he, sd, se, q⟩
theorem s_neD {x y : V} {d e : PyData} (hd : Dp K H x d) (he : Dp K H y e) (sd : SeqAt.shaped d = true) (se : SeqAt.shaped e = true) (q : Q (.bl (!PyData.eqv d e)) H) : rNeD K x y H Q := ⟨d, e, hd, he, sd, se, q⟩
end
end HL

/-! HLd: plain data (Dp) kept, its kinds. -/
namespace HL
open PySem PySem.Spec PyProof.Rows L2 TL
theorem Kp.seqT {W : List Addr} {K : PySem.W.Frag} {H H' : Hp} {a : Addr} {xs : List V} (k : Kp W H H') (n : Nin a W) (h : SqT K H a xs) : SqT K H' a xs := by
  rcases h with (h | ⟨o, h⟩) | h
  · exact .inl (.inl (k _ _ n h))
  · exact .inl (.inr ⟨o, k _ _ n h⟩)
  · exact .inr h
mutual
theorem Dp.same {K : PySem.W.Frag} {H H' : Hp} (k : Kp [] H H') : ∀ (d : PyData) (v : V), Dp K H v d → Dp K H' v d
  | .none, _, h => by cases h; exact .non
  | .bool b, _, h => by cases h; exact .bl b
  | .int i, _, h => by cases h; exact .int i
  | .str x, _, h => by cases h; exact .str x
  | .list ds, _, h => by
    cases h with
    | lst hs ha => exact .lst (k.seqL trivial hs) (Dp.sameAll k ds _ ha)
  | .tuple ds, _, h => by
    cases h with
    | tup hs ha => exact .tup (k.seqT trivial hs) (Dp.sameAll k ds _ ha)
  | .dict _, _, h => by cases h
theorem Dp.sameAll {K : PySem.W.Frag} {H H' : Hp} (k : Kp [] H H') : ∀ (ds : List PyData) (vs : List V), DpAll K H vs ds → DpAll K H' vs ds
  | [], _, h => by cases h; exact .nil
  | d :: ds, _, h => by
    cases h with
    | cons h1 h2 => exact .cons (Dp.same k d _ h1) (Dp.sameAll k ds _ h2)
end
/-- the tuples stay -/
def TupK (H H' : Hp) : Prop := ∀ a xs, Rd H a (.tup xs) → Rd H' a (.tup xs)
mutual
/-- data of tuples alone -/
def flatD : PyData → Bool
  | .none | .bool _ | .int _ | .str _ => true
  | .tuple xs => flatAll xs
  | .list _ | .dict _ => false
def flatAll : List PyData → Bool
  | [] => true
  | x :: xs => flatD x && flatAll xs
end
mutual
theorem Dp.tups {K : PySem.W.Frag} {H H' : Hp} (k : TupK H H') : ∀ (d : PyData) (v : V), flatD d = true → Dp K H v d → Dp K H' v d
  | .none, _, _, h => by cases h; exact .non
  | .bool b, _, _, h => by cases h; exact .bl b
  | .int i, _, _, h => by cases h; exact .int i
  | .str x, _, _, h => by cases h; exact .str x
  | .list ds, _, f, h => by simp [flatD] at f
  | .tuple ds, _, f, h => by
    cases h with
    | tup hs ha =>
      refine .tup ?_ (Dp.tupsAll k ds _ (by simpa [flatD] using f) ha)
      rcases hs with hs | hs
      · exact .inl (k _ _ hs)
      · exact .inr hs
  | .dict _, _, _, h => by cases h
theorem Dp.tupsAll {K : PySem.W.Frag} {H H' : Hp} (k : TupK H H') : ∀ (ds : List PyData) (vs : List V), flatAll ds = true → DpAll K H vs ds → DpAll K H' vs ds
  | [], _, _, h => by cases h; exact .nil
  | d :: ds, _, f, h => by
    simp only [flatAll, Bool.and_eq_true] at f
    cases h with
    | cons h1 h2 => exact .cons (Dp.tups k d _ f.1 h1) (Dp.tupsAll k ds _ f.2 h2)
end
/-- what holds no tuple -/
def NoTup (H : Hp) (a : Addr) : Prop := ∀ xs, ¬ Rd H a (.tup xs)
theorem TupK.of {W : List Addr} {H H' : Hp} (k : Kp W H H') (n : ∀ x ∈ W, NoTup H x) : TupK H H' := fun a xs h => by
  have na : Nin a W := Nin.intro fun x hx e => n x hx xs (e ▸ h)
  rcases h with h | ⟨o, h⟩
  · exact .inl (k _ _ na h)
  · exact .inr ⟨o, k _ _ na h⟩
theorem NoTup.lst {H : Hp} {a : Addr} {xs : List V} (h : H a = some (.lst xs)) : NoTup H a := fun ys r => by
  rcases r with r | ⟨o, r⟩
  · rw [h] at r
    cases r
  · rw [h] at r
    cases r
theorem TupK.trans {A B C : Hp} (h : TupK A B) (g : TupK B C) : TupK A C := fun a xs r => g a xs (h a xs r)
/-- the built-in type of plain data -/
def tyD : PyData → String
  | .none => "NoneType"
  | .bool _ => "bool"
  | .int _ => "int"
  | .str _ => "str"
  | .list _ => "list"
  | .tuple _ => "tuple"
  | .dict _ => "dict"
theorem Dp.ty {K : PySem.W.Frag} {H : Hp} : ∀ {d : PyData} {v : V}, Dp K H v d → TyX K H v (.type (tyD d))
  | _, _, .non => .base .non
  | _, _, .bl b => .base (.bl b)
  | _, _, .int i => .base (.int i)
  | _, _, .str x => .base (.str x)
  | _, _, .lst hs _ => by
    rcases hs with (h | ⟨o, h⟩) | ⟨o, its, n, h, hc, _⟩
    · exact .base (.lst h)
    · exact .base (.frz h)
    · exact .kList h hc
  | _, _, .tup hs _ => by
    rcases hs with (h | ⟨o, h⟩) | ⟨o, its, n, h, hc, _⟩
    · exact .base (.tup h)
    · exact .fTuple h
    · exact .kTuple h hc
end HL

/-! HLe: more rules with K named: len(set(t)), wide divmod, xs[::-1], str, int, unpacking a list. -/
namespace HL
open PySem PySem.Spec PyProof.Rows L2
def rDivmodP : List V → Hp → VK → Prop := fun vs H Q => ∃ i j, vs = [.int i, .int j] ∧ CDivP i j ∧ ∀ p, H p = none → Q (.ref p) (upd H p (.tup [.int (i / j), .int (i % j)]))
def rStrOf : List V → Hp → VK → Prop := fun vs H Q => (∃ a, vs = [.str a] ∧ Q (.str a) H) ∨ ∃ i : Int, vs = [.int i] ∧ i.natAbs.log2 < 1920 ∧ Q (.str (toString i)) H
def rIntOf : List V → Hp → VK → Prop := fun vs H Q => ∃ a n, vs = [.str a] ∧ intText? a = some n ∧ a.length ≤ 640 ∧ Q (.int n) H
def rStarts : V → List V → Hp → VK → Prop := fun x vs H Q => ∃ a b, x = .str a ∧ vs = [.str b] ∧ Q (.bl (Txt.startswith a b)) H
section
variable {X : Cx} {K : PySem.W.Frag} {e : Expr} {te : TE}
theorem divmodPR : CallR X (.builtin "divmod") rDivmodP := call_divmodW
theorem strOfR : CallR X (.type "str") rStrOf := fun pins s σ H xs us Q I r h => h.elim
  (fun z => SkE.call_str_str pins s σ H xs us Q I r z) (fun z => call_str_int pins s σ H xs us Q I r z)
theorem intOfR : CallR X (.type "int") rIntOf := call_int_str
theorem startsR : MtR X "str.startswith" rStarts := mt_startswith
theorem revK {k : Nat} {p1 p2 p3 pos : Pos} (hK : X.K = K) (he : PE X e te) : PE X (.Subscript e (.Slice none none (some (.UnaryOp .USub (.Constant (.int 1) k p1) p2)) p3) pos) (tRevL K te) := hK ▸ pe_revL he
theorem kgU {n : Nat} {g : TGs} {tg : Expr} (h : X.K = K) (p : PG X tg (gUnl X.K n g)) : PG X tg (gUnl K n g) := h ▸ p
end
section
variable {σ : L2.St} {H : Hp} {Q : VK} {K : PySem.W.Frag} {a : Addr} {xs : List V}
theorem s_divP {i j : Int} (j0 : 0 < j) (jm : j ≤ 2000000000000000000000000000000000000000000000000000000000000) (q : ∀ p, H p = none → Q (.ref p) (upd H p (.tup [.int (i / j), .int (i % j)]))) : rDivmodP [.int i, .int j] H Q := by
  refine ⟨i, j, rfl, ⟨j0, PyProof.noPylong_of_log2 ?_⟩, q⟩
  have h : j.natAbs ≤ 2000000000000000000000000000000000000000000000000000000000000 := by omega
  exact (Nat.log2_lt (by omega)).mpr (Nat.lt_of_le_of_lt h (by decide +kernel))
theorem s_revL {te : TE} (h : te σ H fun x H1 => ∃ a xs, x = .ref a ∧ SqL K H1 a xs ∧ ∀ p, H1 p = none → Q (.ref p) (upd H1 p (.lst xs.reverse))) : tRevL K te σ H Q := h
theorem s_gunl {n : Nat} {g : TGs} {R : L2.St → Hp → Prop} (h : SqL K H a xs) (l : xs.length = n) (q : g xs σ H R) : gUnl K n g (.ref a) σ H R := ⟨a, xs, rfl, h, l, q⟩
theorem s_slT {lo hi : Option Int} (h : SqT K H a xs) (n : ¬ (HT.sIx xs.length 0 lo = 0 ∧ HT.sIx xs.length xs.length hi = xs.length)) (q : ∀ l, H l = none → Q (.ref l) (upd H l (.tup (cutV xs lo hi)))) : rSlT K (.ref a) lo hi H Q := ⟨a, xs, rfl, h, n, q⟩
end
/-! ### xs == [], xs != [] -/
def rNil (K : PySem.W.Frag) (f : Bool → Bool) : R2 := fun x y H Q => ∃ a b xs, x = .ref a ∧ y = .ref b ∧ SqL K H a xs ∧ SqL K H b [] ∧ Q (.bl (f xs.isEmpty)) H
section
variable {X : Cx} {K : PySem.W.Frag}
theorem nil_sizes {K : PySem.W.Frag} {X : Cx} (hK : X.K = K) {pins : List (Addr × Obj)} {σ : L2.St} {H : Hp} {s : Shared} (I : Inv X pins σ H s) {a b : Addr} {xs : List V} (ha : SqL K H a xs) (hb : SqL K H b []) :
    ∃ us ws : Array Value, s.heap.IsList a us ∧ s.heap.IsList b ws ∧ us.size = xs.length ∧ ws.size = 0 := by
  subst hK
  obtain ⟨us, r1, p1, _⟩ := I.list ha
  obtain ⟨ws, r2, p2, _⟩ := I.list hb
  exact ⟨us.toArray, ws.toArray, p1.isList, p2.isList, by rw [List.size_toArray, ← r1.length], by rw [List.size_toArray, ← r2.length]; rfl⟩
theorem eqNilK (hK : X.K = K) (hu : X.A.units + 64 < cLine) : OpR X (compareOp .Eq) (rNil K fun b => b) := by
  intro pins s σ H x y v u Q I rx ry h
  obtain ⟨a, b, xs, rfl, rfl, ha, hb, q⟩ := h
  cases rx
  cases ry
  obtain ⟨us, ws, p1, p2, n1, n2⟩ := nil_sizes hK I ha hb
  have room : X.A.units < cLine := by omega
  show wpAny (model X.prog X.w) X.A (richCompare .Eq (.ref a) (.ref b)) (EP X pins σ Q) X.xe s
  cases xs with
  | nil =>
    have z := SeqAt.RcAt.lists (e := fun _ => true) p1 p2 (n1.trans n2.symm) room (fun j h1 _ => absurd h1 (by rw [n1]; exact Nat.not_lt_zero j))
    rw [n1] at z
    exact z _ _ _ _ ⟨.bl true, H, I, rfl, q⟩
  | cons c r =>
    exact SeqAt.RcAt.lists_lengths p1 p2 (by rw [n1, n2]; rfl) room _ _ _ _ ⟨.bl false, H, I, rfl, q⟩
theorem neNilK (hK : X.K = K) (hu : X.A.units + 64 < cLine) : OpR X (compareOp .NotEq) (rNil K fun b => !b) := by
  intro pins s σ H x y v u Q I rx ry h
  obtain ⟨a, b, xs, rfl, rfl, ha, hb, q⟩ := h
  cases rx
  cases ry
  obtain ⟨us, ws, p1, p2, n1, n2⟩ := nil_sizes hK I ha hb
  have room : X.A.units < cLine := by omega
  show wpAny (model X.prog X.w) X.A (richCompare .NotEq (.ref a) (.ref b)) (EP X pins σ Q) X.xe s
  cases xs with
  | nil =>
    have z := SeqAt.RcNeAt.lists (e := fun _ => true) p1 p2 (n1.trans n2.symm) room (fun j h1 _ => absurd h1 (by rw [n1]; exact Nat.not_lt_zero j))
    rw [n1] at z
    exact z _ _ _ _ ⟨.bl false, H, I, rfl, q⟩
  | cons c r =>
    exact SeqAt.RcNeAt.lists_lengths p1 p2 (by rw [n1, n2]; rfl) room _ _ _ _ ⟨.bl true, H, I, rfl, q⟩
theorem s_nil0 {f : Bool → Bool} {H : Hp} {Q : VK} {a b : Addr} {xs : List V} (ha : SqL K H a xs) (hb : SqL K H b []) (q : Q (.bl (f xs.isEmpty)) H) : rNil K f (.ref a) (.ref b) H Q := ⟨a, b, xs, rfl, rfl, ha, hb, q⟩
end
end HL

/-! HLn: plain facts: drawn items, names and paths made of letters. -/
namespace HL
open PySem PySem.Spec PyProof.Rows L2 TL
theorem pick {xs : List V} {v : Int} (h0 : 0 ≤ v) (h1 : v < (xs.length : Int)) : ∃ y, atI xs v = some y ∧ y ∈ xs := by
  obtain ⟨n, rfl⟩ := Int.eq_ofNat_of_zero_le h0
  have hn : n < xs.length := by omega
  exact ⟨_, atI_nat (List.getElem?_eq_getElem hn), List.getElem_mem hn⟩
/-- a text of one sign -/
abbrev sg (c : Nat) : Str := ⟨#[c]⟩
theorem pickS {z : Str} {v : Int} (h0 : 0 ≤ v) (h1 : v < ((tl z).length : Int)) : ∃ c, atI z.cps.toList v = some c ∧ c ∈ tl z := by
  obtain ⟨n, rfl⟩ := Int.eq_ofNat_of_zero_le h0
  have hn : n < (tl z).length := by omega
  exact ⟨_, atI_nat (List.getElem?_eq_getElem hn), List.getElem_mem hn⟩
theorem joinL_empty : ∀ cs : List Nat, joinL [] (cs.map fun c => [c]) = cs
  | [] => rfl
  | [c] => rfl
  | c :: d :: r => by
    have ih := joinL_empty (d :: r)
    show joinL [] ([c] :: (d :: r).map fun c => [c]) = c :: d :: r
    rw [joinL_cons [] [c] (by simp), ih]
    rfl
/-- ''.join of signs -/
theorem join_sg (cs : List Nat) : Txt.join "" (cs.map sg) = mkS cs := ext_tl (by
  rw [join_eq, tl_join, List.map_map, show tl "" = [] from by decide +kernel, tl_mkS]
  exact joinL_empty cs)
theorem sg_sum : ∀ cs : List Nat, ((cs.map sg).map (·.length)).sum = cs.length
  | [] => rfl
  | c :: r => by
    rw [List.map_cons, List.map_cons, List.sum_cons, sg_sum r, List.length_cons]
    show 1 + r.length = r.length + 1
    omega
theorem isNameL_of {cs : List Nat} (h1 : 1 ≤ cs.length) (h2 : cs.length ≤ 8) (h3 : ∀ c ∈ cs, c ∈ lets) : isNameL cs = true := by
  unfold isNameL
  rw [decide_eq_true h1, decide_eq_true h2, Bool.true_and, Bool.true_and, List.all_eq_true]
  exact fun c hc => decide_eq_true (h3 c hc)
theorem isNameL_len {cs : List Nat} (h : isNameL cs = true) : 1 ≤ cs.length ∧ cs.length ≤ 8 := by
  unfold isNameL at h
  simp only [Bool.and_eq_true, decide_eq_true_eq] at h
  exact h.1
theorem isNameL_mem {cs : List Nat} (h : isNameL cs = true) : ∀ c ∈ cs, c ∈ lets := by
  unfold isNameL at h
  simp only [Bool.and_eq_true, List.all_eq_true, decide_eq_true_eq] at h
  exact h.2
theorem isPathL_of {ps : List (List Nat)} (h0 : ps ≠ []) (h1 : ps.length ≤ 4) (h2 : ∀ p ∈ ps, isNameL p = true) : isPathL (joinL [46] ps) = true := by
  unfold isPathL
  rw [joinL_dot h0 fun p hp => name_nodot (h2 p hp), decide_eq_true h1, Bool.true_and, List.all_eq_true]
  exact h2
theorem len_le_of_sum : ∀ {ps : List (List Nat)} {m : Nat}, (∀ p ∈ ps, p.length ≤ m) → (ps.map List.length).sum ≤ ps.length * m
  | [], m, _ => by simp
  | p :: r, m, h => by
    have h1 := h p List.mem_cons_self
    have h2 := len_le_of_sum (ps := r) (m := m) fun q hq => h q (List.mem_cons_of_mem _ hq)
    rw [List.map_cons, List.sum_cons, List.length_cons, Nat.add_mul]
    omega
/-- signs of a path -/
def plets : List Nat := 46 :: lets
theorem isPathL_facts {l : List Nat} (h : isPathL l = true) : 1 ≤ l.length ∧ l.length ≤ 35 ∧ ∀ c ∈ l, c ∈ plets := by
  unfold isPathL at h
  simp only [Bool.and_eq_true, List.all_eq_true, decide_eq_true_eq] at h
  obtain ⟨h1, h2⟩ := h
  have e := joinL_wds l []
  rw [List.nil_append] at e
  have ne := wds_ne l []
  generalize wds [] l = ps at *
  refine ⟨?_, ?_, fun c hc => ?_⟩
  · cases ps with
    | nil => exact absurd rfl ne
    | cons p r =>
      have hp := (isNameL_len (h2 p List.mem_cons_self)).1
      rw [← e]
      cases r with
      | nil => simpa [joinL] using hp
      | cons q r =>
        rw [joinL_cons _ _ (by simp), List.length_append]
        omega
  · have s := len_le_of_sum (ps := ps) (m := 8) fun p hp => (isNameL_len (h2 p hp)).2
    have j : ∀ qs : List (List Nat), (joinL [46] qs).length + 1 ≤ (qs.map List.length).sum + qs.length + (if qs = [] then 1 else 0) := by
      intro qs
      induction qs with
      | nil => simp [joinL]
      | cons p r ih =>
        cases r with
        | nil => simp [joinL]
        | cons q r =>
          rw [joinL_cons _ _ (by simp), List.length_append, List.length_append, List.map_cons, List.sum_cons, List.length_cons, if_neg (by simp)]
          rw [if_neg (by simp)] at ih
          simp at ih ⊢
          omega
    have j1 := j ps
    rw [if_neg ne, e] at j1
    have : ps.length * 8 ≤ 32 := by omega
    omega
  · rw [← e] at hc
    rcases joinL_mem _ hc with z | ⟨p, hp, z⟩
    · rw [List.mem_singleton.mp z]
      exact List.mem_cons_self
    · exact List.mem_cons_of_mem _ (isNameL_mem (h2 p hp) c z)
theorem joinS46 (ps : List (List Nat)) : Txt.join "." (ps.map mkS) = mkS (joinL [46] ps) := joinS ps
theorem lets_small : ∀ c ∈ plets, c < 1114112 := by decide +kernel
theorem isNameL_ok {l : List Nat} (h : isNameL l = true) : OkL l := fun c hc => lets_small c (List.mem_cons_of_mem _ (isNameL_mem h c hc))
theorem isPathL_ok {l : List Nat} (h : isPathL l = true) : OkL l := fun c hc => lets_small c ((isPathL_facts h).2.2 c hc)
end HL

/-! HLx: more steps: extend, +, pop, list(tuple), str, int; slices; texts in lists. -/
namespace HL
open PySem PySem.Spec PyProof.Rows L2 TL
section
variable {σ : L2.St} {H : Hp} {Q : VK} {K : PySem.W.Frag} {l b : Addr} {xs zs : List V}
theorem s_extend (h : H l = some (.lst xs)) (g : H b = some (.lst zs)) (n : xs.length + zs.length ≤ sizeLine) (q : Q .non (upd H l (.lst (xs ++ zs)))) : rExtend (.ref l) [.ref b] H Q := ⟨l, b, xs, zs, rfl, rfl, h, g, n, q⟩
theorem s_cat (h : H l = some (.lst xs)) (g : H b = some (.lst zs)) (n : xs.length + zs.length ≤ sizeLine) (q : ∀ p, H p = none → Q (.ref p) (upd H p (.lst (xs ++ zs)))) : rCat (.ref l) (.ref b) H Q := ⟨l, b, xs, zs, rfl, rfl, h, g, n, q⟩
theorem s_pop {y : V} (h : H l = some (.lst xs)) (g : xs[xs.length - 1]? = some y) (q : Q y (upd H l (.lst xs.dropLast))) : rPop (.ref l) [] H Q := ⟨l, xs, y, rfl, rfl, h, g, q⟩
theorem s_listT (h : SqT K H l xs) (q : ∀ p, H p = none → Q (.ref p) (upd H p (.lst xs))) : rListOf K [.ref l] H Q := ⟨l, xs, rfl, .inr h, q⟩
theorem s_strS {a : Str} (q : Q (.str a) H) : rStrOf [.str a] H Q := .inl ⟨a, rfl, q⟩
theorem s_strI {i : Int} (h : i.natAbs.log2 < 1920) (q : Q (.str (Str.ofString (toString i))) H) : rStrOf [.int i] H Q := .inr ⟨i, rfl, h, q⟩
theorem s_starts {a c : Str} (q : Q (.bl (Txt.startswith a c)) H) : rStarts (.str a) [.str c] H Q := ⟨a, c, rfl, rfl, q⟩
theorem s_intOf {a : Str} {n : Int} (h : intText? a = some n) (g : a.length ≤ 640) (q : Q (.int n) H) : rIntOf [.str a] H Q := ⟨a, n, rfl, h, g, q⟩
end
theorem Kp.nil_W {W : List Addr} {A B : Hp} (k : Kp [] A B) : Kp W A B := k.weak fun x hx => absurd hx List.not_mem_nil
theorem Kp.tr {W : List Addr} {A B C : Hp} (k : Kp W A B) (l : Kp W B C) : Kp W A C := k.step l fun x hx => .inl hx
theorem inV_strs (z : Str) (ws : List Str) : inV (.str z) (ws.map V.str) = decide (z ∈ ws) := by
  unfold inV
  rw [List.any_map]
  induction ws with
  | nil => simp
  | cons a r ih =>
    rw [List.any_cons, ih]
    show (eqV (.str a) (.str z) || _) = _
    have e : eqV (.str a) (.str z) = decide (z = a) := by
      show decide _ = _
      exact decide_eq_decide.mpr ⟨fun h => Eq.symm h, fun h => Eq.symm h⟩
    rw [e]
    by_cases c : z = a
    · simp [c]
    · simp [c]
theorem flatV_strs (ws : List Str) : (ws.map V.str).all flatV = true := by
  rw [List.all_map, List.all_eq_true]
  exact fun _ _ => rfl
theorem cut_from1 (x : V) (r : List V) : cutV (x :: r) (some 1) none = r := by
  have e : HT.sIx (x :: r).length 0 (some 1) = 1 := (HT.sIx_nat (x :: r).length 0 1).trans (by rw [List.length_cons]; omega)
  unfold cutV
  rw [e, show HT.sIx (x :: r).length (x :: r).length none = (x :: r).length from rfl]
  simp
theorem cut_last1 (xs : List V) : cutV xs none (some (-1)) = xs.dropLast := by
  unfold cutV
  rw [HT.sIx_none, List.drop_zero, Nat.sub_zero, List.dropLast_eq_take]
  congr 1
  unfold HT.sIx
  simp
  omega
/-! comprehensions whose values are told by the heap too -/
def LcInvH (D : Addr) (PL : Nat → List V → Hp → Prop) (W : List Addr) (H1 : Hp) (i : Nat) (H : Hp) : Prop := ∃ xs, H D = some (.lst xs) ∧ PL i xs H ∧ xs.length ≤ i ∧ Kp W H1 H
section
variable {J : It} {n : Nat} {G : Hp → Prop} {Y : Nat → Hp → V → Hp → Prop} {D : Addr} {PL : Nat → List V → Hp → Prop} {W : List Addr} {H1 H H4 : Hp} {i : Nat} {y : V}
theorem lc_goH (w : Walk J n G Y) {g : TG} {tt : TT} {te : TE} {vs : List Nat} {σ : L2.St} {Qd : Hp → Prop} (nD : H1 D = none) (h0 : PL 0 [] (upd H1 D (.lst []))) (hG : ∀ H, Kp W H1 H → G H)
    (hs : ∀ i x H H', i < n → LcInvH D PL W H1 i H → Y i H x H' → g x (wipe σ vs) H' fun σ2 H2 => wipe σ2 vs = wipe σ vs ∧ tt σ2 H2 fun b H3 =>
      if b = true then te σ2 H3 fun y H4 => ∃ a, H4 D = some (.lst a) ∧ a.length < sizeLine ∧ LcInvH D PL W H1 (i + 1) (upd H4 D (.lst (a ++ [y]))) else LcInvH D PL W H1 (i + 1) H3)
    (hd : ∀ H, LcInvH D PL W H1 n H → Qd H) :
    ∃ W : Nat → Nat → Hp → Prop, (∃ m, W 0 m (upd H1 D (.lst []))) ∧ ∀ i m H, W i m H →
      (J.stop i H ∧ Qd H) ∨ (J.go i H ∧ ∃ Nx : Hp → Prop, (∀ H', Nx H' → ∃ m', m' < m ∧ W (i + 1) m' H') ∧ ∀ x H', J.yld i H x H' → g x (wipe σ vs) H' fun σ2 H2 => wipe σ2 vs = wipe σ vs ∧ tt σ2 H2 fun b H3 =>
        if b = true then te σ2 H3 fun y H4 => ∃ acc, H4 D = some (.lst acc) ∧ acc.length < sizeLine ∧ Nx (upd H4 D (.lst (acc ++ [y]))) else Nx H3) :=
  lc_it w (LcInvH D PL W H1) ⟨[], upd_same, h0, Nat.le_refl _, Kp.refl.upd_new nD⟩ (fun i H _ p => by obtain ⟨_, _, _, _, k⟩ := p; exact hG H k) hs hd
theorem LcInvH.put {xs : List V} (e : H D = some (.lst xs)) (l : xs.length ≤ i) (k0 : Kp W H1 H) (nD : H1 D = none) (nW : Nin D W) (k : Kp W H H4) (sz : i < sizeLine) (p : PL (i + 1) (xs ++ [y]) (upd H4 D (.lst (xs ++ [y])))) :
    ∃ a, H4 D = some (.lst a) ∧ a.length < sizeLine ∧ LcInvH D PL W H1 (i + 1) (upd H4 D (.lst (a ++ [y]))) :=
  ⟨xs, k.get nW e, by omega, xs ++ [y], upd_same, p, by rw [List.length_append, List.length_singleton]; omega, (k0.tr k).upd_loc nD⟩
end
theorem s_iRng2 {ta : TA} {σ : L2.St} {H : Hp} {R : It → Hp → Prop} (h : ta σ H fun vs H1 => ∃ i j : Int, vs = [.int i, .int j] ∧ (-(2 ^ 62) ≤ i ∧ i < 2 ^ 62 ∧ -(2 ^ 62) ≤ j ∧ j < 2 ^ 62) ∧ R (Itr i (j - i).toNat) H1) : iRng2 ta σ H R := h
end HL

/-! HLz: zip of three lists. -/
namespace HL
open PySem PySem.Spec PyProof.Rows L2 TL
/-- three lists walked together, the items in new tuples -/
def Itz3 (K : PySem.W.Frag) (a b c : Addr) : It :=
  ⟨fun i H => ∃ (xs ys zs : List V) (x y z : V), SqL K H a xs ∧ SqL K H b ys ∧ SqL K H c zs ∧ xs[i]? = some x ∧ ys[i]? = some y ∧ zs[i]? = some z,
    fun i H v H' => ∃ T x y z, v = .ref T ∧ H T = none ∧ H' = upd H T (.tup [x, y, z]) ∧ (∀ xs, SqL K H a xs → xs[i]? = some x) ∧ (∀ ys, SqL K H b ys → ys[i]? = some y) ∧ ∀ zs, SqL K H c zs → zs[i]? = some z,
    fun i H => ∃ xs ys zs : List V, SqL K H a xs ∧ SqL K H b ys ∧ SqL K H c zs ∧ min (min xs.length ys.length) zs.length = i⟩
section
variable {P : Program} {w : World} {K : PySem.W.Frag} {elts : List Expr} {kk : Nat} {tpos : Pos} {a b c z TI TO i1 i2 i3 : Addr}
theorem turn_zip3 (D : ZipSep3 z TI TO i1 i2 i3 [i1, a] [i2, b] [i3, c]) :
    Turn P w K (.Tuple elts kk tpos) (Itz3 K a b c) [z, TI, TO, i1, i2, i3] z
      (fun i h => IsZip h z TI TO .none ∧ IsTupOf3 h TI (.ref i1) (.ref i2) (.ref i3) ∧ (∃ x y u, IsTupOf3 h TO x y u) ∧ h.IsListIter i1 a i ∧ h.IsListIter i2 b i ∧ h.IsListIter i3 c i) where
  mem := by simp
  obj := fun i h st q hq => by
    obtain ⟨hz, hTI, ⟨x, y, u, hTO⟩, ⟨o1, e1, _, d1⟩, ⟨o2, e2, _, d2⟩, ⟨o3, e3, _, d3⟩⟩ := st
    have e' : q = z ∨ q = TI ∨ q = TO ∨ q = i1 ∨ q = i2 ∨ q = i3 := by simpa using hq
    rcases e' with rfl | rfl | rfl | rfl | rfl | rfl
    · exact ⟨_, hz, fun v q => nomatch q⟩
    · exact ⟨_, hTI, fun v q => nomatch q⟩
    · exact ⟨_, hTO, fun v q => nomatch q⟩
    · exact ⟨o1, e1, fun v q => by rw [d1] at q; cases q⟩
    · exact ⟨o2, e2, fun v q => by rw [d2] at q; cases q⟩
    · exact ⟨o3, e3, fun v q => by rw [d3] at q; cases q⟩
  keep := fun i h h' st k => by
    obtain ⟨hz, hTI, ⟨x, y, u, hTO⟩, h1, h2, h3⟩ := st
    exact ⟨k z (by simp) _ hz, k TI (by simp) _ hTI, ⟨x, y, u, k TO (by simp) _ hTO⟩, h1.at fun o q => k i1 (by simp) o q, h2.at fun o q => k i2 (by simp) o q, h3.at fun o q => k i3 (by simp) o q⟩
  item := by
    intro X hP hw hK hc i pins s σ H E I hf st hg
    subst hP hw hK
    obtain ⟨hz, hTI, hTO, h1, h2, h3⟩ := st
    obtain ⟨xs, ys, zs, x, y, u, qx, qy, qz, ex, ey, ez⟩ := hg
    obtain ⟨is1, r1, p1, _⟩ := I.list qx
    obtain ⟨is2, r2, p2, _⟩ := I.list qy
    obtain ⟨is3, r3, p3, _⟩ := I.list qz
    have hh : X.A.in1.handled = none := I.ok.hd hc
    have nofp : ∀ {q l : Addr} {vs : List V}, q ∈ [z, TI, TO, i1, i2, i3] → SqL X.K H l vs → l < s.heap.objs.size := fun _ hl => by
      obtain ⟨_, _, p, _⟩ := I.list hl; exact p.lt
    have n1 : a ≠ i1 := by
      rintro rfl
      obtain ⟨o, e, c1, d1⟩ := h1
      obtain ⟨o2, e2, c2, _⟩ := p1.isList
      rw [e] at e2
      cases e2
      rw [c1] at c2
      exact absurd (Value.type.inj c2) (by decide)
    have n2 : b ≠ i2 := by
      rintro rfl
      obtain ⟨o, e, c1, d1⟩ := h2
      obtain ⟨o2, e2, c2, _⟩ := p2.isList
      rw [e] at e2
      cases e2
      rw [c1] at c2
      exact absurd (Value.type.inj c2) (by decide)
    have n3 : c ≠ i3 := by
      rintro rfl
      obtain ⟨o, e, c1, d1⟩ := h3
      obtain ⟨o2, e2, c2, _⟩ := p3.isList
      rw [e] at e2
      cases e2
      rw [c1] at c2
      exact absurd (Value.type.inj c2) (by decide)
    have W := WalksT.zipD3 (prog := X.prog) (w := X.w) (A := X.A) D (Draws.list hh i1 a n1 is1.toArray) (Draws.list hh i2 b n2 is2.toArray) (Draws.list hh i3 c n3 is3.toArray)
    have l1 := r1.length
    have l2 := r2.length
    have l3 := r3.length
    have g1 := (List.getElem?_eq_some_iff.mp ex).1
    have g2 := (List.getElem?_eq_some_iff.mp ey).1
    have g3 := (List.getElem?_eq_some_iff.mp ez).1
    refine W.item i s _ _ (by simp only [List.size_toArray]; omega) ⟨hz, hTI, hTO, ⟨h1, p1.isList⟩, ⟨h2, p2.isList⟩, ⟨h3, p3.isList⟩⟩ fun T vals h' tk hP hT hv hm hk => ?_
    refine ⟨_, rfl, W.go elts kk tpos i T _ _ _ hm fun h'' st' hk' => ?_⟩
    obtain ⟨v1, v2, v3, f1, f2, f3, rfl⟩ := hP
    obtain ⟨u1, b1, w1⟩ := r1.get ex
    obtain ⟨u2, b2, w2⟩ := r2.get ey
    obtain ⟨u3, b3, w3⟩ := r3.get ez
    have c1 : v1 = u1 := by
      have : is1[i]? = some v1 := by simpa using f1
      rw [b1] at this; exact (Option.some.inj this).symm
    have c2 : v2 = u2 := by
      have : is2[i]? = some v2 := by simpa using f2
      rw [b2] at this; exact (Option.some.inj this).symm
    have c3 : v3 = u3 := by
      have : is3[i]? = some v3 := by simpa using f3
      rw [b3] at this; exact (Option.some.inj this).symm
    subst c1 c2 c3
    have sub : ∀ q ∈ [z, TO, i1, i2, i3], q ∈ [z, TI, TO, i1, i2, i3] := fun q hq => by
      simp only [List.mem_cons, List.not_mem_nil, or_false] at hq ⊢
      rcases hq with h | h | h | h | h <;> simp [h]
    have tw := W.apart i T h' hm
    have hv2 := hv.at (h' := h'') fun o e => hk' T o tw e
    have new : ObjOk X.prog X.w (upd H T (.tup [x, y, u])) h'' T (.tup [x, y, u]) :=
      ⟨by show 3 ≤ sizeLine; decide, [v1, v2, v3], .cons w1 (.cons w2 (.cons w3 .nil)), by
        obtain ⟨o, e, c, n, d⟩ := hv2
        exact ⟨o, e, c, n, d⟩⟩
    have I1 : Inv X pins σ (upd H T (.tup [x, y, u])) { s with heap := h'', toks := tk } :=
      I.turnedNew (ch := [z, TI, TO, i1, i2, i3]) (fun q o hb e => hk' q o (fun m => hb (sub q m)) (hk q o (fun m => hb (sub q m)) e)) hf hT new
    obtain ⟨hz2, hTI2, hTO2, ⟨h12, _⟩, ⟨h22, _⟩, ⟨h32, _⟩⟩ := st'
    refine ⟨.ref T, _, I1, rfl, ⟨T, x, y, u, rfl, I.hok.fresh hT, rfl, fun l hl => by rw [I.list_inj hl qx]; exact ex, fun l hl => by rw [I.list_inj hl qy]; exact ey, fun l hl => by rw [I.list_inj hl qz]; exact ez⟩, ⟨hz2, hTI2, hTO2, h12, h22, h32⟩, fun q hq => ?_⟩
    have hlt : q < s.heap.objs.size := by
      have e' : q = z ∨ q = TI ∨ q = TO ∨ q = i1 ∨ q = i2 ∨ q = i3 := by simpa using hq
      obtain ⟨_, _, _, hTO⟩ := hTO
      rcases e' with rfl | rfl | rfl | rfl | rfl | rfl
      · exact Heap.lt_size hz
      · exact Heap.lt_size hTI
      · exact Heap.lt_size hTO
      · obtain ⟨_, e1, _⟩ := h1; exact Heap.lt_size e1
      · obtain ⟨_, e1, _⟩ := h2; exact Heap.lt_size e1
      · obtain ⟨_, e1, _⟩ := h3; exact Heap.lt_size e1
    rw [upd_ne (Nat.ne_of_lt (Nat.lt_of_lt_of_le hlt hT))]
    exact (hf q hq).1
  done := by
    intro X hP hw hK hc i pins s σ H E I hf st hg
    subst hP hw hK
    obtain ⟨hz, hTI, hTO, h1, h2, h3⟩ := st
    obtain ⟨xs, ys, zs, qx, qy, qz, hn⟩ := hg
    obtain ⟨is1, r1, p1, _⟩ := I.list qx
    obtain ⟨is2, r2, p2, _⟩ := I.list qy
    obtain ⟨is3, r3, p3, _⟩ := I.list qz
    have hh : X.A.in1.handled = none := I.ok.hd hc
    have n1 : a ≠ i1 := by
      rintro rfl
      obtain ⟨o, e, c1, d1⟩ := h1
      obtain ⟨o2, e2, c2, _⟩ := p1.isList
      rw [e] at e2
      cases e2
      rw [c1] at c2
      exact absurd (Value.type.inj c2) (by decide)
    have n2 : b ≠ i2 := by
      rintro rfl
      obtain ⟨o, e, c1, d1⟩ := h2
      obtain ⟨o2, e2, c2, _⟩ := p2.isList
      rw [e] at e2
      cases e2
      rw [c1] at c2
      exact absurd (Value.type.inj c2) (by decide)
    have n3 : c ≠ i3 := by
      rintro rfl
      obtain ⟨o, e, c1, d1⟩ := h3
      obtain ⟨o2, e2, c2, _⟩ := p3.isList
      rw [e] at e2
      cases e2
      rw [c1] at c2
      exact absurd (Value.type.inj c2) (by decide)
    have W := WalksT.zipD3 (prog := X.prog) (w := X.w) (A := X.A) D (Draws.list hh i1 a n1 is1.toArray) (Draws.list hh i2 b n2 is2.toArray) (Draws.list hh i3 c n3 is3.toArray)
    have l1 := r1.length
    have l2 := r2.length
    have l3 := r3.length
    have en : min (min is1.toArray.size is2.toArray.size) is3.toArray.size = i := by simp only [List.size_toArray]; omega
    refine W.done s _ _ (by rw [en]; exact ⟨hz, hTI, hTO, ⟨h1, p1.isList⟩, ⟨h2, p2.isList⟩, ⟨h3, p3.isList⟩⟩) fun h' tk hk => ⟨rfl, ?_⟩
    exact I.turnedL (ch := [z, TI, TO, i1, i2, i3]) (fun q o hb e => hk q o (fun m => hb (by
      simp only [List.mem_cons, List.not_mem_nil, or_false] at m ⊢
      rcases m with h | h | h | h | h <;> simp [h])) e) hf
  self := fun A i s Q E st h => wpAny_pyIter_zip st.1 h
end
def iZip3 (K : PySem.W.Frag) (ta : TA) : TI := fun σ H R => ta σ H fun vs H1 => ∃ a b c xs ys zs, vs = [.ref a, .ref b, .ref c] ∧ SqL K H1 a xs ∧ SqL K H1 b ys ∧ SqL K H1 c zs ∧ R (Itz3 K a b c) H1
theorem pi_zip3 {X : Cx} {K : PySem.W.Frag} (hK : X.K = K) {e e2 e3 : Expr} {ta : TA} {p pos tpos : Pos} {elts : List Expr} {kk : Nat} (hg : Gl X "zip") (hm : X.mg "zip" = none) (ha : PA X [e, e2, e3] ta)
    (hs : starEach [e, e2, e3] X.env = (false, eval e X.env) :: starEach [e2, e3] X.env := by rfl) (hpl : (backTo pos (starEach [e2, e3] X.env)).any (·.1) = false := by rfl) :
    PI X (.Tuple elts kk tpos) (.Call (.Name "zip" p) [e, e2, e3] [] pos) (iZip3 K ta) := by
  subst hK
  refine ⟨fun pins s σ H R I h => ?_⟩
  refine Call_ (ld_blt I hg hm boot_zip (callWith_type1 (thn (ha.run pos pins s σ H _ I h) fun us s1 ⟨vs, H1, I1, r1, q1⟩ => ?_) hs hpl))
  obtain ⟨a, b, c, xs, ys, zs, ex, qx, qy, qz, q⟩ := q1
  subst ex
  obtain ⟨u1, us, rfl, ru, r1⟩ : ∃ u1 us', us = u1 :: us' ∧ RelV (V.ref a) u1 ∧ Vals [.ref b, .ref c] us' := by
    cases r1 with
    | cons r rr => exact ⟨_, _, rfl, r, rr⟩
  obtain ⟨u2, u3, rfl, ru2, ru3⟩ := vals2 r1
  cases ru
  cases ru2
  cases ru3
  obtain ⟨is1, r1, p1, _⟩ := I1.list qx
  obtain ⟨is2, r2, p2, _⟩ := I1.list qy
  obtain ⟨is3, r3, p3, _⟩ := I1.list qz
  refine zip_begins3 (begins_list a is1.toArray) (begins_list b is2.toArray) (begins_list c is3.toArray) p1.isList p2.isList p3.isList fun h' hz hTI hTO o1 o2 o3 hsz hk => wpAny_pyIter_zip hz ?_
  have I2 : Inv X pins σ H1 { s1 with heap := h' } := I1.kept (t' := s1.toks) hk
  have S := zip_sep3 (N := s1.heap.objs.size) (fp1 := [a]) (fp2 := [b]) (fp3 := [c]) (fun q hq => by rw [List.mem_singleton.mp hq]; exact p1.lt) (fun q hq => by rw [List.mem_singleton.mp hq]; exact p2.lt) (fun q hq => by rw [List.mem_singleton.mp hq]; exact p3.lt)
  refine ⟨_, [s1.heap.objs.size + 5, s1.heap.objs.size + 3, s1.heap.objs.size + 4, s1.heap.objs.size, s1.heap.objs.size + 1, s1.heap.objs.size + 2], _, _, H1, rfl, I2, turn_zip3 S, ⟨hz, hTI, ⟨_, _, _, hTO⟩, ⟨_, o1, rfl, rfl⟩, ⟨_, o2, rfl, rfl⟩, ⟨_, o3, rfl, rfl⟩⟩, fun q hq => ?_, q⟩
  have hle : s1.heap.objs.size ≤ q := by
    have e' : q = s1.heap.objs.size + 5 ∨ q = s1.heap.objs.size + 3 ∨ q = s1.heap.objs.size + 4 ∨ q = s1.heap.objs.size ∨ q = s1.heap.objs.size + 1 ∨ q = s1.heap.objs.size + 2 := by simpa using hq
    rcases e' with rfl | rfl | rfl | rfl | rfl | rfl
    · exact Nat.le_add_right _ _
    · exact Nat.le_add_right _ _
    · exact Nat.le_add_right _ _
    · exact Nat.le_refl _
    · exact Nat.le_add_right _ _
    · exact Nat.le_add_right _ _
  exact I1.fpOk hle (I1.hok.fresh hle)
def YTrip (xs ys zs : Nat → Option V) : Nat → Hp → V → Hp → Prop := fun i H v H' => ∃ T x y z, v = .ref T ∧ H T = none ∧ H' = upd H T (.tup [x, y, z]) ∧ xs i = some x ∧ ys i = some y ∧ zs i = some z
theorem walk_zip3 {K : PySem.W.Frag} {a b c : Addr} {xs ys zs : List V} {n : Nat} (h1 : xs.length = n) (h2 : ys.length = n) (h3 : zs.length = n) :
    Walk (Itz3 K a b c) n (fun H => SqL K H a xs ∧ SqL K H b ys ∧ SqL K H c zs) (YTrip (fun i => xs[i]?) (fun i => ys[i]?) (fun i => zs[i]?)) := by
  refine ⟨fun i _ hi q => ?_, fun _ q => ⟨xs, ys, zs, q.1, q.2.1, q.2.2, by omega⟩, fun i H v H' _ q y => ?_⟩
  · exact ⟨xs, ys, zs, xs[i], ys[i], zs[i], q.1, q.2.1, q.2.2, by simp, by simp, by simp⟩
  · obtain ⟨T, x, y, z, h1, h2, h3, h4, h5, h6⟩ := y
    exact ⟨T, x, y, z, h1, h2, h3, h4 xs q.1, h5 ys q.2.1, h6 zs q.2.2⟩
theorem s_iZip3 {K : PySem.W.Frag} {ta : TA} {σ : L2.St} {H : Hp} {R : It → Hp → Prop} (h : ta σ H fun vs H1 => ∃ a b c xs ys zs, vs = [.ref a, .ref b, .ref c] ∧ SqL K H1 a xs ∧ SqL K H1 b ys ∧ SqL K H1 c zs ∧ R (Itz3 K a b c) H1) : iZip3 K ta σ H R := h
end HL

/-! HLo: enumerate of a tuple; expressions and statements that are never come to. -/
namespace HL
open PySem PySem.Spec PyProof.Rows L2 TL
/-- a tuple walked, each item in a new pair behind its number -/
def ItnT (K : PySem.W.Frag) (a : Addr) : It where
  go i H := ∃ (xs : List V) (x : V), SqT K H a xs ∧ xs[i]? = some x
  yld i H v H' := ∃ T x, v = .ref T ∧ H T = none ∧ H' = upd H T (.tup [.int (i : Nat), x]) ∧ ∀ xs, SqT K H a xs → xs[i]? = some x
  stop i H := ∃ xs : List V, SqT K H a xs ∧ xs.length = i
set_option maxHeartbeats 1000000 in
/-- enumerate of one thing, its two new objects -/
theorem enum_one {v : Value} {o : Obj} {B : Heap → Prop} (b : Begins v o B) :
    Meets (Builtin.«enumerate.__new__» ⟨[.type "enumerate", v], []⟩) fun _ R s => B s.heap ∧
      R (.ok (.ret (.ref (s.heap.push o).objs.size))) { s with heap := (s.heap.push o).push { cls := .type "enumerate", data := .fields #[.none, .bool false, .ref s.heap.objs.size, rawInt 0, .none, .none] } } := by
  refine .of_wp fun prog w A R s h => ?_
  rcases s with ⟨hp, g, d, tk, os⟩
  rcases h with ⟨h0, h1⟩
  have sub := sub_enumerate
  have it : ∀ {A' : Around} {E Q : Value → Shared → Prop}, Q (.ref hp.objs.size) ⟨hp.push o, g, d, tk, os⟩ → wpAny (model prog w) A' (pyIter v) Q E ⟨hp, g, d, tk, os⟩ := fun z => b.iter prog w _ _ ⟨hp, g, d, tk, os⟩ _ h0 z
  wp_walk using it
  apply wpAny_stack_any
  intro st
  apply wpAny_pure
  split
  · next c _ _ _ _ _ =>
    cases (c == Value.type "enumerate") <;> (wp_walk using it; exact ⟨_, rfl, h1⟩)
  · wp_walk using it
    exact ⟨_, rfl, h1⟩
theorem call_enumT {prog : Program} {w : World} {A : Around} {E : Value → Shared → Prop} {s : Shared} {l : Addr} {its : Array Value} {Q : Value → Shared → Prop} (hL : s.heap.IsTuple l its)
    (k : ∀ h', IsEnum h' (s.heap.objs.size + 1) s.heap.objs.size 0 .none → h'.IsTupleIter s.heap.objs.size l 0 → (∀ b o, s.heap.get? b = some o → h'.get? b = some o) → Q (.ref (s.heap.objs.size + 1)) { s with heap := h' }) :
    wpAny (model prog w) A (call (.type "enumerate") [.ref l]) Q E s := by
  apply callType_new F.called_enumerate (by decide) (F.typeCall_enumerate_1 _) (F.newCall_enumerate_1 _) (fun obj => F.args_object_init_2 obj _) F.entry_enumerate_new (enum_one (begins_tuple l its))
  refine ⟨hL, ?_⟩
  have z : (s.heap.push { cls := .type "tuple_iterator", data := .fields #[.ref l, .int 0 0] }).objs.size = s.heap.objs.size + 1 := Heap.size_push ..
  have e := Heap.get?_push_size (s.heap.push { cls := .type "tuple_iterator", data := .fields #[.ref l, .int 0 0] }) (o := { cls := .type "enumerate", data := .fields #[.none, .bool false, .ref s.heap.objs.size, rawInt 0, .none, .none] }) rfl
  show _ ∧ _
  rw [z] at e ⊢
  exact ⟨⟨_, e, rfl⟩, k _ e ⟨_, Heap.get?_push_of_some _ (Heap.get?_push_size _ rfl), rfl, rfl⟩ fun b o x => Heap.get?_push_of_some _ (Heap.get?_push_of_some _ x)⟩
section
variable {P : Program} {w : World} {K : PySem.W.Frag} {elts : List Expr} {kk : Nat} {tpos : Pos}
theorem turn_enumT (a e it : Addr) : Turn P w K (.Tuple elts kk tpos) (ItnT K a) [e, it] e fun i h => (∃ old, IsEnum h e it ((i : Nat) : Int) old) ∧ h.IsTupleIter it a i ∧ e ≠ it where
  mem := List.mem_cons_self
  obj i h st q hq := by
    obtain ⟨⟨old, he⟩, ⟨o, ho, _, hd⟩, _⟩ := st
    simp only [List.mem_cons, List.not_mem_nil, or_false] at hq
    rcases hq with rfl | rfl
    · exact ⟨_, he, fun v z => nomatch z⟩
    · exact ⟨o, ho, fun v z => by rw [hd] at z; cases z⟩
  keep i h h' st k := by
    obtain ⟨⟨old, he⟩, hi, hne⟩ := st
    exact ⟨⟨old, k e List.mem_cons_self _ he⟩, hi.at fun o z => k it (by simp) o z, hne⟩
  item := by
    intro X hP hw hK hc i pins s σ H E I hf st hg
    subst hP hw hK
    obtain ⟨⟨old, he⟩, hit, hne⟩ := st
    obtain ⟨xs, x, hq, hx⟩ := hg
    obtain ⟨is, rv, tp, _⟩ := I.tuple hq
    obtain ⟨u, hu, ru⟩ := rv.get hx
    have tp : s.heap.IsTuple a is.toArray := tp
    have lu := (List.getElem?_eq_some_iff.mp hu).1
    have tt : ∃ o, s.heap.get? a = some o ∧ o.cls = .type "tuple" := by
      obtain ⟨o, e, c, _⟩ := tp
      exact ⟨o, e, c⟩
    have na : a ≠ it := by
      rintro rfl
      obtain ⟨o, e1, c1⟩ := tt
      obtain ⟨o2, e2, c2, _⟩ := hit
      rw [e1] at e2
      cases e2
      rw [c1] at c2
      exact absurd (Value.type.inj c2) (by decide)
    have nea : e ≠ a := by
      rintro rfl
      obtain ⟨o, e1, c1⟩ := tt
      rw [he] at e1
      cases e1
      exact absurd (Value.type.inj c1) (by decide)
    have hh : X.A.in1.handled = none := I.ok.hd hc
    have hel : e < s.heap.objs.size := Heap.lt_size he
    have hil : it < s.heap.objs.size := by
      obtain ⟨_, z, _⟩ := hit
      exact Heap.lt_size z
    refine wpAny_pyNext_enum_itemC (n := is.toArray.size) (Draws.tuple hh it a na is.toArray) he ⟨hit, tp⟩ (by simpa using lu) hne (by simp [hne, nea]) fun x' h' tk hx' ho st' hT hsz hk => ?_
    have ux : x' = u := by
      have : is[i]? = some x' := by simpa using hx'
      rw [hu] at this
      exact (Option.some.inj this).symm
    subst ux
    refine ⟨_, rfl, wpAny_letOwnedTupleGo_enum ho fun h'' he' sb => ?_⟩
    have nT : s.heap.objs.size ≠ e := Nat.ne_of_gt hel
    have new : ObjOk X.prog X.w (upd H s.heap.objs.size (.tup [.int (i : Nat), x])) h'' s.heap.objs.size (.tup [.int (i : Nat), x]) :=
      ⟨by show 2 ≤ sizeLine; decide, [.int i tk, x'], .cons ⟨_, rfl⟩ (.cons ru .nil), _, (sb.2 _ nT).trans hT, rfl, _, rfl⟩
    have I1 : Inv X pins σ (upd H s.heap.objs.size (.tup [.int (i : Nat), x])) { s with heap := h'', toks := tk + 1 } :=
      I.turnedNew (ch := [e, it]) (fun b ob hb z => (sb.2 b fun y => hb (by simp [y])).trans (hk b ob (fun y => hb (by simp [y])) (fun y => hb (by simp [y])) z)) hf (Nat.le_refl _) new
    refine ⟨.ref s.heap.objs.size, _, I1, rfl, ⟨_, x, rfl, I.hok.fresh (Nat.le_refl _), rfl, fun ys hy => by rw [I.tuple_inj hy hq]; exact hx⟩, ⟨⟨x', ?_⟩, st'.1.at fun o z => (sb.2 it (Ne.symm hne)).trans z, hne⟩, fun b hb => ?_⟩
    · rw [show ((i + 1 : Nat) : Int) = (i : Int) + 1 from by omega]
      exact he'
    · have : b < s.heap.objs.size := by
        simp only [List.mem_cons, List.not_mem_nil, or_false] at hb
        rcases hb with rfl | rfl
        · exact hel
        · exact hil
      rw [upd_ne (Nat.ne_of_lt this)]
      exact (hf b hb).1
  done := by
    intro X hP hw hK hc i pins s σ H E I hf st hg
    subst hP hw hK
    obtain ⟨⟨old, he⟩, hit, hne⟩ := st
    obtain ⟨xs, hq, hx⟩ := hg
    obtain ⟨is, rv, tp, _⟩ := I.tuple hq
    have tp : s.heap.IsTuple a is.toArray := tp
    have na : a ≠ it := by
      rintro rfl
      obtain ⟨o, e1, c1, _⟩ := tp
      obtain ⟨o2, e2, c2, _⟩ := hit
      rw [e1] at e2
      cases e2
      rw [c1] at c2
      exact absurd (Value.type.inj c2) (by decide)
    have hh : X.A.in1.handled = none := I.ok.hd hc
    obtain ⟨f0, f1, f2, f3, f4, f5⟩ := hf it (by simp)
    have hl := rv.length
    have hn : i = is.toArray.size := by
      rw [List.size_toArray, ← hl]
      exact hx.symm
    subst hn
    exact wpAny_pyNext_enum_endD (Draws.tuple hh it a na is.toArray) he ⟨hit, tp⟩ fun h' eb => ⟨rfl, I.turned (t' := s.toks) (fun b o hb z => eb b o hb z) f0 f1 f3 f4 f5⟩
  self A i s Q E st h := by
    obtain ⟨⟨_, he⟩, _⟩ := st
    exact wpAny_pyIter_enum he h
end
def iEnumT (K : PySem.W.Frag) (ta : TA) : TI := fun σ H R => ta σ H fun vs H1 => ∃ a xs, vs = [.ref a] ∧ SqT K H1 a xs ∧ R (ItnT K a) H1
theorem pi_enumT {X : Cx} {K : PySem.W.Frag} (hK : X.K = K) {e : Expr} {ta : TA} {p pos tpos : Pos} {elts : List Expr} {kk : Nat} (hg : Gl X "enumerate") (hm : X.mg "enumerate" = none) (ha : PA X [e] ta) (hs : starEach [e] X.env = [(false, eval e X.env)] := by rfl) :
    PI X (.Tuple elts kk tpos) (.Call (.Name "enumerate" p) [e] [] pos) (iEnumT K ta) := by
  subst hK
  constructor
  intro pins s σ H R I h
  refine Call_ (ld_blt I hg hm boot_enumerate (PyProof.Rows.callWith_type1 (thn (ha.run pos pins s σ H _ I h) ?_) hs rfl))
  rintro us s1 ⟨vs, H1, I1, r1, a, xs, rfl, hq, q⟩
  cases r1 with
  | cons r rr =>
    cases rr
    cases r
    obtain ⟨is, rv, tp, _⟩ := I1.tuple hq
    refine call_enumT (show s1.heap.IsTuple a is.toArray from tp) fun h' he hit hk => wpAny_pyIter_enum he ?_
    have I2 : Inv X pins σ H1 { s1 with heap := h' } := I1.kept (t' := s1.toks) hk
    refine ⟨s1.heap.objs.size + 1, [s1.heap.objs.size + 1, s1.heap.objs.size], _, _, H1, rfl, I2, turn_enumT a (s1.heap.objs.size + 1) s1.heap.objs.size, ⟨⟨.none, he⟩, hit, Nat.succ_ne_self _⟩, fun b hb => ?_, q⟩
    have le : s1.heap.objs.size ≤ b := by
      simp only [List.mem_cons, List.not_mem_nil, or_false] at hb
      rcases hb with rfl | rfl
      · exact Nat.le_add_right _ 1
      · exact Nat.le_refl _
    exact I1.fpOk le (I1.hok.fresh le)
theorem walk_enumT {K : PySem.W.Frag} {a : Addr} {xs : List V} : Walk (ItnT K a) xs.length (fun H => SqT K H a xs) (YPair (fun i => some (.int (i : Nat))) fun i => xs[i]?) :=
  ⟨fun i _ hi q => ⟨xs, xs[i], q, by simp [hi]⟩, fun _ q => ⟨xs, q, rfl⟩, fun i H v H' _ q ⟨T, x, h1, h2, h3, h4⟩ => ⟨T, .int (i : Nat), x, h1, h2, h3, rfl, h4 xs q⟩⟩
theorem s_iEnumT {K : PySem.W.Frag} {σ : L2.St} {H : Hp} {ta : TA} {R : It → Hp → Prop} (h : ta σ H fun vs H1 => ∃ a xs, vs = [.ref a] ∧ SqT K H1 a xs ∧ R (ItnT K a) H1) : iEnumT K ta σ H R := h
theorem s_iItems {σ : L2.St} {H : Hp} {td : TE} {R : It → Hp → Prop} (h : td σ H fun x H1 => ∃ d o kvs, x = .ref d ∧ H1 d = some (.frz o (.dK kvs)) ∧ R (Iti d o kvs) H1) : iItems td σ H R := h
theorem s_iVals {σ : L2.St} {H : Hp} {td : TE} {R : It → Hp → Prop} (h : td σ H fun x H1 => ∃ d o kvs, x = .ref d ∧ H1 d = some (.frz o (.dK kvs)) ∧ R (Itd d o kvs) H1) : iVals td σ H R := h
theorem s_iKeys {σ : L2.St} {H : Hp} {td : TE} {R : It → Hp → Prop} (h : td σ H fun x H1 => ∃ d o, x = .ref d ∧ ((∃ kvs, H1 d = some (.frz o (.dK kvs)) ∧ R (Itk d o kvs) H1) ∨ ∃ kvs, H1 d = some (.frz o (.dT kvs)) ∧ R (Itkt d o kvs) H1)) : iKeys td σ H R := h
theorem s_lock {t : TS} {D : Ends} {σ : L2.St} {H : Hp} {d : Addr} {u : HO} (e : H d = some u) (m : L2.Mut (some u)) (h : ∀ od, t ⟨fun σ' H' => H' d = some (.frz od u) ∧ D.nx σ' (upd H' d u), fun v H' => H' d = some (.frz od u) ∧ D.rt v (upd H' d u), fun σ' H' => H' d = some (.frz od u) ∧ D.bk σ' (upd H' d u), fun σ' H' => H' d = some (.frz od u) ∧ D.ct σ' (upd H' d u)⟩ σ (upd H d (.frz od u))) : tLock t D σ H := ⟨d, u, e, m, h⟩
theorem s_lockE {t : TE} {σ : L2.St} {H : Hp} {Q : VK} {d : Addr} {u : HO} (e : H d = some u) (m : L2.Mut (some u)) (h : ∀ od, t σ (upd H d (.frz od u)) fun v H' => H' d = some (.frz od u) ∧ Q v (upd H' d u)) : tLockE t σ H Q := ⟨d, u, e, m, h⟩
/-- what is never evaluated -/
def tNevE : TE := fun _ _ _ => False
theorem pe_never {X : Cx} {e : Expr} : PE X e tNevE := ⟨fun _ _ _ _ _ _ h => h.elim⟩
end HL

/-! HLy: instances, dicts with text keys, sorted texts. -/
namespace HL
open PySem PySem.Spec PyProof.Rows L2 TL
section
variable {σ : L2.St} {H : Hp} {Q : VK} {K : PySem.W.Frag} {ta tb te : TE} {D : Ends} {a C dx : Addr} {fs : List (Str × V)} {f : Str} {v : V}
theorem s_ins {R : V → Prop} (h : H a = some (.ins C dx fs)) (c : Cls K C) (n : NoAttr K C f) (l : fs.lookup f = some v) (q : R v) : ∃ a' C dx fs v, V.ref a = .ref a' ∧ H a' = some (.ins C dx fs) ∧ Cls K C ∧ NoAttr K C f ∧ fs.lookup f = some v ∧ R v := ⟨a, C, dx, fs, v, rfl, h, c, n, l, q⟩
theorem s_sfld (h : tb σ H fun y H1 => ta σ H1 fun x H2 => ∃ a C dx fs, x = .ref a ∧ H2 a = some (.ins C dx fs) ∧ Cls K C ∧ NoAttr K C f ∧ fs.length < 1000 ∧ D.nx σ (upd H2 a (.ins C dx (putF f y fs)))) : sFld K ta tb f D σ H := h
theorem s_insP {P : Hp → Prop} {y : V} (h : H a = some (.ins C dx fs)) (c : Cls K C) (n : NoAttr K C f) (l : fs.length < 1000) (q : P (upd H a (.ins C dx (putF f y fs)))) : ∃ a' C dx fs, V.ref a = .ref a' ∧ H a' = some (.ins C dx fs) ∧ Cls K C ∧ NoAttr K C f ∧ fs.length < 1000 ∧ P (upd H a' (.ins C dx (putF f y fs))) := ⟨a, C, dx, fs, rfl, h, c, n, l, q⟩
theorem s_meth {m : Str} {sp : Sp} {dvs : List V} {E : XK} {t : TA} (h : ta σ H fun x H1 => ∃ a dx fs, x = .ref a ∧ H1 a = some (.ins C dx fs) ∧ fs.lookup m = none ∧ t σ H1 fun vs H2 => sp (x :: (vs ++ dvs)) H2 Q E) : tMeth C m sp dvs E ta t σ H Q := h
theorem s_insM {P : Prop} {m : Str} (h : H a = some (.ins C dx fs)) (l : fs.lookup m = none) (q : P) : ∃ a' dx fs, V.ref a = .ref a' ∧ H a' = some (.ins C dx fs) ∧ fs.lookup m = none ∧ P := ⟨a, dx, fs, rfl, h, l, q⟩
theorem s_make {sp : Sp} {dvs : List V} {E : XK} {t : TA} (h : t σ H fun vs H1 => ∀ x dx, H1 x = none → H1 dx = none → dx ≠ x → sp (.ref x :: (vs ++ dvs)) (upd (upd H1 dx (.own x)) x (.ins C dx [])) (fun v H2 => v = .non ∧ Q (.ref x) H2) E) : tMake C sp dvs E t σ H Q := h
theorem s_dnew (h : ∀ p, H p = none → Q (.ref p) (upd H p (.dK []))) : tDNewK σ H Q := h
theorem s_dget (h : ta σ H fun x H1 => tb σ H1 fun y H2 => ∃ a v, x = .ref a ∧ DGet H2 a y (some v) ∧ Q v H2) : tDGet ta tb σ H Q := h
theorem s_din (h : ta σ H fun y H1 => tb σ H1 fun x H2 => ∃ a o, x = .ref a ∧ DGet H2 a y o ∧ Q (.bl o.isSome) H2) : tDIn ta tb σ H Q := h
theorem s_dnotin (h : ta σ H fun y H1 => tb σ H1 fun x H2 => ∃ a o, x = .ref a ∧ DGet H2 a y o ∧ Q (.bl (!o.isSome)) H2) : tDNotIn ta tb σ H Q := h
theorem s_dput (h : te σ H fun v H1 => ta σ H1 fun x H2 => tb σ H2 fun y H3 => ∃ a H4, x = .ref a ∧ DPut H3 a y v H4 ∧ D.nx σ H4) : sDPut ta tb te D σ H := h
theorem s_dget1 (h : ta σ H fun x H1 => ∃ a, x = .ref a ∧ IsD H1 a ∧ tb σ H1 fun y H2 => ∃ o, DGet H2 a y o ∧ Q (o.getD .non) H2) : tDGet1 ta tb σ H Q := h
variable {kvs : List (Key × V)} {z : Str}
theorem s_getS {R : V → Prop} (h : H a = some (.dK kvs)) (e : valV kvs (.inr z) = some v) (q : R v) : ∃ a' v, V.ref a = .ref a' ∧ DGet H a' (.str z) (some v) ∧ R v := ⟨a, v, rfl, e ▸ DGet.k (k := Sum.inr z) h, q⟩
theorem s_inS {R : Option V → Prop} (h : H a = some (.dK kvs)) (q : R (valV kvs (.inr z))) : ∃ a' o, V.ref a = .ref a' ∧ DGet H a' (.str z) o ∧ R o := ⟨a, _, rfl, DGet.k (k := Sum.inr z) h, q⟩
theorem s_putS {P : Hp → Prop} (h : H a = some (.dK kvs)) (l : kvs.length < sizeLine) (q : P (upd H a (.dK (putK kvs (.inr z) v)))) : ∃ a' H4, V.ref a = .ref a' ∧ DPut H a' (.str z) v H4 ∧ P H4 := ⟨a, _, rfl, DPut.k (k := Sum.inr z) h l, q⟩
end
/-! repr of a number, a list, a tuple -/
def rReprA (K : PySem.W.Frag) : List V → Hp → VK → Prop := fun xs H Q => (∃ i : Int, xs = [.int i] ∧ i.natAbs.log2 < 1920 ∧ Q (.str (Str.ofString (toString i))) H) ∨ rReprD K xs H Q
theorem reprAK {X : Cx} {K : PySem.W.Frag} (h : X.K = K) (hg : X.A.guards = some []) (hu : X.A.units + 64 < cLine) : CallR X (.builtin "repr") (rReprA K) := fun pins s σ H xs us Q I r z => z.elim
  (fun z => SkE.call_repr_int pins s σ H xs us Q I r z) (fun z => reprK h hg hu pins s σ H xs us Q I r z)
/-! sorted texts -/
theorem sortedSK {X : Cx} {K : PySem.W.Frag} (h : X.K = K) : CallR X (.builtin "sorted") (rSortedS K) := h ▸ cr_sortedS
theorem rising_head : ∀ {r : List Str} {p : Str}, risingS p r = true → ∀ x ∈ r, ¬ tl x < tl p
  | [], _, _, x, hx => absurd hx List.not_mem_nil
  | y :: r, p, h, x, hx => by
    have h' : (!ltCps y.cps.toList p.cps.toList && risingS y r) = true := h
    simp only [Bool.and_eq_true, Bool.not_eq_true', ltCps_eq, decide_eq_false_iff_not] at h'
    rcases List.mem_cons.mp hx with rfl | hx
    · exact h'.1
    · have h2 := rising_head h'.2 x hx
      exact List.not_lt.mpr (List.le_trans (List.not_lt.mp h'.1) (List.not_lt.mp h2))
theorem rising_pw : ∀ {r : List Str} {p : Str}, risingS p r = true → (p :: r).Pairwise fun a b => ¬ tl b < tl a
  | [], _, _ => List.pairwise_singleton _ _
  | y :: r, p, h => by
    have h' : (!ltCps y.cps.toList p.cps.toList && risingS y r) = true := h
    simp only [Bool.and_eq_true] at h'
    exact List.pairwise_cons.mpr ⟨rising_head h, rising_pw h'.2⟩
theorem sortedS_pw : ∀ {l : List Str}, sortedS l = true → l.Pairwise fun a b => ¬ tl b < tl a
  | [], _ => .nil
  | _ :: _, h => rising_pw h
theorem sorted_eq {xs ys ks : List Str} (h1 : xs.Perm ks) (h2 : sortedS xs = true) (h3 : ys.Perm ks) (h4 : sortedS ys = true) : xs = ys :=
  List.Perm.eq_of_pairwise (fun a b _ _ h h' => ext_tl (List.le_antisymm (List.not_lt.mp h) (List.not_lt.mp h'))) (sortedS_pw h2) (sortedS_pw h4) (h1.trans h3.symm)
/-! facts of classes -/
structure IsiC (K : PySem.W.Frag) (C : Addr) : Prop where
  ha : PySem.W.findIn K (.ref C) "__class__" = some (some (.builtin "object.__class__"))
  hn : PySem.W.specialIn K (.builtin "object.__class__") "__get__" = some (some (.builtin "getset_descriptor.__get__"))
  htk : PySem.W.takesIn K (.builtin "object.__class__") = some true
  hm : PySem.W.mroIn K C (.type "object") = some true
theorem IsiC.ty {K : PySem.W.Frag} {C a dx : Addr} {H : Hp} {fs : List (Str × V)} (h : IsiC K C) (c : Cls K C) (e : H a = some (.ins C dx fs)) : TyX K H (.ref a) (.ref C) := .base (.ins e c h.ha h.hn h.htk h.hm)
theorem kit_self (K : PySem.W.Frag) (t : Value) : PySem.W.kitOne K t t = some true := by
  unfold PySem.W.kitOne
  rw [if_pos (beq_self_eq_true t)]
theorem isi_own {K : PySem.W.Frag} {H : Hp} {Q : VK} {x : V} {t : Value} {C : Addr} {b : Bool} (ht : TyX K H x t) (hk : PySem.W.kitOne K t (.ref C) = some b) (q : Q (.bl b) H) : rIsi K [x, .ref C] H Q := ⟨x, .ref C, t, .ref C, b, rfl, .own C, ht, hk, q⟩
/-- a method of a class, an instance's making -/
def DmF (P : Program) (w : World) (K : PySem.W.Frag) (mg : Str → Option Value) (base : Heap) (k : Nat) (C : Addr) (m : Str) (ps : List Str) (sp : Sp) : Prop :=
  ∃ (f : Addr) (fd : FuncData), FnOk P w K mg base CX0 k f fd ps sp ∧ Meth K C m f ∧ Binds K fd ps []
def DkF (P : Program) (w : World) (K : PySem.W.Frag) (mg : Str → Option Value) (base : Heap) (k : Nat) (C : Addr) (ps : List Str) (sp : Sp) : Prop :=
  ∃ (f : Addr) (fd : FuncData), FnOk P w K mg base CX0 k f fd ps sp ∧ Mk K C f ∧ Binds K fd ps []
theorem nin1' {p x : Addr} (h : p ≠ x) : Nin x [p] := ⟨h.symm, trivial⟩
theorem kit_sub {K : PySem.W.Frag} {t : Value} {C : Addr} {b : Bool} (hc : PySem.W.isClsIn K C = true) (ht : PySem.W.typeIn K (.ref C) = some (.type "type")) (ss : PySem.W.subIn K (.ref C) (.ref C) = some true)
    (hs : PySem.W.subIn K t (.ref C) = some b) : PySem.W.kitOne K t (.ref C) = some b := by
  unfold PySem.W.kitOne
  split
  · rename_i e
    have e := eq_of_beq e
    subst e
    exact ss.symm.trans hs
  · unfold PySem.W.kitCls
    dsimp only
    rw [if_pos (by rw [Bool.and_eq_true]; exact ⟨hc, by rw [ht]; exact beq_self_eq_true _⟩)]
    exact hs
theorem sub_bt {K : PySem.W.Frag} {T : String} {C : Addr} (h : (PySem.fastBuiltinMro T).any (fun l => l.all fun v => match v with | .type _ => true | _ => false) = true) : PySem.W.subIn K (.type T) (.ref C) = some false := by
  show (PySem.fastBuiltinMro T).map (·.contains (.ref C)) = some false
  cases e : PySem.fastBuiltinMro T with
  | none => rw [e] at h; cases h
  | some l =>
    rw [e] at h
    have h : (l.all fun v => match v with | .type _ => true | _ => false) = true := h
    rw [Option.map_some]
    congr 1
    rw [Bool.eq_false_iff]
    intro c
    rw [List.contains_iff_mem] at c
    have := List.all_eq_true.mp h _ c
    cases this
end HL

/-! HLf: an exception class of one's own whose __init__ calls the __init__ of the class above it. -/
namespace HL
open PySem PySem.Spec PyProof.Rows L2 TL
/-- what is asked of the class above, by which __init__ is called -/
structure TopC (K : PySem.W.Frag) (C : Addr) : Prop where
  ga : PySem.W.specialIn K (.ref C) "__getattribute__" = some (some (.builtin "type.__getattribute__"))
  rd : PySem.W.readsIn K C (.type "type") = true
  vi : PySem.W.findCls K (.ref C) (.type "type") "__init__" = some (.val (.builtin "ValueError.__init__"))
theorem pe_meinit {X : Cx} {K : PySem.W.Frag} (hK : X.K = K) {x : Str} {C : Addr} {e : Expr} {es : List Expr} {ta : TA} {p1 p2 pos : Pos} {pl : Sem Bool} (hg : Gl X x) (hm : X.mg x = some (.ref C)) (T : TopC K C) (ha : PA X (e :: es) ta)
    (hdb : (x == ("__debug__" : Str)) = false := by decide)
    (hc : eval (.Call (.Attribute (.Name x p1) "__init__" p2) (e :: es) [] pos) X.env = (do
      let ov ← eval (.Name x p1) X.env
      standAt p2.atName
      let (f, first) ← holding [ov] (getMethod ov "__init__" pl)
      callWith pos f first (backTo pos (starEach (e :: es) X.env)) (backToKw pos (keywordEach [] X.env))) := by rfl)
    (he : starEach (e :: es) X.env = (false, eval e X.env) :: starEach es X.env := by rfl) (hpl : (backTo pos (starEach es X.env)).any (·.1) = false := by rfl) :
    PE X (.Call (.Attribute (.Name x p1) "__init__" p2) (e :: es) [] pos) (tVeI K ta) := by
  subst hK
  refine ⟨fun pins s σ H Q I h => ?_⟩
  refine PySem.W.methodCall_KW (ld_glob I hg hm ?_ hdb) hc
  refine PySem.W.method_cls I.kIn T.ga (PySem.W.cls_value I.kIn T.rd T.vi (by decide +kernel) ?_)
  show wpAny _ _ (callWith pos (Value.builtin "ValueError.__init__") [] (backTo pos (starEach (e :: es) X.env)) []) _ _ _
  refine callWith_method1 (thn (ha.run pos pins _ σ H _ (I.tok _) h) fun us s1 ⟨vs, H1, I1, r1, a, D, ws, ev, hl, TC, ea, q⟩ => ?_) he hpl
  subst ev
  cases r1 with
  | @cons _ u0 _ ur ra rw' =>
    cases ra
    exact oinit_ok TC I1 ea (by rw [← Paired.length rw', sizeLine_eq]; omega) fun s' J => ⟨.non, H1, J, rfl, q⟩
end HL

/-! HLi: instances compared by ==; lists of pairs of an instance and a number compared by !=; isinstance by two classes. -/
namespace HL
open PySem PySem.Spec PyProof.Rows L2 TL
/-- a class that has object's own __eq__ -/
structure EqC (K : PySem.W.Frag) (C : Addr) : Prop where
  top : PySem.W.mroIn K C (.type "object") = some true
  own : PySem.W.findIn K (.ref C) "__eq__" = some (some (.builtin "object.__eq__"))
section
variable {prog : Program} {w : World} {A : Around} {E : Value → Shared → Prop} {s : Shared} {K : PySem.W.Frag} {x y C : Addr} {ox oy : Obj} {dx dy : Option Obj}
/-- what one side says of the other -/
theorem asked_eq (kin : K.In s.heap) (I : PySem.W.InstAt s.heap x ox C dx) (J : s.heap.get? y = some oy) (c : EqC K C) {r : Option Value} (hr : if x = y then r = some (.bool true) else r = none) :
    wpAny (model prog w) A (tryCompare (.ref x) "__eq__" (.ref y)) (fun v s' => v = r ∧ s' = s) E s := by
  unfold tryCompare
  refine wpAny_bind (HN.ifBound_objEq kin I c.own (wpAny_call (codeAny_call_builtin F.cmp_object.eq.plain F.cmpEntry_eq
    (PySem.W.check_slot F.cmpKind_eq F.cmpSplit_eq (I.type.andThen (PySem.W.looks_mroIn kin c.top)) (F.cmpArgs_eq _ _) ?_))))
  by_cases e : x = y
  · subst e
    rw [if_pos rfl] at hr
    exact objEq_entry_same (wpAny_pure ⟨hr.symm, rfl⟩)
  · rw [if_neg e] at hr
    refine objEq_entry_other e I.at_ J (fun z => ?_) (wpAny_pure ⟨hr.symm, rfl⟩)
    rw [I.cls] at z
    cases z
theorem inst_eq (room : A.units < cLine) (kin : K.In s.heap) (I : PySem.W.InstAt s.heap x ox C dx) (J : PySem.W.InstAt s.heap y oy C dy) (c : EqC K C) : SeqAt.RcAt A s (.ref x) (.ref y) (decide (x = y)) := fun prog w E Q q => by
  simp only [richCompare, cmpInfo_Eq, oneThing_ref]
  refine wpAny_holding (wpAny_bind (wpAny_cRoomFor room ?_))
  refine wpAny_bind (I.type.here (wpAny_bind (J.type.here ?_)))
  rw [if_neg (by simp)]
  refine wpAny_bind (wpAny_pure ?_)
  by_cases e : x = y
  · subst e
    rw [decide_eq_true rfl] at q
    simp only [Bool.false_eq_true, if_false]
    refine wpAny_bind (wpAny_mono (asked_eq kin I J.at_ c (r := some (.bool true)) (by rw [if_pos rfl])) (fun v s1 z => ?_) fun _ _ z => z)
    obtain ⟨rfl, rfl⟩ := z
    exact wpAny_pure q
  · rw [decide_eq_false e] at q
    simp only [Bool.false_eq_true, if_false, Bool.not_false, if_true]
    refine wpAny_bind (wpAny_mono (asked_eq kin I J.at_ c (r := none) (by rw [if_neg e])) (fun v s1 z => ?_) fun _ _ z => z)
    obtain ⟨rfl, rfl⟩ := z
    refine wpAny_bind (wpAny_mono (asked_eq kin J I.at_ c (r := none) (by rw [if_neg (Ne.symm e)])) (fun v s1 z => ?_) fun _ _ z => z)
    obtain ⟨rfl, rfl⟩ := z
    refine wpAny_bind (wpAny_rule (wpAny_bind (wpAny_isSame_ref_other e I.at_ J.at_ (fun z => ?_) (wpAny_pure q))))
    rw [I.cls] at z
    cases z
/-- two objects, equal by richCompare -/
theorem eq_of_rc {b : Bool} (ne : x ≠ y) (h : SeqAt.RcAt A s (.ref x) (.ref y) b) : SeqAt.EqAt A s (.ref x) (.ref y) b := fun prog w E Q q => by
  unfold eqBool
  refine wpAny_holding (wpAny_ite_split (fun z => absurd (eq_of_beq z) fun z => ne (Value.ref.inj z)) (fun _ => ?_))
  exact wpAny_bind (h prog w E _ (wpAny_truthy_bool q))
end
section
variable {X : Cx} {K : PySem.W.Frag} {σ : L2.St} {H : Hp} {Q : VK}
def rEqI (K : PySem.W.Frag) : R2 := fun x y H Q => ∃ (a b C da db : Addr) (fa fb : List (Str × V)), x = .ref a ∧ y = .ref b ∧ H a = some (.ins C da fa) ∧ H b = some (.ins C db fb) ∧ EqC K C ∧ Q (.bl (decide (a = b))) H
theorem eqIK (hK : X.K = K) (hu : X.A.units + 64 < cLine) : OpR X (compareOp .Eq) (rEqI K) := by
  subst hK
  intro pins s σ H x y v u Q I rx ry h
  obtain ⟨a, b, C, da, db, fa, fb, rfl, rfl, ha, hb, c, q⟩ := h
  cases rx
  cases ry
  obtain ⟨_, oa, _⟩ := ins_get I.hok ha
  obtain ⟨_, ob, _⟩ := ins_get I.hok hb
  obtain ⟨_, ja, _⟩ := oa.look
  obtain ⟨_, jb, _⟩ := ob.look
  exact inst_eq (by omega) I.kIn ja jb c _ _ _ _ ⟨.bl _, H, I, rfl, q⟩
theorem s_eqI {a b C da db : Addr} {fa fb : List (Str × V)} (ha : H a = some (.ins C da fa)) (hb : H b = some (.ins C db fb)) (c : EqC K C) (q : Q (.bl (decide (a = b))) H) : rEqI K (.ref a) (.ref b) H Q := ⟨a, b, C, da, db, fa, fb, rfl, rfl, ha, hb, c, q⟩
/-- lists of pairs (an object, a number), pair by pair the same -/
def rNePairs (K : PySem.W.Frag) : R2 := fun x y H Q => ∃ (a b : Addr) (ps : List (Addr × Addr × Addr × Int)), x = .ref a ∧ y = .ref b ∧ SqL K H a (ps.map fun p => .ref p.1) ∧ SqL K H b (ps.map fun p => .ref p.2.1) ∧
  (∀ p ∈ ps, SqT K H p.1 [.ref p.2.2.1, .int p.2.2.2] ∧ SqT K H p.2.1 [.ref p.2.2.1, .int p.2.2.2]) ∧ Q (.bl false) H
theorem all_true {n : Nat} : ((List.range n).all fun _ => true) = true := List.all_eq_true.mpr fun _ _ => rfl
theorem nePK (hK : X.K = K) (hu : X.A.units + 64 < cLine) : OpR X (compareOp .NotEq) (rNePairs K) := by
  subst hK
  intro pins s σ H x y v u Q I rx ry h
  obtain ⟨a, b, ps, rfl, rfl, ha, hb, hp, q⟩ := h
  cases rx
  cases ry
  obtain ⟨us, r1, p1, _⟩ := I.list ha
  obtain ⟨ws, r2, p2, _⟩ := I.list hb
  have l1 := r1.length
  have l2 := r2.length
  rw [List.length_map] at l1 l2
  have z := SeqAt.RcNeAt.lists (A := X.A) (e := fun _ => true) p1.isList p2.isList (by simp only [List.size_toArray]; omega) (by omega) fun j h1 h2 => by
    simp only [List.size_toArray] at h1 h2
    have hj : j < ps.length := by omega
    obtain ⟨u1, e1, w1⟩ := r1.get (i := j) (x := .ref ps[j].1) (by rw [List.getElem?_map, List.getElem?_eq_getElem hj]; rfl)
    obtain ⟨u2, e2, w2⟩ := r2.get (i := j) (x := .ref ps[j].2.1) (by rw [List.getElem?_map, List.getElem?_eq_getElem hj]; rfl)
    cases w1
    cases w2
    have g1 : us.toArray[j] = .ref ps[j].1 := by
      rw [List.getElem?_eq_getElem h1] at e1
      simpa using e1
    have g2 : ws.toArray[j] = .ref ps[j].2.1 := by
      rw [List.getElem?_eq_getElem h2] at e2
      simpa using e2
    rw [g1, g2]
    by_cases same : ps[j].1 = ps[j].2.1
    · rw [same]
      exact SeqAt.EqAt.same _
    refine eq_of_rc same ?_
    obtain ⟨t1, t2⟩ := hp ps[j] (List.getElem_mem hj)
    obtain ⟨i1, m1, q1, _⟩ := I.tuple t1
    obtain ⟨i2, m2, q2, _⟩ := I.tuple t2
    obtain ⟨c1, d1, rfl, f1, k1⟩ := vals2 m1
    obtain ⟨c2, d2, rfl, f2, k2⟩ := vals2 m2
    cases f1
    cases f2
    obtain ⟨k1t, rfl⟩ := k1
    obtain ⟨k2t, rfl⟩ := k2
    have room : X.A.in1.units < cLine := by show X.A.units + 1 < cLine; omega
    exact SeqAt.RcAt.tuples (e := fun _ => true) q1 q2 room fun i g1 g2 => by
      match i, g1, g2 with
      | 0, _, _ => exact SeqAt.EqAt.same _
      | 1, _, _ => simpa using SeqAt.EqAt.int_int ps[j].2.2.2 k1t ps[j].2.2.2 k2t
  rw [all_true] at z
  exact z _ _ _ _ ⟨.bl false, H, I, rfl, q⟩
theorem isiTK (hK : X.K = K) : CallR X (.builtin "isinstance") (rIsiT K) := hK ▸ call_isiT
theorem s_isiT2 {x : V} {tp C D : Addr} {t : Value} {b d : Bool} (ht : H tp = some (.tup [.ref C, .ref D])) (ty : TyX K H x t) (k1 : PySem.W.kitOne K t (.ref C) = some b) (k2 : PySem.W.kitOne K t (.ref D) = some d) (q : Q (.bl (b || d)) H) :
    rIsiT K [x, .ref tp] H Q := by
  refine ⟨x, tp, [.ref C, .ref D], t, [.ref C, .ref D], b || d, rfl, ht, .cons (.own C) (.cons (.own D) .nil), ty, kitAny_cons k1 (fun e => ?_) (fun e => by rw [e]; rfl), q⟩
  subst e
  refine kitAny_cons k2 (fun e => ?_) (fun e => by rw [e]; rfl)
  subst e
  exact kitAny_nil
theorem s_lstRg1 {ta : TE} (h : ta σ H fun x H1 => ∃ n, x = .int n ∧ RgOk 0 n ∧ ∀ q, H1 q = none → Q (.ref q) (upd H1 q (.lst (rgV 0 n)))) : tLstRg (tRg1 ta) σ H Q := h
theorem s_vei {ta : TA} (h : ta σ H fun vs H1 => ∃ (a C : Addr) (ws : List V), vs = .ref a :: ws ∧ ws.length ≤ 1000 ∧ OexC K C ∧ H1 a = some (exo a C none) ∧ Q .non H1) : tVeI K ta σ H Q := h
theorem s_ost {f : Str} {to te : TE} {D : Ends} (h : te σ H fun y H1 => to σ H1 fun x H2 => ∃ a C : Addr, x = .ref a ∧ OexC K C ∧ PySem.W.findIn K (.ref C) f = some none ∧
    ((H2 a = some (exo a C none) ∧ ∀ dx, H2 dx = none → dx ≠ a → D.nx σ (upd (upd H2 dx (exd dx [(f, y)])) a (exo a C (some dx)))) ∨
      ∃ (dx : Addr) (fs : List (Str × V)), H2 a = some (exo a C (some dx)) ∧ H2 dx = some (exd dx fs) ∧ fs.length ≤ 900 ∧ D.nx σ (upd H2 dx (exd dx ((f, y) :: fs))))) : tOst K f to te D σ H := h
theorem s_mkO {C : Addr} {sp : Sp} {dvs : List V} {ta : TA} {R : XK} (h : ta σ H fun vs H1 => vs.length ≤ 1000 ∧ ∀ a, H1 a = none → sp (.ref a :: (vs ++ dvs)) (upd H1 a (exo a C none))
    (fun v H2 => v = .non ∧ ∃ (d : Addr) (fs : List (Str × V)), H2 a = some (exo a C (some d)) ∧ H2 d = some (exd d fs) ∧ H1 d = none ∧ R (.ref C) (some d) (upd (del H2 a) d (.xd fs))) (fun _ _ _ => False)) : tMkO C sp dvs ta σ H R := h
theorem s_callS {sp : Sp} {E : L2.St → XK} {t : TA} (h : t σ H fun vs H1 => sp vs H1 Q (E σ)) : tCallS sp E t σ H Q := h
theorem s_xf {a : Addr} {cls : Value} {d : Option Addr} {C : Addr} {f : Str} {te : TE} (h : te σ H fun x H1 => x = .ref a ∧ cls = .ref C ∧ ∃ (dd : Addr) (fs : List (Str × V)) (v : V), d = some dd ∧ H1 dd = some (.xd fs) ∧ fs.lookup f = some v ∧ Q v H1) : tXf a cls d C f te σ H Q := h
/-- an except clause's class, by what is asked of it -/
theorem exm_sub {K : PySem.W.Frag} {t : Value} {C : Addr} {b : Bool} (h1 : PySem.W.subIn K (.ref C) (.type "BaseException") = some true) (hc : PySem.W.isClsIn K C = true) (ht : PySem.W.typeIn K (.ref C) = some (.type "type"))
    (hs : PySem.W.subIn K t (.ref C) = some b) : PySem.W.exmOne K t (.ref C) = some b := by
  unfold PySem.W.exmOne
  rw [h1, if_pos (beq_self_eq_true _)]
  unfold PySem.W.kitCls
  dsimp only
  rw [if_pos (by rw [Bool.and_eq_true]; exact ⟨hc, by rw [ht]; exact beq_self_eq_true _⟩)]
  exact hs
/-- facts of an own exception class with an __init__: what its making asks, what reading its fields asks -/
structure ExcC (K : PySem.W.Frag) (C f : Addr) : Prop where
  ox : OexC K C
  ic : PySem.W.findIn K (.ref C) "__init__" = some (some (.ref f))
  ti : PySem.W.typeIn K (.ref f) = some (.type "function")
/-- a def of the text that may raise -/
def DnX (P : Program) (w : World) (K : PySem.W.Frag) (mg : Str → Option Value) (base : Heap) (k : Nat) (x : Str) (ps : List Str) (sp : Sp) : Prop :=
  ∃ (f : Addr) (fd : FuncData), FnOk P w K mg base (L2.CX P w) k f fd ps sp ∧ mg x = some (.ref f) ∧ PySem.W.keepIn K (.ref f) = true ∧ Binds K fd ps []
def DxF (P : Program) (w : World) (K : PySem.W.Frag) (mg : Str → Option Value) (base : Heap) (k : Nat) (C : Addr) (ps : List Str) (sp : Sp) : Prop :=
  ∃ (f : Addr) (fd : FuncData), FnOk P w K mg base CX0 k f fd ps sp ∧ ExcC K C f ∧ Binds K fd ps []
end
end HL

/-! HLq: repr of data: what it asks, how long it gets. -/
namespace HL
open PySem PySem.Spec PyProof.Rows L2 TL
/-! shown: how long -/
theorem short_str {z : Str} (h : OkL (tl z)) : PyData.leavesShort 410 (.str z) = true := by
  simp only [PyData.leavesShort, List.all_eq_true, decide_eq_true_eq]
  intro c hc
  exact Nat.lt_of_lt_of_le (h c hc) (by decide)
theorem short_all {xs : List PyData} (h : ∀ x ∈ xs, PyData.leavesShort 410 x = true) : PyData.leavesShortAll 410 xs = true := by
  induction xs with
  | nil => rfl
  | cons x r ih =>
    simp only [PyData.leavesShortAll, Bool.and_eq_true]
    exact ⟨h x List.mem_cons_self, ih fun y hy => h y (List.mem_cons_of_mem _ hy)⟩
theorem showable_all {xs : List PyData} (h : ∀ x ∈ xs, PyData.showable x = true) : PyData.showableAll xs = true := by
  induction xs with
  | nil => rfl
  | cons x r ih =>
    simp only [PyData.showableAll, Bool.and_eq_true]
    exact ⟨h x List.mem_cons_self, ih fun y hy => h y (List.mem_cons_of_mem _ hy)⟩
theorem noDict_all {xs : List PyData} (h : ∀ x ∈ xs, PyData.hasDict x = false) : PyData.hasDictAll xs = false := by
  induction xs with
  | nil => rfl
  | cons x r ih =>
    simp only [PyData.hasDictAll, Bool.or_eq_false_iff]
    exact ⟨h x List.mem_cons_self, ih fun y hy => h y (List.mem_cons_of_mem _ hy)⟩
theorem depth_all {xs : List PyData} {n : Nat} (h : ∀ x ∈ xs, PyData.depth x ≤ n) : PyData.depthAll xs ≤ n := by
  induction xs with
  | nil => exact Nat.zero_le _
  | cons x r ih =>
    simp only [PyData.depthAll]
    exact Nat.max_le.mpr ⟨h x List.mem_cons_self, ih fun y hy => h y (List.mem_cons_of_mem _ hy)⟩
theorem bulk_all {xs : List PyData} {n : Nat} (h : ∀ x ∈ xs, PyData.bulk x ≤ n) : PyData.bulkAll xs ≤ xs.length * (n + 1) := by
  induction xs with
  | nil => exact Nat.zero_le _
  | cons x r ih =>
    have h1 := h x List.mem_cons_self
    have h2 := ih fun y hy => h y (List.mem_cons_of_mem _ hy)
    simp only [PyData.bulkAll, List.length_cons, Nat.add_mul]
    omega
/-- what repr asks -/
structure ShowOk (x : PyData) (n k : Nat) : Prop where
  sh : x.leavesShort 410 = true
  ok : x.showable = true
  nd : x.hasDict = false
  dp : x.depth ≤ k
  bk : x.bulk ≤ n
theorem ShowOk.tup {xs : List PyData} {n k : Nat} (h : ∀ x ∈ xs, ∃ n, ShowOk x n k) (b : PyData.bulkAll xs ≤ n) : ShowOk (.tuple xs) n (k + 1) := by
  refine ⟨?_, ?_, ?_, ?_, ?_⟩
  · simp only [PyData.leavesShort]
    exact short_all fun x hx => (h x hx).choose_spec.sh
  · simp only [PyData.showable]
    exact showable_all fun x hx => (h x hx).choose_spec.ok
  · simp only [PyData.hasDict]
    exact noDict_all fun x hx => (h x hx).choose_spec.nd
  · simp only [PyData.depth]
    have := depth_all (n := k) fun x hx => (h x hx).choose_spec.dp
    omega
  · simp only [PyData.bulk]
    exact b
theorem ShowOk.str {z : Str} {k : Nat} (h : OkL (tl z)) : ShowOk (.str z) z.length k := ⟨short_str h, by simp only [PyData.showable], by simp only [PyData.hasDict], by simp only [PyData.depth]; exact Nat.zero_le _, by simp only [PyData.bulk]; exact Nat.le_refl _⟩
theorem ShowOk.int {n : Int} {k : Nat} (h : n.natAbs < 10 ^ 60) : ShowOk (.int n) 0 k := by
  refine ⟨?_, ?_, by simp only [PyData.hasDict], by simp only [PyData.depth]; exact Nat.zero_le _, by simp only [PyData.bulk]; exact Nat.zero_le _⟩
  · simp only [PyData.leavesShort, decide_eq_true_eq]
    have e : PyData.shown (.int n) = Str.ofString (toString n) := by simp only [PyData.shown]
    rw [e, PySem.ofString_length]
    exact Nat.le_trans (int_text_length_le10 (by decide) h) (by decide)
  · simp only [PyData.showable, decide_eq_true_eq]
    by_cases z : n.natAbs = 0
    · rw [z]; decide
    · exact (Nat.log2_lt z).mpr (Nat.lt_of_lt_of_le h (by decide +kernel))
theorem ShowOk.weak {x : PyData} {n m k l : Nat} (h : ShowOk x n k) (a : n ≤ m) (b : k ≤ l) : ShowOk x m l := ⟨h.sh, h.ok, h.nd, Nat.le_trans h.dp b, Nat.le_trans h.bk a⟩
/-- repr of a tuple that is laid out -/
theorem rep_show {K : PySem.W.Frag} {H : Hp} {Q : VK} {t : Addr} {xs : List PyData} {n : Nat} (d : Dp K H (.ref t) (.tuple xs)) (s : ShowOk (.tuple xs) n 60) (b : n ≤ 30000) (q : Q (.str (PyData.shown (.tuple xs))) H) : rReprD K [.ref t] H Q := by
  refine ⟨_, _, rfl, d, rfl, s.ok, s.nd, s.dp, ?_, q⟩
  have e := PyData.shown_le_bulk 410 (by decide) _ s.sh
  have := s.bk
  have := line63
  rw [sizeLine_eq]
  omega
end HL

/-! HLs: len(set(t)), t a tuple of texts. -/
namespace HL
open PySem PySem.Spec PyProof.Rows L2
abbrev eS (led : Bool) : Obj := { cls := .type "set", dict := none, data := .set #[] 0 (.fresh 0 0 led) }
/-- the first i of ks, each once: how many -/
def unlike (ks : List Str) : Nat → Nat
  | 0 => 0
  | i + 1 => if (ks.take i).any (· == ks.getD i Str.empty) then unlike ks i else unlike ks i + 1
theorem unlike_le (ks : List Str) : ∀ i, unlike ks i ≤ i
  | 0 => Nat.le_refl 0
  | i + 1 => by
    have := unlike_le ks i
    unfold unlike
    split <;> omega
abbrev metS (ks : List Str) (i : Nat) : Str → Bool := fun k => (ks.take i).any (· == k)
theorem metS_succ {ks : List Str} {i : Nat} (h : i < ks.length) (k : Str) : (metS ks i k || decide (k = ks.getD i Str.empty)) = metS ks (i + 1) k := by
  have e : ks.take (i + 1) = ks.take i ++ [ks.getD i Str.empty] := by
    rw [List.take_add_one, List.getD_eq_getElem?_getD, List.getElem?_eq_getElem h] <;> rfl
  unfold metS
  rw [e, List.any_append]
  congr 1
  by_cases c : k = ks.getD i Str.empty
  · subst c
    simp
  · have c2 : (ks.getD i Str.empty == k) = false := by simpa using fun z => c z.symm
    rw [decide_eq_false c, List.any_cons, List.any_nil, c2]
    rfl
section
variable {prog : Program} {w : World} {A : Around} {E : Value → Shared → Prop} {s : Shared}
/-- the loop that lays what a walk yields into the set -/
theorem lay_all {R : Result → Shared → Prop} {I : Addr} {fp wr : List Addr} {G : Array GenState → Array GenState → Prop} {n : Nat} {P : Nat → Value → Prop} {St : Nat → Shared → Prop}
    (W : WalksS prog w A.in1 I fp wr G n P St) {S : Addr} (far : S ∉ fp) (ks : List Str) (many : ks.length = n) (few : n + 1 < scanBound)
    (is : ∀ i v, P i v → ∃ t, v = .str (ks.getD i Str.empty) t) : ∀ (m : Nat) (i : Nat) (s : Shared), m + i = n → St i s →
      s.heap.SetOf (strKind prog w) S (metS ks i) (unlike ks i) →
      (∀ s', Moved (S :: wr) G s s' → s'.heap.SetOf (strKind prog w) S (metS ks n) (unlike ks n) → R (.ok (.ret .none)) s') →
      codeAny (model prog w) A (.builtin "set.update.loop" ⟨[.ref S, .ref I], []⟩) R s := by
  have off : S ∉ wr := fun z => far (W.sub _ z)
  have more : ∀ b ∈ wr, b ∈ S :: wr := fun _ z => .tail _ z
  intro m
  induction m with
  | zero =>
    intro i s e st held fin
    obtain rfl : i = n := by omega
    apply codeAny_builtin PyProof.Rows.F.entry_set_update_loop
    rw [Around.under_plainId PyProof.Rows.F.plain_set_update_loop _]
    show wpAny _ A.in1 (pyNext (.ref I) >>= _) _ _ s
    apply wpAny_bind
    apply W.done s _ _ st
    intro s' mv
    obtain ⟨o, es, ep, tb, at_, rest⟩ := held
    exact wpAny_pure (fin s' (mv.mono more) ⟨o, es, ep, tb, mv.heap S _ off at_, rest⟩)
  | succ m ih =>
    intro i s e st held fin
    have lt : i < n := by omega
    apply codeAny_builtin PyProof.Rows.F.entry_set_update_loop
    rw [Around.under_plainId PyProof.Rows.F.plain_set_update_loop _]
    show wpAny _ A.in1 (pyNext (.ref I) >>= _) _ _ s
    apply wpAny_bind
    apply W.item i s _ _ lt st
    intro v s' hv st' mv
    obtain ⟨t, rfl⟩ := is i v hv
    have held' : s'.heap.SetOf (strKind prog w) S (metS ks i) (unlike ks i) := by
      obtain ⟨o, es, ep, tb, at_, rest⟩ := held
      exact ⟨o, es, ep, tb, mv.heap S _ off at_, rest⟩
    show wpAny _ A.in1 (holding [Value.str (ks.getD i Str.empty) t] (setAdd S (.str (ks.getD i Str.empty) t)) >>= _) _ _ s'
    apply wpAny_bind
    apply wpAny_holding
    unfold setAdd
    apply wpAny_holding
    apply wpAny_bind
    apply (strKind prog w).pyHash (k := ks.getD i Str.empty) (strKind_is _ _ _ _)
    have room : unlike ks i + 1 < scanBound := by
      have := unlike_le ks i
      omega
    apply wpAny_setAddHashed_of (knd := strKind prog w) (s := { s' with toks := s'.toks + 1 }) (strKind_is _ _ _ _) rfl held' room
    intro h' same held2
    have held3 : h'.SetOf (strKind prog w) S (metS ks (i + 1)) (unlike ks (i + 1)) :=
      SetOf_congr held2 (fun k => metS_succ (many ▸ lt) k) rfl
    apply wpAny_pure
    refine ⟨plainId_quiet PyProof.Rows.F.plain_set_update_loop _, ih (i + 1) _ (by omega) ?_ held3 ?_⟩
    · apply W.frame _ s' _ _ st' (Nat.le_succ _)
      intro b hb o z
      rw [same.2 b (fun y : b = S => far (y ▸ hb))]
      exact z
    · intro s'' mv2 held4
      apply fin s'' _ held4
      apply Moved.trans W.gtrans _ mv2
      apply (mv.mono more).then_heap (Nat.le_succ _)
      intro b o hb z
      rw [same.2 b (fun y : b = S => hb (y ▸ List.mem_cons_self))]
      exact z
/-- what set(t) leaves: a new set, all else as it was -/
def SetLeft (prog : Program) (w : World) (s : Shared) (ks : List Str) (s' : Shared) : Prop :=
  ∃ (h' : Heap) (tk : Nat), s' = { s with heap := h', toks := tk } ∧ h'.SetOf (strKind prog w) s.heap.objs.size (metS ks ks.length) (unlike ks ks.length) ∧
    ∀ b o, b < s.heap.objs.size → s.heap.get? b = some o → h'.get? b = some o
/-- an answer that is none but a value told by W -/
theorem told {M : Model} {B : Around} {c : Code} {W : Value → Shared → Prop} {R : Result → Shared → Prop} {s1 : Shared}
    (run : codeAny M B c (wants W E) s1) (good : ∀ v s2, W v s2 → R (.ok (.ret v)) s2) (bad : ∀ e s2, E e s2 → R (.error e) s2) : codeAny M B c R s1 :=
  codeAny_mono run fun
    | .error e, s2, z => bad e s2 z
    | .ok (.ret v), s2, z => good v s2 z
    | .ok .next, _, z | .ok .brk, _, z | .ok .cont, _, z => nomatch z
/-- set(x), of any x: what the new set's init leaves is what the call leaves -/
theorem set_of {x : Value} {R : Shared → Prop} {Q : Value → Shared → Prop} (calm : A.handled = none)
    (init : ∀ (B : Around) (led : Bool), B.handled = none → codeAny (model prog w) B (.call (.builtin "set.__init__") ⟨[.ref s.heap.objs.size, x], []⟩)
      (wants (fun r s2 => r = .none ∧ R s2) E) { s with heap := s.heap.push (eS led) }) (q : ∀ s2, R s2 → Q (.ref s.heap.objs.size) s2) :
    wpAny (model prog w) A (call (.type "set") [x]) Q E s := by
  have F := PySem.F.called_set
  have ⟨_, _, mro⟩ := F.mro
  have sub := F.sub; have made := F.made; have may := F.canCreate; have other := F.notType
  have by1 := PySem.F.typeCall_set_1 x
  apply wpAny_call
  apply codeAny_of_tree
  change wpAny (model prog w) _ (callAny (Value.type "set") ⟨[x], []⟩) _ _ s
  refine wpAny_pure ⟨Code.quiet_builtin _ (by decide +kernel), ?_⟩
  apply codeAny_builtin PySem.F.entry_type_call
  rw [Around.under_plain (weight_type_call_type "set" [x] []) rfl]
  repeat any_goals first | assumption | wp_step
  refine told (code_set_new_1 x (E := E) (Q₁ := fun v s2 => ∃ led, v = .ref s.heap.objs.size ∧ s2 = { s with heap := s.heap.push (eS led) }) fun led => ⟨led, rfl, rfl⟩) ?_ fun _ _ z => z
  rintro _ _ ⟨led, rfl, rfl⟩
  have of : Shared.TypeIs { s with heap := s.heap.push (eS led) } (.ref s.heap.objs.size) "set" := ⟨_, Heap.get?_push_size _ rfl, rfl⟩
  have look := F.init.lookup
  have bound := F.init.bind (.ref s.heap.objs.size)
  repeat any_goals first | assumption | wp_step
  refine told (init _ led (by simpa using calm)) ?_ fun _ _ z => z
  rintro _ s2 ⟨rfl, left⟩
  repeat any_goals first | assumption | wp_step
  exact q s2 left
/-- the init of an empty set by a tuple of texts -/
theorem init_tup {l : Addr} {items : Array Value} {ks : List Str} {led : Bool} (hh : A.handled = none) (hl : s.heap.IsTuple l items)
    (hi : StrsAre items.toList ks) (few : ks.length + 1 < scanBound) :
    codeAny (model prog w) A (.call (.builtin "set.__init__") ⟨[.ref s.heap.objs.size, .ref l], []⟩)
      (wants (fun r s₂ => r = .none ∧ SetLeft prog w s ks s₂) E) { s with heap := s.heap.push (eS led) } := by
  have many : items.size = ks.length := by simpa using hi.len_eq
  have ⟨⟨c0, d0, k0, sl⟩, at_, ec, nl, ed⟩ := hl
  cases (show c0 = .type "tuple" from ec)
  cases (show k0 = .seq items nl from ed)
  have below : l < s.heap.objs.size := Heap.lt_size at_
  have stays : ∀ b o, s.heap.get? b = some o → (s.heap.push (eS led)).get? b = some o := fun _ _ => Heap.get?_push_of_some _
  have made : (s.heap.push (eS led)).get? s.heap.objs.size = some (eS led) := Heap.get?_push_size _ rfl
  have isT : (s.heap.push (eS led)).IsTuple l items := ⟨_, stays _ _ at_, rfl, nl, rfl⟩
  have at1 := stays _ _ at_
  have size1 : (s.heap.push (eS led)).objs.size = s.heap.objs.size + 1 := Heap.size_push ..
  have no1 := PySem.F.sub_tuple_set
  have no2 := PySem.F.sub_tuple_frozenset
  have no3 : (Value.type "tuple" == Value.type "dict") = false := by decide
  refine codeAny_call_builtin PySem.F.called_set.init.plain PySem.F.entry_set_init (check_set_init_1 ⟨_, made, rfl⟩ ?_)
  unfold Builtin.«set.__init__» noKeywords Builtin.Frozenset.updateFrom
  generalize hPI : pyIter = PI
  wp_walk
  subst hPI
  refine wpAny_pyIter_tuple isT (wpAny_bind (wpAny_runValue ?_))
  have other : ∀ n : Nat, n ≠ l → n ≠ s.heap.objs.size + 1 → n ∉ [(s.heap.push (eS led)).objs.size, l] := by
    intro n n1 n2
    simp [size1, n1, n2]
  have W := Walks.tuple (prog := prog) (w := w) (A := A.in1.in1) (by simp [hh]) (s.heap.push (eS led)).objs.size l (by rw [size1]; unfold Addr at *; omega) items
  have off := other s.heap.objs.size (by unfold Addr at *; omega) (by omega)
  apply lay_all W.toS off ks many.symm (by omega)
    (fun i v hv => SS.strs_at hi i v (by simpa using hv)) items.size 0 _ (Nat.add_zero _) ⟨⟨_, Heap.get?_push_size _ rfl, rfl, rfl⟩, isT.push _⟩
  · exact SetOf_congr ((setObjOf_fresh (knd := strKind prog w) led).setOf (Heap.get?_push_of_some _ made) (by decide)) (fun _ => rfl) rfl
  · intro s' mv held
    refine wpAny_pure (wpAny_pure ⟨rfl, s'.heap, s'.toks, ?_, many ▸ held, fun b o lt e => mv.heap b o ?_ (Heap.get?_push_of_some _ (stays _ _ e))⟩)
    · obtain ⟨h', g', d', tk', os'⟩ := s'
      cases (show g' = s.gens from mv.gens)
      cases (show d' = s.drawn from mv.drawn)
      cases (show os' = s.os from mv.os)
      rfl
    · simp only [List.mem_cons, List.not_mem_nil, or_false, size1]
      unfold Addr at *
      omega
theorem set_tup {l : Addr} {items : Array Value} {ks : List Str} {Q : Value → Shared → Prop} (hh : A.handled = none) (hl : s.heap.IsTuple l items)
    (hi : StrsAre items.toList ks) (few : ks.length + 1 < scanBound) (q : ∀ s', SetLeft prog w s ks s' → Q (.ref s.heap.objs.size) s') :
    wpAny (model prog w) A (call (.type "set") [.ref l]) Q E s :=
  set_of hh (fun _ _ calm => init_tup calm hl hi few) q
end
theorem strsAre : ∀ {ks : List Str} {us : List Value}, Vals (ks.map V.str) us → StrsAre us ks
  | [], _, .nil => .nil
  | k :: ks, _, .cons r t => by
    cases r with
    | intro u e => subst e; exact .cons k u (strsAre t)
def tLenSetT (K : PySem.W.Frag) (ta : TE) : TE := fun σ H Q =>
  ta σ H fun x H1 => ∃ (l : Addr) (ks : List Str), x = .ref l ∧ SqT K H1 l (ks.map V.str) ∧ ks.length ≤ 100 ∧ Q (.int (unlike ks ks.length : Nat)) H1
theorem pe_lenSetT {X : Cx} {K : PySem.W.Frag} (hK : X.K = K) {a : Expr} {ta : TE} {p p2 q pos : Pos} (calm : X.calm = true)
    (g1 : Gl X "len") (m1 : X.mg "len" = none) (g2 : Gl X "set") (m2 : X.mg "set" = none) (ha : PE X a ta)
    (na : starEach [a] X.env = (false, eval a X.env) :: starEach [] X.env := by rfl) :
    PE X (.Call (.Name "len" p) [.Call (.Name "set" p2) [a] [] q] [] pos) (tLenSetT K ta) where
  run := by
    subst hK
    intro pins s σ H Q I h
    apply Call_ (ld_blt I g1 m1 boot_len ?_)
    apply callWith_builtin1 (args_cons ?_ rfl) rfl rfl
    apply Call_ (ld_blt I g2 m2 boot_set ?_)
    apply callWith_type1 (args_cons (thn (ha.run pins s σ H _ I h) ?_) na) na rfl
    rintro v s1 ⟨x, H1, J, rv, l, ks, rfl, hq, few, hQ⟩
    apply args_nil
    cases rv
    obtain ⟨its, vals, isT, _⟩ := J.tuple hq
    apply set_tup (J.ok.hd calm) isT (strsAre (by simpa using vals)) (by unfold scanBound; omega)
    rintro s2 ⟨h', tk, rfl, ⟨o, es, ep, tb, at_, ex, hd, _, _, _, fits, many⟩, keep⟩
    apply args_nil
    have J2 : Inv X pins σ H1 { s1 with heap := h', toks := tk } := J.kept fun b o e => keep b o (Heap.lt_size e) e
    have small := unlike_le ks ks.length
    apply call_len_set at_ ex hd fits (by rw [many]; omega)
    exact ⟨.int (unlike ks ks.length : Nat), H1, J2.tok _, ⟨_, by rw [many]⟩, hQ⟩
section
variable {σ : L2.St} {H : Hp} {Q : VK} {K : PySem.W.Frag}
theorem s_lenSet {te : TE} (h : te σ H fun x H1 => ∃ (l : Addr) (ks : List Str), x = .ref l ∧ SqT K H1 l (ks.map V.str) ∧ ks.length ≤ 100 ∧ Q (.int (unlike ks ks.length : Nat)) H1) : tLenSetT K te σ H Q := h
end
end HL

/-! HLr: rows, in plain Lean. -/
namespace HL
open PySem PySem.Spec PyProof.Rows L2 TL
def faultW : List Str := ["NOMODULE", "NONAME", "HALF", "FLAT", "NOTASK", "ALL"]
def leadW : List Str := ["now", "take", "late", "ask"]
def isWordS (z : Str) : Bool := isNameL (tl z) || decide (z ∈ faultW)
/-- the words that a try catches, as drawn -/
structure OkWords (ws : List Str) : Prop where
  nd : ws.Nodup
  all : ∀ z ∈ ws, isWordS z = true
  few : ws.length ≤ 100
abbrev sD (l : List Nat) : PyData := .str (mkS l)
/-- a row as drawn, no try -/
inductive OkFlat : PyData → Prop
  | set {l : List Nat} {n : Int} : isNameL l = true → n.natAbs < 10 ^ 400 → OkFlat (.tuple [.str "set", sD l, .int n])
  | note {q : List Nat} : isPathL q = true → OkFlat (.tuple [.str "note", sD q])
  | fail {l : List Nat} : isNameL l = true → OkFlat (.tuple [.str "fail", sD l])
  | draw {l q m : List Nat} : isNameL l = true → isPathL q = true → isNameL m = true → OkFlat (.tuple [.str "draw", sD l, sD q, sD m])
  | lead {w : Str} {l q : List Nat} : w ∈ leadW → isNameL l = true → isPathL q = true → OkFlat (.tuple [.str w, sD l, sD q])
/-- a row as drawn, tries up to d one within another -/
inductive OkRow : Nat → PyData → Prop
  | flat {d : Nat} {x : PyData} : OkFlat x → OkRow d x
  | tryr {d : Nat} {a b : List PyData} {ws : List Str} : (∀ y ∈ a, OkRow d y) → OkWords ws → (∀ y ∈ b, OkRow d y) →
      OkRow (d + 1) (.tuple [.str "try", .tuple a, .tuple (ws.map .str), .tuple b])
/-- the k-th part of a tuple, a tuple -/
def partT (k : Nat) : PyData → List PyData
  | .tuple xs => match xs[k]? with
    | some (.tuple ys) => ys
    | _ => []
  | _ => []
def isTry : PyData → Bool
  | .tuple (.str w :: _) => decide (w = "try")
  | _ => false
def cntRow : Nat → PyData → Nat
  | 0, _ => 1
  | d + 1, x => if isTry x then 1 + ((partT 1 x).map (cntRow d)).sum + ((partT 3 x).map (cntRow d)).sum else 1
/-- how many rows -/
def cnts (d : Nat) (xs : List PyData) : Nat := (xs.map (cntRow d)).sum
theorem isTry_w {w : Str} (t : List PyData) (h : w ≠ "try") : isTry (.tuple (.str w :: t)) = false := decide_eq_false h
theorem OkFlat.notTry {x : PyData} (h : OkFlat x) : isTry x = false := by
  cases h with
  | set => exact isTry_w _ (by decide +kernel)
  | note => exact isTry_w _ (by decide +kernel)
  | fail => exact isTry_w _ (by decide +kernel)
  | draw => exact isTry_w _ (by decide +kernel)
  | lead hw =>
    simp only [leadW, List.mem_cons, List.not_mem_nil, or_false] at hw
    rcases hw with rfl | rfl | rfl | rfl <;> exact isTry_w _ (by decide +kernel)
theorem cntRow_flat {d : Nat} {x : PyData} (h : OkFlat x) : cntRow d x = 1 := by
  cases d with
  | zero => rfl
  | succ d => unfold cntRow; rw [h.notTry]; rfl
theorem isTry_try (t : List PyData) : isTry (.tuple (.str "try" :: t)) = true := by unfold isTry; exact decide_eq_true rfl
theorem cntRow_try (d : Nat) (a b : List PyData) (w : PyData) : cntRow (d + 1) (.tuple [.str "try", .tuple a, w, .tuple b]) = 1 + cnts d a + cnts d b := by
  unfold cntRow
  rw [isTry_try]
  rfl
theorem cnts_app (d : Nat) (xs ys : List PyData) : cnts d (xs ++ ys) = cnts d xs + cnts d ys := by unfold cnts; rw [List.map_append, List.sum_append]
theorem cnts_one (d : Nat) (x : PyData) : cnts d [x] = cntRow d x := by unfold cnts; simp
theorem cntRow_pos (d : Nat) (x : PyData) : 1 ≤ cntRow d x := by
  cases d with
  | zero => exact Nat.le_refl 1
  | succ d => unfold cntRow; split <;> omega
theorem len_le_cnts (d : Nat) : ∀ xs : List PyData, xs.length ≤ cnts d xs
  | [] => Nat.le_refl 0
  | x :: r => by
    have h1 := len_le_cnts d r
    have h2 := cntRow_pos d x
    unfold cnts at h1 ⊢
    rw [List.map_cons, List.sum_cons, List.length_cons]
    omega
mutual
theorem flat_strs : ∀ ws : List Str, flatAll (ws.map .str) = true
  | [] => rfl
  | w :: r => by
    show (flatD (.str w) && flatAll (r.map .str)) = true
    rw [flat_strs r]
    rfl
end
theorem flatAll_of : ∀ {xs : List PyData}, (∀ x ∈ xs, flatD x = true) → flatAll xs = true
  | [], _ => rfl
  | x :: r, h => by
    show (flatD x && flatAll r) = true
    rw [h x List.mem_cons_self, flatAll_of fun y hy => h y (List.mem_cons_of_mem _ hy)]
    rfl
theorem OkFlat.flat {x : PyData} (h : OkFlat x) : flatD x = true := by cases h <;> rfl
theorem OkRow.flatD : ∀ {d : Nat} {x : PyData}, OkRow d x → flatD x = true := by
  intro d
  induction d with
  | zero =>
    intro x h
    cases h with
    | flat h => exact h.flat
  | succ d ih =>
    intro x h
    cases h with
    | flat h => exact h.flat
    | tryr h1 h2 h3 =>
      show (true && (flatAll _ && (flatAll _ && (flatAll _ && true)))) = true
      rw [flatAll_of fun y hy => ih (h1 y hy), flatAll_of fun y hy => ih (h3 y hy), flat_strs]
      rfl
/-! data kept -/
theorem DpAll.snoc {K : PySem.W.Frag} {H : Hp} {v : V} {d : PyData} : ∀ {vs : List V} {ds : List PyData}, DpAll K H vs ds → Dp K H v d → DpAll K H (vs ++ [v]) (ds ++ [d])
  | _, _, .nil, h => .cons h .nil
  | _, _, .cons a b, h => .cons a (DpAll.snoc b h)
theorem DpAll.len {K : PySem.W.Frag} {H : Hp} : ∀ {vs : List V} {ds : List PyData}, DpAll K H vs ds → vs.length = ds.length
  | _, _, .nil => rfl
  | _, _, .cons _ b => congrArg (· + 1) (DpAll.len b)
theorem TupK.new {H : Hp} {t : Addr} {o : HO} (h : H t = none) : TupK H (upd H t o) := .of (W := []) (Kp.refl.upd_new h) fun x hx => absurd hx List.not_mem_nil
theorem TupK.lst {H : Hp} {l : Addr} {xs : List V} {o : HO} (h : H l = some (.lst xs)) : TupK H (upd H l o) :=
  .of (W := [l]) (Kp.refl.upd_mem List.mem_cons_self) fun x hx => by rw [List.mem_singleton.mp hx]; exact .lst h
theorem TupK.two {H H' : Hp} {p r : Addr} (k : Kp [p, r] H H') (hp : NoTup H p) (hr : NoTup H r) : TupK H H' := .of k fun x hx => by
  simp only [List.mem_cons, List.not_mem_nil, or_false] at hx
  rcases hx with rfl | rfl
  · exact hp
  · exact hr
theorem TupK.one {H H' : Hp} {p : Addr} (k : Kp [p] H H') (hp : NoTup H p) : TupK H H' := .of k fun x hx => by rw [List.mem_singleton.mp hx]; exact hp
theorem dpStrs {K : PySem.W.Frag} {H : Hp} : ∀ ws : List Str, DpAll K H (ws.map V.str) (ws.map PyData.str)
  | [] => .nil
  | x :: xs => .cons (.str x) (dpStrs xs)
theorem Kp.p_pr {p r : Addr} {A B : Hp} (k : Kp [p] A B) : Kp [p, r] A B := k.weak fun x hx => by rw [List.mem_singleton.mp hx]; exact List.mem_cons_self
theorem Kp.nil_pr {p r : Addr} {A B : Hp} (k : Kp [] A B) : Kp [p, r] A B := k.weak fun x hx => absurd hx List.not_mem_nil
theorem nin2 {a p r : Addr} (h1 : a ≠ p) (h2 : a ≠ r) : Nin a [p, r] := ⟨h1, h2, trivial⟩
/-! rows as they are judged -/
def isNameX : PyData → Bool
  | .str z => isNameL (tl z)
  | _ => false
def isPathX : PyData → Bool
  | .str z => isPathL (tl z)
  | _ => false
def isWholeX : PyData → Bool
  | .int _ => true
  | _ => false
/-- one part of a row that is no try -/
inductive Part : PyData → Prop
  | non : Part .none
  | int {n : Int} : n.natAbs < 10 ^ 400 → Part (.int n)
  | str {z : Str} : z.length ≤ 100000 → Part (.str z)
/-- a row as a text's reader makes it -/
inductive RowG : PyData → Prop
  | bare {w : Str} {ds : List PyData} : w.length ≤ 100000 → (∀ d ∈ ds, Part d) → ds.length ≤ 100000 → RowG (.tuple (.str w :: ds))
  | tryr {a b : List PyData} {ws : List Str} : (∀ y ∈ a, RowG y) → a.length ≤ 100000 → (∀ z ∈ ws, z.length ≤ 100000) → ws.length ≤ 100 → (∀ y ∈ b, RowG y) → b.length ≤ 100000 →
      RowG (.tuple [.str "try", .tuple a, .tuple (ws.map .str), .tuple b])
def nth (ds : List PyData) (k : Nat) : PyData := ds.getD k .none
/-- is_bare, of the parts behind the word w -/
def isBareX (w : Str) (t : List PyData) : Bool :=
  if w = "note" then decide (t.length = 1) && isPathX (nth t 0)
  else if w = "fail" then decide (t.length = 1) && isNameX (nth t 0)
  else if t.length < 2 then false
  else if isNameX (nth t 0) = false then false
  else if w = "set" then decide (t.length = 2) && isWholeX (nth t 1)
  else if w = "draw" then decide (t.length = 3) && (isPathX (nth t 1) && isNameX (nth t 2))
  else decide (w ∈ leadW) && (decide (t.length = 2) && isPathX (nth t 1))
/-- are_words, of texts -/
def areWordsX : PyData → Bool
  | .tuple ds => ds.all (fun d => match d with | .str z => isWordS z | _ => false) && decide (ds.map (fun d => match d with | .str z => z | _ => Str.empty)).Nodup
  | _ => false
/-- is_row_within -/
def isRowX : Nat → PyData → Bool
  | 0, .tuple (.str w :: t) => if w = "try" then false else isBareX w t
  | d + 1, .tuple (.str w :: t) => if w = "try" then decide (t.length = 3) && (areWordsX (nth t 1) &&
      ((partT 1 (.tuple (.str w :: t))).all (isRowX d) && (partT 3 (.tuple (.str w :: t))).all (isRowX d))) else isBareX w t
  | _, _ => false
theorem unlike_all (ks : List Str) : ∀ i, i ≤ ks.length → (unlike ks i = i ↔ (ks.take i).Nodup)
  | 0, _ => by simp [unlike]
  | i + 1, h => by
    have ih := unlike_all ks i (by omega)
    have le := unlike_le ks i
    have hi : i < ks.length := h
    have e : ks.take (i + 1) = ks.take i ++ [ks[i]] := by rw [List.take_add_one, List.getElem?_eq_getElem hi]; rfl
    have g : ks.getD i Str.empty = ks[i] := by rw [List.getD_eq_getElem?_getD, List.getElem?_eq_getElem hi]; rfl
    have any : (ks.take i).any (· == ks.getD i Str.empty) = decide (ks[i] ∈ ks.take i) := by
      rw [g, List.any_beq']
      exact Bool.eq_iff_iff.mpr (by simp)
    unfold unlike
    rw [any, e]
    by_cases c : ks[i] ∈ ks.take i
    · rw [if_pos (decide_eq_true c)]
      refine ⟨fun z => by omega, fun z => ?_⟩
      exact absurd rfl ((List.nodup_append.mp z).2.2 _ c _ (List.mem_singleton.mpr rfl))
    · rw [if_neg (by simpa using c)]
      refine ⟨fun z => List.nodup_append.mpr ⟨ih.mp (by omega), List.pairwise_singleton _ _, fun a ha b hb e => c (by rw [← List.mem_singleton.mp hb, ← e]; exact ha)⟩, fun z => ?_⟩
      rw [ih.mpr (List.nodup_append.mp z).1]
end HL

/-! HLt: rows as drawn are good rows. -/
namespace HL
open PySem PySem.Spec PyProof.Rows L2 TL
theorem sD_len {l : List Nat} {m : Nat} (h : l.length ≤ m) : (mkS l).length ≤ m := by rw [mkS_len]; exact h
theorem Part.name {l : List Nat} (h : isNameL l = true) : Part (sD l) := .str (sD_len (Nat.le_trans (isNameL_len h).2 (by decide)))
theorem Part.path {l : List Nat} (h : isPathL l = true) : Part (sD l) := .str (sD_len (Nat.le_trans (isPathL_facts h).2.1 (by decide)))
theorem isRowX_flat {d : Nat} {z : Str} {ds : List PyData} (h : z ≠ "try") : isRowX d (.tuple (.str z :: ds)) = isBareX z ds := by
  cases d with
  | zero => exact if_neg h
  | succ d => exact if_neg h
theorem parts1 {a : PyData} (h : Part a) : ∀ d ∈ [a], Part d := fun d hd => by rw [List.mem_singleton.mp hd]; exact h
theorem parts2 {a b : PyData} (h : Part a) (g : Part b) : ∀ d ∈ [a, b], Part d := fun d hd => by
  simp only [List.mem_cons, List.not_mem_nil, or_false] at hd
  rcases hd with rfl | rfl
  · exact h
  · exact g
theorem parts3 {a b c : PyData} (h : Part a) (g : Part b) (k : Part c) : ∀ d ∈ [a, b, c], Part d := fun d hd => by
  simp only [List.mem_cons, List.not_mem_nil, or_false] at hd
  rcases hd with rfl | rfl | rfl
  · exact h
  · exact g
  · exact k
theorem OkFlat.rowG {x : PyData} (h : OkFlat x) : RowG x := by
  cases h with
  | set h g => exact .bare (by decide +kernel) (parts2 (.name h) (.int g)) (by simp)
  | note h => exact .bare (by decide +kernel) (parts1 (.path h)) (by simp)
  | fail h => exact .bare (by decide +kernel) (parts1 (.name h)) (by simp)
  | draw h g k => exact .bare (by decide +kernel) (parts3 (.name h) (.path g) (.name k)) (by simp)
  | lead hw h g =>
    refine .bare ?_ (parts2 (.name h) (.path g)) (by simp)
    simp only [leadW, List.mem_cons, List.not_mem_nil, or_false] at hw
    rcases hw with rfl | rfl | rfl | rfl <;> decide +kernel
theorem isNameX_sD {l : List Nat} (h : isNameL l = true) : isNameX (sD l) = true := h
theorem isPathX_sD {l : List Nat} (h : isPathL l = true) : isPathX (sD l) = true := h
theorem OkFlat.isRow {x : PyData} (h : OkFlat x) (d : Nat) : isRowX d x = true := by
  have ne : ∀ {a b : Str}, decide (a = b) = false → a ≠ b := fun h => of_decide_eq_false h
  cases h with
  | @set l n h _ =>
    rw [isRowX_flat (by decide +kernel)]
    unfold isBareX
    rw [if_neg (ne (by decide +kernel)), if_neg (ne (by decide +kernel)), if_neg (by simp), if_neg (by show ¬ isNameX (sD l) = false; rw [isNameX_sD h]; simp), if_pos rfl]
    rfl
  | @note q h =>
    rw [isRowX_flat (by decide +kernel)]
    unfold isBareX
    rw [if_pos rfl]
    exact h
  | @fail l h =>
    rw [isRowX_flat (by decide +kernel)]
    unfold isBareX
    rw [if_neg (ne (by decide +kernel)), if_pos rfl]
    exact h
  | @draw l q m h g k =>
    rw [isRowX_flat (by decide +kernel)]
    unfold isBareX
    rw [if_neg (ne (by decide +kernel)), if_neg (ne (by decide +kernel)), if_neg (by simp), if_neg (by show ¬ isNameX (sD l) = false; rw [isNameX_sD h]; simp), if_neg (ne (by decide +kernel)), if_pos rfl]
    show (true && (isPathX (sD q) && isNameX (sD m))) = true
    rw [isPathX_sD g, isNameX_sD k]
    rfl
  | @lead w l q hw h g =>
    have hw2 := hw
    simp only [leadW, List.mem_cons, List.not_mem_nil, or_false] at hw2
    have n : w ≠ "try" ∧ w ≠ "note" ∧ w ≠ "fail" ∧ w ≠ "set" ∧ w ≠ "draw" := by
      rcases hw2 with rfl | rfl | rfl | rfl <;> decide +kernel
    rw [isRowX_flat n.1]
    unfold isBareX
    rw [if_neg n.2.1, if_neg n.2.2.1, if_neg (by simp), if_neg (by show ¬ isNameX (sD l) = false; rw [isNameX_sD h]; simp), if_neg n.2.2.2.1, if_neg n.2.2.2.2, decide_eq_true hw]
    exact g
theorem isWordS_len {z : Str} (h : isWordS z = true) : z.length ≤ 100000 := by
  unfold isWordS at h
  rw [Bool.or_eq_true] at h
  rcases h with h | h
  · rw [len_tl]; exact Nat.le_trans (isNameL_len h).2 (by decide)
  · have h := of_decide_eq_true h
    simp only [faultW, List.mem_cons, List.not_mem_nil, or_false] at h
    rcases h with rfl | rfl | rfl | rfl | rfl | rfl <;> decide +kernel
theorem le_sum_mem {d : Nat} : ∀ {xs : List PyData} {x : PyData}, x ∈ xs → cntRow d x ≤ cnts d xs
  | a :: r, x, h => by
    unfold cnts
    rw [List.map_cons, List.sum_cons]
    rcases List.mem_cons.mp h with rfl | h
    · omega
    · have := le_sum_mem (d := d) h
      unfold cnts at this
      omega
theorem areWordsX_ok {ws : List Str} (h : OkWords ws) : areWordsX (.tuple (ws.map .str)) = true := by
  have e : ∀ (f : Str → Str), (∀ z, f z = z) → ws.map f = ws := fun f h => (List.map_congr_left fun z _ => h z).trans (List.map_id' ws)
  have g := e ((fun d : PyData => match d with | .str z => z | _ => Str.empty) ∘ PyData.str) fun _ => rfl
  unfold areWordsX
  dsimp only
  rw [List.all_map, List.map_map, Bool.and_eq_true]
  refine ⟨List.all_eq_true.mpr fun z hz => h.all z hz, decide_eq_true ?_⟩
  exact (Iff.of_eq (congrArg List.Nodup g)).mpr h.nd
theorem OkRow.good : ∀ {d : Nat} {x : PyData}, OkRow d x → cntRow d x ≤ 100000 → RowG x ∧ isRowX d x = true := by
  intro d
  induction d with
  | zero =>
    intro x h _
    cases h with
    | flat h => exact ⟨h.rowG, h.isRow 0⟩
  | succ d ih =>
    intro x h c
    cases h with
    | flat h => exact ⟨h.rowG, h.isRow _⟩
    | @tryr _ a b ws h1 h2 h3 =>
      rw [cntRow_try] at c
      have ga : ∀ y ∈ a, RowG y ∧ isRowX d y = true := fun y hy => ih (h1 y hy) (Nat.le_trans (le_sum_mem hy) (by omega))
      have gb : ∀ y ∈ b, RowG y ∧ isRowX d y = true := fun y hy => ih (h3 y hy) (Nat.le_trans (le_sum_mem hy) (by omega))
      refine ⟨.tryr (fun y hy => (ga y hy).1) (Nat.le_trans (len_le_cnts d a) (by omega)) (fun z hz => isWordS_len (h2.all z hz)) h2.few (fun y hy => (gb y hy).1) (Nat.le_trans (len_le_cnts d b) (by omega)), ?_⟩
      show (if ("try" : Str) = "try" then _ else _) = true
      rw [if_pos rfl]
      show (true && (areWordsX (.tuple (ws.map .str)) && (a.all (isRowX d) && b.all (isRowX d)))) = true
      rw [areWordsX_ok h2, List.all_eq_true.mpr fun y hy => (ga y hy).2, List.all_eq_true.mpr fun y hy => (gb y hy).2]
      rfl
end HL

/-! HLj: repr of a list of dicts of flat data. -/
namespace HL
open PySem PySem.Spec PyProof PyProof.Rows PyProof.V L2 TL
def kD : Key → PyData
  | .inl i => .int i
  | .inr z => .str z
mutual
theorem reads_flat {h : Heap} : ∀ (d : PyData) (u : Value) (as : List Addr), Reads h u d as → flatD d = true → as = []
  | .none, _, _, .none, _ => rfl
  | .bool _, _, _, .bool _, _ => rfl
  | .int _, _, _, .int _ _, _ => rfl
  | .str _, _, _, .str _ _, _ => rfl
  | .tuple xs, _, _, .tuple _ _ _ r, f => readsAll_flat xs _ _ r f
  | .list _, _, _, _, f => by cases f
  | .dict _, _, _, _, f => by cases f
theorem readsAll_flat {h : Heap} : ∀ (ds : List PyData) (us : List Value) (as : List Addr), ReadsAll h us ds as → flatAll ds = true → as = []
  | [], _, _, .nil, _ => rfl
  | d :: ds, _, _, .cons r s, f => by
    simp only [flatAll, Bool.and_eq_true] at f
    rw [reads_flat d _ _ r f.1, readsAll_flat ds _ _ s f.2]
    rfl
end
/-- a dict of flat data -/
structure Dd (K : PySem.W.Frag) (H : Hp) (a : Addr) (ps : List (Key × PyData)) : Prop where
  ex : ∃ kvs, H a = some (.dK kvs) ∧ Paired (fun (p : Key × V) (q : Key × PyData) => p.1 = q.1 ∧ Dp K H p.2 q.2 ∧ flatD q.2 = true) kvs ps
abbrev ddD (ps : List (Key × PyData)) : PyData := .dict (ps.map fun p => (kD p.1, p.2))
section
variable {X : Cx} {pins : List (Addr × Obj)} {σ : L2.St} {H : Hp} {s : Shared}
theorem pairs_read (I : Inv X pins σ H s) : ∀ {kvs : List (Key × V)} {ps : List (Key × PyData)} {vs : List (Key × Value)}, Paired (fun (p : Key × V) (q : Key × PyData) => p.1 = q.1 ∧ Dp X.K H p.2 q.2 ∧ flatD q.2 = true) kvs ps → KV kvs vs → PairsRead s.heap kD vs (ps.map fun p => (kD p.1, p.2)) []
  | _, _, _, .nil, .nil => .nil
  | _, _, _, .cons (a := p) (b := q) ⟨e, d, f⟩ r, .cons (b := v) ⟨e2, rv⟩ t => by
    obtain ⟨as, rd⟩ := Dp.reads I q.2 p.2 v.2 d rv
    have ea := reads_flat _ _ _ rd f
    subst ea
    have ih := pairs_read I r t
    have ek : v.1 = q.1 := e2.symm.trans e
    obtain ⟨vk, vv⟩ := v
    have ek : vk = q.1 := ek
    subst ek
    exact PairsRead.cons rd ih
theorem key_reads {h : Heap} {P : Program} {w : World} (k : Key) (v : Value) (e : (mixKind P w).is k v = true) : Reads h v (kD k) [] := by
  rcases keyIs_shape e with ⟨i, t, rfl, rfl⟩ | ⟨x, t, rfl, rfl⟩
  · exact .int i t
  · exact .str x t
theorem Dd.reads (I : Inv X pins σ H s) {a : Addr} {ps : List (Key × PyData)} (d : Dd X.K H a ps) : Reads s.heap (.ref a) (ddD ps) [a] ∧ a ≠ sysModules := by
  obtain ⟨kvs, e, r⟩ := d.ex
  obtain ⟨_, ns, vs, rv, dd⟩ := dk_of I.hok e
  exact ⟨reads_dictOf (fun k v h => key_reads k v h) dd (pairs_read I r rv), fun q => by rw [q] at ns; simp at ns⟩
theorem dds_reads (I : Inv X pins σ H s) : ∀ {as : List Addr} {pss : List (List (Key × PyData))} {us : List Value}, Paired (Dd X.K H) as pss → Vals (as.map V.ref) us → ∃ bs, ReadsAll s.heap us (pss.map ddD) bs ∧ sysModules ∉ bs
  | _, _, _, .nil, .nil => ⟨[], .nil, List.not_mem_nil⟩
  | _, _, _, .cons (a := a) d r, .cons ru t => by
    cases ru
    obtain ⟨r1, n1⟩ := d.reads I
    obtain ⟨bs, r2, n2⟩ := dds_reads I r t
    exact ⟨_, .cons r1 r2, fun m => (List.mem_cons.mp m).elim (fun e => n1 e.symm) n2⟩
end
def rReprF (K : PySem.W.Frag) : List V → Hp → VK → Prop := fun xs H Q =>
  ∃ (F : Addr) (as : List Addr) (pss : List (List (Key × PyData))), xs = [.ref F] ∧ H F = some (.lst (as.map V.ref)) ∧ Paired (Dd K H) as pss ∧ (PyData.list (pss.map ddD)).showable = true ∧
    (PyData.list (pss.map ddD)).depth ≤ 60 ∧ (PyData.list (pss.map ddD)).shown.length ≤ sizeLine ∧ Q (.str (PyData.list (pss.map ddD)).shown) H
/-- repr of a list that is read, its items without the one forbidden dict -/
theorem repr_list {prog : Program} {w : World} {A : Around} {E : Value → Shared → Prop} {s : Shared} {Q : Value → Shared → Prop} {a : Addr} {o : Obj} {vs : Array Value} {n : Nat} {xs : List PyData} {as : List Addr}
    (h1 : s.heap.get? a = some o) (h2 : o.cls = .type "list") (h3 : o.data = .seq vs n) (h4 : ReadsAll s.heap vs.toList xs as) (hs : (PyData.list xs).showable = true) (hn : sysModules ∉ as) (hg : A.guards = some []) (hu : A.units + ((PyData.list xs).depth + 1) < cLine)
    (hQ : ∀ h' u tk, (∀ b o, s.heap.get? b = some o → h'.get? b = some o) → Q (.str (PyData.list xs).shown u) { s with heap := h', toks := tk }) (hz : (PyData.list xs).shown.length ≤ sizeLine) : wpAny (model prog w) A (call (.builtin "repr") [.ref a]) Q E s := by
  have hz' : (listText (PyData.shownAll xs)).length ≤ sizeLine := by simpa only [PyData.shown] using hz
  refine call_repr_slot (T := "list") (by omega) ⟨o, h1, h2⟩ F.slot_list_repr.toG ?_
  simp only [PyData.depth] at hu
  have hQ' : ∀ h' u tk, (∀ b o, s.heap.get? b = some o → h'.get? b = some o) → Q (.str (listText (PyData.shownAll xs)) u) { s with heap := h', toks := tk } := fun h' u tk k => by
    have := hQ h' u tk k
    simpa only [PyData.shown] using this
  obtain ⟨l⟩ := vs
  have tx : ∀ h' u tk, (∀ b o, s.heap.get? b = some o → h'.get? b = some o) → (fun r s₁ => ∃ x t, r = Value.str x t ∧ Q r s₁) (.str (listText (PyData.shownAll xs)) u) { s with heap := h', toks := tk } := fun h' u tk k => ⟨_, _, rfl, hQ' h' u tk k⟩
  cases l with
  | nil =>
    cases h4
    simp only [PyData.shownAll, listText_nil] at tx
    exact call_list_repr_empty ⟨o, h1, h2⟩ h1 h3 (tx s.heap _ _ fun _ _ e => e)
  | cons y r =>
    obtain ⟨bs, hb, hk⟩ := ReprAllK.of_readsAll (prog := prog) (w := w) h4 (by simpa only [PyData.showable] using hs) (fun _ => hn) (fun t ht => Nat.le_trans (listText_mem_le ht) hz')
    have hna : a ∉ bs := not_mem_of_deeper (.list h1 h2 h3 h4) (by simp only [PyData.depth]; omega) hb
    exact call_list_reprK h1 h2 h3 hna (by simpa using hk.length_eq) (fun i y e => hk.item i y (by simpa using e)) (g := []) hg (fun b _ => Clear.nil b) (by show A.units + 1 + _ < cLine; omega) (fun _ _ e => e) tx hz'
theorem call_reprF {X : Cx} (hg : X.A.guards = some []) (hu : X.A.units + 64 < cLine) : CallR X (.builtin "repr") (rReprF X.K) := by
  intro pins s σ H xs us Q I r h
  obtain ⟨F, as, pss, rfl, eF, dd, h1, h2, h3, q⟩ := h
  cases r with
  | cons rx rn =>
    cases rn
    cases rx
    obtain ⟨its, rv, ⟨o, n, ho, hc, _, hd⟩, _⟩ := I.list (sq_l (K := X.K) eF)
    obtain ⟨bs, rd, nb⟩ := dds_reads I dd rv
    exact repr_list ho hc hd (by simpa using rd) h1 nb hg (by omega) (fun h' u tk hk => ⟨.str _, H, I.kept hk, ⟨u, rfl⟩, q⟩) h3
theorem reprFK {X : Cx} {K : PySem.W.Frag} (h : X.K = K) (hg : X.A.guards = some []) (hu : X.A.units + 64 < cLine) : CallR X (.builtin "repr") (rReprF K) := h ▸ call_reprF hg hu
end HL

/-! HLg: the end of a law whose defs ask that no repr is under way. -/
namespace HL
open PySem PySem.Spec PyProof.Rows L2
/-- the script's object -/
abbrev scObj (vs : List Value) : Obj := { cls := .type "list", data := .seq vs.toArray }
/-- the heap in which the script alone is tracked, or nothing, where it is an object of the module -/
def scT (K : PySem.W.Frag) (a : Addr) (vs : List Value) (ns : List Int) : Hp := fun b =>
  if b = a ∧ K.lookup a = none then some (.frz (scObj vs) (.lst (ns.map V.int))) else none
theorem scT_some {K : PySem.W.Frag} {a b : Addr} {vs : List Value} {ns : List Int} {u : HO} (h : scT K a vs ns b = some u) :
    b = a ∧ K.lookup a = none ∧ u = .frz (scObj vs) (.lst (ns.map V.int)) := by
  unfold scT at h
  split at h
  · rename_i c
    exact ⟨c.1, c.2, (Option.some.inj h).symm⟩
  · cases h
theorem scT_ne {K : PySem.W.Frag} {a b : Addr} {vs : List Value} {ns : List Int} (h : b ≠ a) : scT K a vs ns b = none :=
  if_neg fun c => h c.1
theorem scT_own {K : PySem.W.Frag} {a b : Addr} {vs : List Value} {ns : List Int} {o : Obj} (h : K.lookup b = some o) : scT K a vs ns b = none :=
  if_neg fun c => by
    rw [c.1, c.2] at h
    exact absurd h (by simp)
theorem scT_only (K : PySem.W.Frag) (a : Addr) (vs : List Value) (ns : List Int) : Only (scT K a vs ns) := fun b => by
  cases e : scT K a vs ns b with
  | none => exact Or.inl rfl
  | some u => exact Or.inr ⟨_, _, congrArg some (scT_some e).2.2⟩
/-- a law's call, from the promise of its def -/
theorem law_callG {P : Program} {w : World} {K : PySem.W.Frag} {mg mb : Str → Option Value} {k : Nat} {fa a : Addr}
    {fd : FuncData} {x : Str} {sp : Sp} {t : Shared} {vs : List Value} {ns : List Int}
    (inK : K.In t.heap) (glob : t.heap.Ns mainGlobals mg) (blt : t.heap.Ns builtinsNs mb)
    (bltq : ∀ x : Str, x ≠ "__name__" → mb x = bootBuiltins x) (lim : t.heap.NoLimit) (gens : t.gens = #[])
    (ob : t.heap.get? a = some (scObj vs)) (hints : IntsAre vs ns)
    (size : ns.length ≤ sizeLine) (room : Room k callerA)
    (F : ∀ base : Heap, K.In base → base.Ns mainGlobals mg → FnG P w K mg base k fa fd [x] sp)
    (bind : ∀ (s : Shared) (u : Value), BindsTo s fd ⟨[u], []⟩ [(x, u)])
    (prm : ∀ H : Hp, Only H → SqL K H a (ns.map V.int) → sp [.ref a] H (fun v _ => v = .bl true) fun _ _ _ => False) :
    codeAny (model P w) callerA (.call (.ref fa) ⟨[.ref a], []⟩)
      (fun r s' => r = .ok (.ret (.bool true)) ∧ OldK t.heap s'.heap ∧ s'.os = t.os ∧ AllBare s'.gens) t := by
  generalize hT : scT K a vs ns = T
  have visK : K.In (hidT t.heap T) := fun b o e => hidT_get (inK b o e) (hT ▸ scT_own e)
  have visN : ∀ b m, t.heap.Ns b m → (hidT t.heap T).Ns b m := by
    rintro b m ⟨o, es, ep, e, d, r⟩
    refine ⟨o, es, ep, hidT_get e ?_, d, r⟩
    rw [← hT]
    apply scT_ne
    rintro rfl
    rw [← Option.some.inj (ob.symm.trans e)] at d
    exact Data.noConfusion d
  have held : HOk P w T t.heap := by
    intro b u e
    rw [← hT] at e
    obtain ⟨rfl, _, rfl⟩ := scT_some e
    exact ⟨ob, by rw [List.length_map]; exact size, vs, _, vals_ints hints, ob⟩
  have seq : SqL K T a (ns.map V.int) := by
    cases e : K.lookup a with
    | none => exact .inl (.inr ⟨scObj vs, hT ▸ if_pos ⟨rfl, e⟩⟩)
    | some o =>
      rw [← Option.some.inj (ob.symm.trans (inK a o e))] at e
      exact .inr ⟨_, vs.toArray, _, e, rfl, rfl, rfl, by rw [List.size_toArray, hints.length]; exact size, by simpa using vals_ints hints⟩
  have around : Env0 P w K mg (hidT t.heap T) callerA [] t T :=
    { frames := rfl
      mod := ⟨visK, visN _ _ glob, ⟨mb, visN _ _ blt, bltq⟩, lim.imp fun mc h => ⟨visN _ _ h.1, h.2⟩⟩
      bs := fun _ _ e => of_hidT e
      bsz := Nat.le_of_eq (hidT_size _ _)
      funs := trivial
      frf := fun _ hb => (List.not_mem_nil hb).elim
      hok := held
      bare := .of_eq gens }
  apply codeAny_mono ((F _ visK (visN _ _ glob)).run callerA [] t T ⟨[.ref a], []⟩ [.ref a] [.ref a] _ _ rfl room around (bind t (.ref a)) (.cons rfl .nil) (prm T (hT ▸ scT_only K a vs ns) seq))
  intro r s' h
  match r, h with
  | .error _, z => exact z.elim
  | .ok .next, z => exact z.elim
  | .ok .brk, z => exact z.elim
  | .ok .cont, z => exact z.elim
  | .ok (.ret u), ⟨v, H', os, bare, un, held', rel, q⟩ =>
    cases q
    cases (show u = Value.bool true from rel)
    refine ⟨rfl, .of_keep ?_, os, bare⟩
    intro b o e
    by_cases c : T b = none
    · exact un.keep b o e c List.not_mem_nil List.not_mem_nil
    · obtain ⟨y, hy⟩ := Option.ne_none_iff_exists'.mp c
      have z := scT_some (hT ▸ hy)
      have hy2 : T b = some (.frz (scObj vs) (.lst (ns.map V.int))) := z.2.2 ▸ hy
      have same : some o = some (scObj vs) := e.symm.trans (held b _ hy2).1
      exact same ▸ (held' b _ (un.frzs b _ _ hy2)).1
/-- the goal that the head leaves, from the promise of the law's def -/
theorem walk_ofG {l : PySem.W.OpenLaw} {n k : Nat} {q : Program} {loose : List Str}
    {XP : (Str → Option Value) → Heap → Prop} {YP : World → Heap → Prop} {d : DefRec} {K : Params → PySem.W.Frag}
    {sp : World → Sp} {x : Str} (hn : l.most = some n) (hn2 : n ≤ sizeLine) (hdf : d.params.defaults = [])
    (room : Room k callerA) (hY : ∀ (w : World) (h : Heap), YP w h → (K w.params).In h)
    (F : ∀ (w : World) (mg : Str → Option Value) (fa : Addr) (h : Heap), (K w.params).In h → h.Ns mainGlobals mg →
      mg d.name = some (.ref fa) → ∃ fd : FuncData, (∀ (s : Shared) (u : Value), BindsTo s fd ⟨[u], []⟩ [(x, u)]) ∧
        ∀ base : Heap, (K w.params).In base → base.Ns mainGlobals mg →
          FnG l.prog w (K w.params) mg base k fa fd [x] (sp w))
    (prm : ∀ (w : World) (H : Hp) (a : Addr) (ns : List Int), ns.length ≤ n → Only H →
      SqL (K w.params) H a (ns.map V.int) → sp w [.ref a] H (fun v _ => v = .bl true) fun _ _ _ => False) :
    PySem.W.WalkO q loose XP YP
      l.row.toRowW d [] (fun f vs => PySem.call f vs) :=
  Att.attach_call hn hdf fun w _ _ _ _ fa _ _ _ _ a _ ns G Y _ _ _ hmg hobj hints hlen hg =>
    have inK := hY w _ Y
    let ⟨_, hb, hF⟩ := F w _ fa _ inK G.T.g hmg
    law_callG inK G.T.g G.T.b G.T.builtins G.T.nolimit hg hobj hints (Nat.le_trans hlen hn2) room hF hb
      fun H hO hS => prm w H a ns hlen hO hS
end HL

namespace K31
open PySem PySem.Spec PyProof.Rows L2 HL TL
local macro_rules | `(tactic| walk_at "N") => `(tactic| first
  | with_reducible assumption
  | (apply Ne.symm; with_reducible assumption)
  | (refine' ne_of_none (H := ?H0) ?h1 ?h2; (case h2 => with_reducible assumption); (case h1 => walk_at "L"))
  | (apply Ne.symm; refine' ne_of_none (H := ?H0) ?h1 ?h2; (case h2 => with_reducible assumption); (case h1 => walk_at "L"))
  | fail "no")
local macro_rules | `(tactic| walk_at "M") => `(tactic| first
  | exact trivial
  | exact True.intro
  | (refine ⟨?_, ?_⟩; (walk_at "N"); (walk_at "M"))
  | fail "no")
local macro_rules | `(tactic| walk_at "L") => `(tactic| first
  | with_reducible assumption
  | with_reducible exact upd_same
  | ((with_reducible refine' (upd_ne ?n1).trans ?l1); (case n1 => walk_at "N"); (case l1 => walk_at "L"))
  | ((with_reducible refine' Kp.get ?k1 ?m1 ?l1); (case k1 => with_reducible assumption); (case l1 => walk_at "L"); (case m1 => walk_at "M"))
  | fail "no")
local macro_rules | `(tactic| walk_at "Q") => `(tactic| first
  | with_reducible assumption
  | ((with_reducible refine' sq_l ?e1); (case e1 => walk_at "L"))
  | ((with_reducible refine' sq_t ?e1); (case e1 => walk_at "L"))
  | ((with_reducible refine' Kp.seqL ?k1 ?m1 ?l1); (case k1 => with_reducible assumption); (case l1 => walk_at "Q"); (case m1 => walk_at "M"))
  | fail "no")
local macro_rules | `(tactic| walk_at "K") => `(tactic| first
  | with_reducible assumption
  | with_reducible exact Kp.refl
  | ((with_reducible refine' Kp.upd_mem ?k1 ?m1); (case m1 => simp only [List.mem_cons, true_or, or_true]); (case k1 => walk_at "K"))
  | ((with_reducible refine' Kp.upd_new ?k1 ?m1); (case m1 => with_reducible assumption); (case k1 => walk_at "K"))
  | ((with_reducible refine' Kp.upd_loc ?k1 ?m1); (case m1 => with_reducible assumption); (case k1 => walk_at "K"))
  | ((with_reducible refine' Kp.step ?k1 ?k2 ?m1); (case k2 => with_reducible assumption); (case m1 => (intro z hz; first | exact (List.not_mem_nil hz).elim | exact .inl hz | (simp only [List.mem_cons, List.not_mem_nil, or_false] at hz ⊢; first | (left; assumption) | (subst hz; first | (left; rfl) | (right; assumption))))); (case k1 => walk_at "K"))
  | fail "no")
local macro_rules | `(tactic| walk_at "C") => `(tactic| first | decide | assumption | omega | (show (0 : Int) < _; omega) | exact ⟨by decide, by decide⟩ | exact ⟨by omega, by omega⟩ | (left; exact ⟨by omega, by omega⟩) | (right; exact ⟨by omega, by omega⟩) | fail "no")
local macro_rules | `(tactic| walk_at "S1") => `(tactic| first
  | ((with_reducible refine' s_var ?h1 ?_); (case h1 => exact rfl))
  | with_reducible refine' s_c ?_
  | with_reducible refine' s_op ?_
  | with_reducible refine' s_un ?_
  | with_reducible refine' s_nil ?_
  | with_reducible refine' s_cons ?_
  | with_reducible refine' s_cb ?_
  | with_reducible refine' s_call ?_
  | with_reducible refine' s_test ?_
  | with_reducible refine' s_B ?_
  | with_reducible refine' s_and ?_
  | with_reducible refine' s_or ?_
  | with_reducible refine' s_not ?_
  | with_reducible refine' s_andV ?_
  | with_reducible refine' s_orV ?_
  | with_reducible refine' s_notV ?_
  | with_reducible refine' s_ifE ?_
  | with_reducible refine' s_chain ?_
  | with_reducible refine' s_tup ?_
  | with_reducible refine' s_lst ?_
  | with_reducible refine' s_sl ?_
  | with_reducible refine' s_noPart ?_
  | with_reducible refine' s_part ?_
  | with_reducible refine' s_fld ?_
  | with_reducible refine' s_bm ?_
  | with_reducible refine' s_bm0 ?_
  | with_reducible refine' s_m1 ?_
  | with_reducible refine' s_m0 ?_
  | with_reducible refine' s_seq ?_
  | with_reducible refine' s_next ?_
  | with_reducible refine' s_asg ?_
  | with_reducible refine' s_gname ?_
  | with_reducible refine' s_drop ?_
  | with_reducible refine' s_ret ?_
  | with_reducible refine' s_retN ?_
  | with_reducible refine' s_ifS ?_
  | with_reducible refine' s_gsub ?_
  | with_reducible refine' s_par ?_
  | with_reducible refine' s_bl ?_
  | with_reducible refine' s_iStr ?_
  | with_reducible refine' s_iList ?_
  | with_reducible refine' s_iTup ?_
  | with_reducible refine' s_iRng1 ?_
  | with_reducible refine' s_str ?_
  | with_reducible refine' s_ref ?_
  | with_reducible refine' s_yes ?_
  | with_reducible refine' s_for ?_
  | with_reducible refine' s_lc ?_
  | with_reducible refine' i_T ?_
  | with_reducible refine' i_F ?_
  | with_reducible refine' i_nT ?_
  | with_reducible refine' i_nF ?_
  | with_reducible refine' s_int ?_
  | with_reducible refine' s_ints2 ?_
  | with_reducible refine' s_ints1 ?_
  | with_reducible refine' s_strs1 ?_
  | with_reducible refine' s_vals2 ?_
  | with_reducible refine' s_vals3 ?_
  | ((with_reducible refine' s_gtup ?h1 ?l1 ?_); (case h1 => walk_at "Q"); (case l1 => exact rfl))
  | with_reducible refine' s_gcons ?_
  | with_reducible refine' s_gnil ?_
  | with_reducible refine' s_par3 ?_
  | with_reducible refine' s_ex ?_
  | with_reducible refine' s_I0 ?_
  | ((with_reducible refine' s_I ?c1 ?_); (case c1 => walk_at "C"))
  | ((with_reducible refine' s_eq ?h1 ?_); (case h1 => exact rfl))
  | ((with_reducible refine' s_ne ?h1 ?_); (case h1 => exact rfl))
  | ((with_reducible refine' s_ixL ?h1 ?a1 ?_); (case h1 => walk_at "Q"); (case a1 => exact rfl))
  | ((with_reducible refine' s_ixT ?h1 ?a1 ?_); (case h1 => walk_at "Q"); (case a1 => exact rfl))
  | ((with_reducible refine' s_setL ?h1 ?a1 ?_); (case h1 => walk_at "L"); (case a1 => exact rfl))
  | ((with_reducible refine' s_lenL ?h1 ?_); (case h1 => walk_at "Q"))
  | ((with_reducible refine' s_lenT ?h1 ?_); (case h1 => walk_at "Q"))
  | ((with_reducible refine' s_lenStr ?h1 ?_); (case h1 => assumption))
  | ((with_reducible refine' s_slL ?h1 ?_); (case h1 => walk_at "Q"))
  | ((with_reducible refine' s_slS ?h1 ?_); (case h1 => assumption))
  | with_reducible refine' s_U ?_
  | ((with_reducible refine' s_tyL ?h1 ?_); (case h1 => walk_at "L"))
  | with_reducible refine' s_inSg ?_
  | with_reducible refine' s_nn ?_
  | with_reducible refine' s_meth ?_
  | with_reducible refine' s_make ?_
  | with_reducible refine' s_dnew ?_
  | with_reducible refine' s_dget ?_
  | with_reducible refine' s_din ?_
  | with_reducible refine' s_dnotin ?_
  | with_reducible refine' s_dput ?_
  | with_reducible refine' s_dget1 ?_
  | with_reducible refine' s_sfld ?_
  | with_reducible refine' s_revL ?_
  | with_reducible refine' s_iZip3 ?_
  | with_reducible refine' s_iRng2 ?_
  | dsimp only
  | fail "no")
local macro_rules | `(tactic| walk_at "S") => `(tactic| repeat walk_at "S1")

def topS (i : Nat) : Stmt := PySem.Challenge.pw_halfmade_k31_whole_runs_in_order.main.body.getD i (.Pass ⟨0, 0, 0, 0⟩)
abbrev s_wall : Stmt := topS 0
abbrev N_wall : List Str := ["k"]
theorem sc_wall : FnScope ["k"] ["k"] (defScope s_wall) := ⟨rfl, rfl, rfl, by decide +kernel, rfl, by decide +kernel, by decide +kernel⟩
abbrev s_Fault_init : Stmt := inClass (topS 6) 0
abbrev N_Fault_init : List Str := ["self", "fault"]
theorem sc_Fault_init : FnScope ["self", "fault"] ["self", "fault"] (defScope s_Fault_init) := ⟨rfl, rfl, rfl, by decide +kernel, rfl, by decide +kernel, by decide +kernel⟩
abbrev s_Failed_init : Stmt := inClass (topS 7) 0
abbrev N_Failed_init : List Str := ["self", "fault", "road"]
theorem sc_Failed_init : FnScope ["self", "fault", "road"] ["self", "fault", "road"] (defScope s_Failed_init) := ⟨rfl, rfl, rfl, by decide +kernel, rfl, by decide +kernel, by decide +kernel⟩
abbrev s_is_name : Stmt := topS 13
abbrev N_is_name : List Str := ["thing", "sign"]
theorem sc_is_name : FnScope ["thing", "sign"] ["thing"] (defScope s_is_name) := ⟨rfl, rfl, rfl, by decide +kernel, rfl, by decide +kernel, by decide +kernel⟩
abbrev s_is_path : Stmt := topS 14
abbrev N_is_path : List Str := ["thing", "names", "name"]
theorem sc_is_path : FnScope ["thing", "names", "name"] ["thing"] (defScope s_is_path) := ⟨rfl, rfl, rfl, by decide +kernel, rfl, by decide +kernel, by decide +kernel⟩
abbrev s_is_whole : Stmt := topS 20
abbrev N_is_whole : List Str := ["thing"]
theorem sc_is_whole : FnScope ["thing"] ["thing"] (defScope s_is_whole) := ⟨rfl, rfl, rfl, by decide +kernel, rfl, by decide +kernel, by decide +kernel⟩
abbrev s_is_word : Stmt := topS 21
abbrev N_is_word : List Str := ["thing"]
theorem sc_is_word : FnScope ["thing"] ["thing"] (defScope s_is_word) := ⟨rfl, rfl, rfl, by decide +kernel, rfl, by decide +kernel, by decide +kernel⟩
abbrev s_are_words : Stmt := topS 22
abbrev N_are_words : List Str := ["thing", "word"]
theorem sc_are_words : FnScope ["thing", "word"] ["thing"] (defScope s_are_words) := ⟨rfl, rfl, rfl, by decide +kernel, rfl, by decide +kernel, by decide +kernel⟩
abbrev s_is_bare : Stmt := topS 23
abbrev N_is_bare : List Str := ["row", "word"]
theorem sc_is_bare : FnScope ["row", "word"] ["row"] (defScope s_is_bare) := ⟨rfl, rfl, rfl, by decide +kernel, rfl, by decide +kernel, by decide +kernel⟩
abbrev s_is_row_within : Stmt := topS 24
abbrev N_is_row_within : List Str := ["thing", "tries"]
theorem sc_is_row_within : FnScope ["thing", "tries"] ["thing", "tries"] (defScope s_is_row_within) := ⟨rfl, rfl, rfl, by decide +kernel, rfl, by decide +kernel, by decide +kernel⟩
abbrev s_are_rows : Stmt := topS 25
abbrev N_are_rows : List Str := ["thing", "tries", "row"]
theorem sc_are_rows : FnScope ["thing", "tries", "row"] ["thing", "tries"] (defScope s_are_rows) := ⟨rfl, rfl, rfl, by decide +kernel, rfl, by decide +kernel, by decide +kernel⟩
abbrev s_counted : Stmt := topS 26
abbrev N_counted : List Str := ["body", "found", "row"]
theorem sc_counted : FnScope ["body", "found", "row"] ["body"] (defScope s_counted) := ⟨rfl, rfl, rfl, by decide +kernel, rfl, by decide +kernel, by decide +kernel⟩
abbrev s_is_body : Stmt := topS 27
abbrev N_is_body : List Str := ["thing"]
theorem sc_is_body : FnScope ["thing"] ["thing"] (defScope s_is_body) := ⟨rfl, rfl, rfl, by decide +kernel, rfl, by decide +kernel, by decide +kernel⟩
abbrev s_Module_init : Stmt := inClass (topS 29) 0
abbrev N_Module_init : List Str := ["self", "number", "path"]
theorem sc_Module_init : FnScope ["self", "number", "path"] ["self", "number", "path"] (defScope s_Module_init) := ⟨rfl, rfl, rfl, by decide +kernel, rfl, by decide +kernel, by decide +kernel⟩
abbrev s_Module_bind : Stmt := inClass (topS 29) 1
abbrev N_Module_bind : List Str := ["self", "name", "thing"]
theorem sc_Module_bind : FnScope ["self", "name", "thing"] ["self", "name", "thing"] (defScope s_Module_bind) := ⟨rfl, rfl, rfl, by decide +kernel, rfl, by decide +kernel, by decide +kernel⟩
abbrev s_Module_has : Stmt := inClass (topS 29) 2
abbrev N_Module_has : List Str := ["self", "name"]
theorem sc_Module_has : FnScope ["self", "name"] ["self", "name"] (defScope s_Module_has) := ⟨rfl, rfl, rfl, by decide +kernel, rfl, by decide +kernel, by decide +kernel⟩
abbrev s_Module_thing_of : Stmt := inClass (topS 29) 3
abbrev N_Module_thing_of : List Str := ["self", "name"]
theorem sc_Module_thing_of : FnScope ["self", "name"] ["self", "name"] (defScope s_Module_thing_of) := ⟨rfl, rfl, rfl, by decide +kernel, rfl, by decide +kernel, by decide +kernel⟩
abbrev s_Module_bound : Stmt := inClass (topS 29) 4
abbrev N_Module_bound : List Str := ["self"]
theorem sc_Module_bound : FnScope ["self"] ["self"] (defScope s_Module_bound) := ⟨rfl, rfl, rfl, by decide +kernel, rfl, by decide +kernel, by decide +kernel⟩
abbrev s_want_finders : Stmt := topS 31
abbrev N_want_finders : List Str := ["finders", "finder", "path", "body"]
theorem sc_want_finders : FnScope ["finders", "finder", "path", "body"] ["finders"] (defScope s_want_finders) := ⟨rfl, rfl, rfl, by decide +kernel, rfl, by decide +kernel, by decide +kernel⟩
abbrev s_want_path : Stmt := topS 32
abbrev N_want_path : List Str := ["path"]
theorem sc_want_path : FnScope ["path"] ["path"] (defScope s_want_path) := ⟨rfl, rfl, rfl, by decide +kernel, rfl, by decide +kernel, by decide +kernel⟩
abbrev s_Runs_init : Stmt := inClass (topS 33) 0
abbrev N_Runs_init : List Str := ["self", "finders", "finder"]
theorem sc_Runs_init : FnScope ["self", "finders", "finder"] ["self", "finders"] (defScope s_Runs_init) := ⟨rfl, rfl, rfl, by decide +kernel, rfl, by decide +kernel, by decide +kernel⟩
abbrev s_Runs_take : Stmt := inClass (topS 33) 1
abbrev N_Runs_take : List Str := ["self", "path", "module", "e"]
theorem sc_Runs_take : FnScope ["self", "path", "module", "e"] ["self", "path"] (defScope s_Runs_take) := ⟨rfl, rfl, rfl, by decide +kernel, rfl, by decide +kernel, by decide +kernel⟩
abbrev s_Runs_table : Stmt := inClass (topS 33) 2
abbrev N_Runs_table : List Str := ["self", "path", "module"]
theorem sc_Runs_table : FnScope ["self", "path", "module"] ["self"] (defScope s_Runs_table) := ⟨rfl, rfl, rfl, by decide +kernel, rfl, by decide +kernel, by decide +kernel⟩
abbrev s_Runs_log : Stmt := inClass (topS 33) 3
abbrev N_Runs_log : List Str := ["self"]
theorem sc_Runs_log : FnScope ["self"] ["self"] (defScope s_Runs_log) := ⟨rfl, rfl, rfl, by decide +kernel, rfl, by decide +kernel, by decide +kernel⟩
abbrev s_Runs_paper : Stmt := inClass (topS 33) 4
abbrev N_Runs_paper : List Str := ["self"]
theorem sc_Runs_paper : FnScope ["self"] ["self"] (defScope s_Runs_paper) := ⟨rfl, rfl, rfl, by decide +kernel, rfl, by decide +kernel, by decide +kernel⟩
abbrev s_Runs_module_of : Stmt := inClass (topS 33) 5
abbrev N_Runs_module_of : List Str := ["self", "number"]
theorem sc_Runs_module_of : FnScope ["self", "number"] ["self", "number"] (defScope s_Runs_module_of) := ⟨rfl, rfl, rfl, by decide +kernel, rfl, by decide +kernel, by decide +kernel⟩
abbrev s_Runs_path_of : Stmt := inClass (topS 33) 6
abbrev N_Runs_path_of : List Str := ["self", "number"]
theorem sc_Runs_path_of : FnScope ["self", "number"] ["self", "number"] (defScope s_Runs_path_of) := ⟨rfl, rfl, rfl, by decide +kernel, rfl, by decide +kernel, by decide +kernel⟩
abbrev s_Runs_names_of : Stmt := inClass (topS 33) 7
abbrev N_Runs_names_of : List Str := ["self", "number"]
theorem sc_Runs_names_of : FnScope ["self", "number"] ["self", "number"] (defScope s_Runs_names_of) := ⟨rfl, rfl, rfl, by decide +kernel, rfl, by decide +kernel, by decide +kernel⟩
abbrev s_Runs_state_of : Stmt := inClass (topS 33) 8
abbrev N_Runs_state_of : List Str := ["self", "number"]
theorem sc_Runs_state_of : FnScope ["self", "number"] ["self", "number"] (defScope s_Runs_state_of) := ⟨rfl, rfl, rfl, by decide +kernel, rfl, by decide +kernel, by decide +kernel⟩
abbrev s_Runs_chain : Stmt := inClass (topS 33) 9
abbrev N_Runs_chain : List Str := ["self"]
theorem sc_Runs_chain : FnScope ["self"] ["self"] (defScope s_Runs_chain) := ⟨rfl, rfl, rfl, by decide +kernel, rfl, by decide +kernel, by decide +kernel⟩
abbrev s_Runs_came_up : Stmt := inClass (topS 33) 10
abbrev N_Runs_came_up : List Str := ["self", "fault", "module", "row"]
theorem sc_Runs_came_up : FnScope ["self", "fault", "module", "row"] ["self", "fault"] (defScope s_Runs_came_up) := ⟨rfl, rfl, rfl, by decide +kernel, rfl, by decide +kernel, by decide +kernel⟩
abbrev s_Runs_found : Stmt := inClass (topS 33) 11
abbrev N_Runs_found : List Str := ["self", "path", "shelf"]
theorem sc_Runs_found : FnScope ["self", "path", "shelf"] ["self", "path"] (defScope s_Runs_found) := ⟨rfl, rfl, rfl, by decide +kernel, rfl, by decide +kernel, by decide +kernel⟩
abbrev s_Runs_taken : Stmt := inClass (topS 33) 12
abbrev N_Runs_taken : List Str := ["self", "path"]
theorem sc_Runs_taken : FnScope ["self", "path"] ["self", "path"] (defScope s_Runs_taken) := ⟨rfl, rfl, rfl, by decide +kernel, rfl, by decide +kernel, by decide +kernel⟩
abbrev s_Runs_taken_one : Stmt := inClass (topS 33) 13
abbrev N_Runs_taken_one : List Str := ["self", "path", "module", "number", "fault", "body"]
theorem sc_Runs_taken_one : FnScope ["self", "path", "module", "number", "fault", "body"] ["self", "path"] (defScope s_Runs_taken_one) := ⟨rfl, rfl, rfl, by decide +kernel, rfl, by decide +kernel, by decide +kernel⟩
abbrev s_Runs_begin : Stmt := inClass (topS 33) 14
abbrev N_Runs_begin : List Str := ["self", "path", "body", "module", "e"]
theorem sc_Runs_begin : FnScope ["self", "path", "body", "module", "e"] ["self", "path", "body"] (defScope s_Runs_begin) := ⟨rfl, rfl, rfl, by decide +kernel, rfl, by decide +kernel, by decide +kernel⟩
abbrev s_Runs_came_whole : Stmt := inClass (topS 33) 15
abbrev N_Runs_came_whole : List Str := ["self", "module"]
theorem sc_Runs_came_whole : FnScope ["self", "module"] ["self", "module"] (defScope s_Runs_came_whole) := ⟨rfl, rfl, rfl, by decide +kernel, rfl, by decide +kernel, by decide +kernel⟩
abbrev s_Runs_run_body : Stmt := inClass (topS 33) 16
abbrev N_Runs_run_body : List Str := ["self", "module", "body", "by", "at", "e"]
theorem sc_Runs_run_body : FnScope ["self", "module", "body", "by", "at", "e"] ["self", "module", "body"] (defScope s_Runs_run_body) := ⟨rfl, rfl, rfl, by decide +kernel, rfl, by decide +kernel, by decide +kernel⟩
abbrev s_Runs_do_body : Stmt := inClass (topS 33) 17
abbrev N_Runs_do_body : List Str := ["self", "body", "number", "row"]
theorem sc_Runs_do_body : FnScope ["self", "body", "number", "row"] ["self", "body"] (defScope s_Runs_do_body) := ⟨rfl, rfl, rfl, by decide +kernel, rfl, by decide +kernel, by decide +kernel⟩
abbrev s_Runs_do : Stmt := inClass (topS 33) 18
abbrev N_Runs_do : List Str := ["self", "row", "module"]
theorem sc_Runs_do : FnScope ["self", "row", "module"] ["self", "row"] (defScope s_Runs_do) := ⟨rfl, rfl, rfl, by decide +kernel, rfl, by decide +kernel, by decide +kernel⟩
abbrev s_Runs_do_note : Stmt := inClass (topS 33) 19
abbrev N_Runs_do_note : List Str := ["self", "path", "names"]
theorem sc_Runs_do_note : FnScope ["self", "path", "names"] ["self", "path"] (defScope s_Runs_do_note) := ⟨rfl, rfl, rfl, by decide +kernel, rfl, by decide +kernel, by decide +kernel⟩
abbrev s_Runs_do_looking : Stmt := inClass (topS 33) 20
abbrev N_Runs_do_looking : List Str := ["self", "row"]
theorem sc_Runs_do_looking : FnScope ["self", "row"] ["self", "row"] (defScope s_Runs_do_looking) := ⟨rfl, rfl, rfl, by decide +kernel, rfl, by decide +kernel, by decide +kernel⟩
abbrev s_l_at : Stmt := topS 35
abbrev N_l_at : List Str := ["_law_script", "_law_k"]
theorem sc_l_at : FnScope ["_law_script", "_law_k"] ["_law_script", "_law_k"] (defScope s_l_at) := ⟨rfl, rfl, rfl, by decide +kernel, rfl, by decide +kernel, by decide +kernel⟩
abbrev s_l_pot : Stmt := topS 36
abbrev N_l_pot : List Str := ["_law_script", "_law_k", "_law_cell"]
theorem sc_l_pot : FnScope ["_law_script", "_law_k", "_law_cell"] ["_law_script", "_law_k"] (defScope s_l_pot) := ⟨rfl, rfl, rfl, by decide +kernel, rfl, by decide +kernel, by decide +kernel⟩
abbrev s_l_draw : Stmt := topS 37
abbrev N_l_draw : List Str := ["_law_pot_here", "_law_many", "_law_digit"]
theorem sc_l_draw : FnScope ["_law_pot_here", "_law_many", "_law_digit"] ["_law_pot_here", "_law_many"] (defScope s_l_draw) := ⟨rfl, rfl, rfl, by decide +kernel, rfl, by decide +kernel, by decide +kernel⟩
abbrev s_l_name : Stmt := topS 38
abbrev N_l_name : List Str := ["_law_pot_here", "_law_taken_here", "_law_letters", "_law_name_here", "_law_way", "_law_k", "_law_letter"]
theorem sc_l_name : FnScope ["_law_pot_here", "_law_taken_here", "_law_letters", "_law_name_here", "_law_way", "_law_k", "_law_letter"] ["_law_pot_here", "_law_taken_here"] (defScope s_l_name) := ⟨rfl, rfl, rfl, by decide +kernel, rfl, by decide +kernel, by decide +kernel⟩
abbrev s_l_number : Stmt := topS 39
abbrev N_l_number : List Str := ["_law_pot_here"]
theorem sc_l_number : FnScope ["_law_pot_here"] ["_law_pot_here"] (defScope s_l_number) := ⟨rfl, rfl, rfl, by decide +kernel, rfl, by decide +kernel, by decide +kernel⟩
abbrev s_l_row : Stmt := topS 40
abbrev N_l_row : List Str := ["_law_pot_here", "_law_paths", "_law_names", "_law_way", "_law_name_here", "_law_path"]
theorem sc_l_row : FnScope ["_law_pot_here", "_law_paths", "_law_names", "_law_way", "_law_name_here", "_law_path"] ["_law_pot_here", "_law_paths", "_law_names"] (defScope s_l_row) := ⟨rfl, rfl, rfl, by decide +kernel, rfl, by decide +kernel, by decide +kernel⟩
abbrev s_l_stock : Stmt := topS 41
abbrev N_l_stock : List Str := ["_law_pot_here", "_law_most", "_law_paths", "_law_k", "_law_names", "_law_stock_here", "_law_path"]
theorem sc_l_stock : FnScope ["_law_pot_here", "_law_most", "_law_paths", "_law_k", "_law_names", "_law_stock_here", "_law_path"] ["_law_pot_here"] (defScope s_l_stock) := ⟨rfl, rfl, rfl, by decide +kernel, rfl, by decide +kernel, by decide +kernel⟩
abbrev s_l_dealt : Stmt := topS 42
abbrev N_l_dealt : List Str := ["_law_pot_here", "_law_stock_here", "_law_finders", "_law_path", "_law_body", "_law_at_here", "_law_k"]
theorem sc_l_dealt : FnScope ["_law_pot_here", "_law_stock_here", "_law_finders", "_law_path", "_law_body", "_law_at_here", "_law_k"] ["_law_pot_here", "_law_stock_here"] (defScope s_l_dealt) := ⟨rfl, rfl, rfl, by decide +kernel, rfl, by decide +kernel, by decide +kernel⟩
abbrev s_l_house : Stmt := topS 43
abbrev N_l_house : List Str := ["_law_stock_here"]
theorem sc_l_house : FnScope ["_law_stock_here"] ["_law_stock_here"] (defScope s_l_house) := ⟨rfl, rfl, rfl, by decide +kernel, rfl, by decide +kernel, by decide +kernel⟩
abbrev s_l_done : Stmt := topS 44
abbrev N_l_done : List Str := ["_law_house_here", "_law_number_here", "_law_row_here", "_law_names"]
theorem sc_l_done : FnScope ["_law_house_here", "_law_number_here", "_law_row_here", "_law_names"] ["_law_house_here", "_law_number_here", "_law_row_here"] (defScope s_l_done) := ⟨rfl, rfl, rfl, by decide +kernel, rfl, by decide +kernel, by decide +kernel⟩
abbrev s_l_taken : Stmt := topS 45
abbrev N_l_taken : List Str := ["_law_house_here", "_law_path", "_law_number_here", "_law_by", "_law_row_here", "_law_at_here", "_law_one"]
theorem sc_l_taken : FnScope ["_law_house_here", "_law_path", "_law_number_here", "_law_by", "_law_row_here", "_law_at_here", "_law_one"] ["_law_house_here", "_law_path"] (defScope s_l_taken) := ⟨rfl, rfl, rfl, by decide +kernel, rfl, by decide +kernel, by decide +kernel⟩
abbrev s_l_right : Stmt := topS 46
abbrev N_l_right : List Str := ["_law_house_here", "_law_own", "_law_turn", "_law_log", "_law_paper"]
theorem sc_l_right : FnScope ["_law_house_here", "_law_own", "_law_turn", "_law_log", "_law_paper"] ["_law_house_here", "_law_own"] (defScope s_l_right) := ⟨rfl, rfl, rfl, by decide +kernel, rfl, by decide +kernel, by decide +kernel⟩
abbrev s_law : Stmt := topS 47
abbrev N_law : List Str := ["_law_script", "_law_pot_here", "_law_stock_here", "_law_finders", "_law_kept", "_law_houses", "_law_owns", "_law_paths", "_law_cell", "_law_at_here", "_law_path", "_law_held", "_law_shown"]
theorem sc_law : FnScope ["_law_script", "_law_pot_here", "_law_stock_here", "_law_finders", "_law_kept", "_law_houses", "_law_owns", "_law_paths", "_law_cell", "_law_at_here", "_law_path", "_law_held", "_law_shown"] ["_law_script"] (defScope s_law) := ⟨rfl, rfl, rfl, by decide +kernel, rfl, by decide +kernel, by decide +kernel⟩
structure Txt (K : PySem.W.Frag) (mg : Str → Option Value) (C_Module C_Runs : Addr) : Prop where
  cl_Module : Cls K C_Module
  mg_Module : mg "Module" = some (.ref C_Module)
  n_Module_number : NoAttr K C_Module "number"
  n_Module_path : NoAttr K C_Module "path"
  n_Module_things : NoAttr K C_Module "things"
  cl_Runs : Cls K C_Runs
  mg_Runs : mg "Runs" = some (.ref C_Runs)
  n_Runs_shelves : NoAttr K C_Runs "shelves"
  n_Runs_standing : NoAttr K C_Runs "standing"
  n_Runs_made : NoAttr K C_Runs "made"
  n_Runs_line : NoAttr K C_Runs "line"
  n_Runs_broken : NoAttr K C_Runs "broken"
  n_Runs_met : NoAttr K C_Runs "met"
  n_Runs_fates : NoAttr K C_Runs "fates"
  n_Runs_notes : NoAttr K C_Runs "notes"
  n_Runs_waits : NoAttr K C_Runs "waits"
  n_len : mg "len" = none
  n_isinstance : mg "isinstance" = none
  n_str : mg "str" = none
  n_all : mg "all" = none
  n_bool : mg "bool" = none
  n_int : mg "int" = none
  n_tuple : mg "tuple" = none
  n_set : mg "set" = none
  n_sorted : mg "sorted" = none
  n_dict : mg "dict" = none
  n_list : mg "list" = none
  n_enumerate : mg "enumerate" = none
  n_max : mg "max" = none
  n_divmod : mg "divmod" = none
  n_range : mg "range" = none
  n_repr : mg "repr" = none
  c_MOST_LETTERS : ∃ t, mg "MOST_LETTERS" = some (.int 8 t)
  c_LETTERS : ∃ t, mg "LETTERS" = some (.str "abcdefghijklmnopqrstuvwxyz" t)
  c_DOT : ∃ t, mg "DOT" = some (.str "." t)
  c_MOST_NAMES : ∃ t, mg "MOST_NAMES" = some (.int 4 t)
  c_FAULT_WORDS : ∃ a, mg "FAULT_WORDS" = some (.ref a) ∧ ∀ H, SqT K H a [.str "NOMODULE", .str "NONAME", .str "HALF", .str "FLAT", .str "NOTASK", .str "ALL"]
  c_LEADING : ∃ a, mg "LEADING" = some (.ref a) ∧ ∀ H, SqT K H a [.str "now", .str "take", .str "late", .str "ask"]
  c_MOST_ROWS : ∃ t, mg "MOST_ROWS" = some (.int 40 t)
  c_MOST_TRIES : ∃ t, mg "MOST_TRIES" = some (.int 3 t)
theorem small_le {n : Nat} (h : n ≤ 100010) : n ≤ sizeLine := Nat.le_trans h (by decide)
theorem small_lt {n : Nat} (h : n ≤ 100010) : n < sizeLine := Nat.lt_of_le_of_lt h (by decide)
/-! the pot -/
abbrev Pot := Int × Int
def PotOk (H : Hp) (p : Addr) : Prop := ∃ s : Pot, H p = some (.lst [.int s.1, .int s.2])
theorem PotOk.upd {H : Hp} {p D : Addr} {o : HO} (h : PotOk H p) (n : p ≠ D) : PotOk (upd H D o) p := by
  obtain ⟨s, e⟩ := h
  exact ⟨s, (upd_ne n).trans e⟩
theorem PotOk.ne {H : Hp} {p D : Addr} (h : PotOk H p) (n : H D = none) : p ≠ D := by
  obtain ⟨s, e⟩ := h
  exact ne_of_none e n
theorem PotOk.kp {H H' : Hp} {p : Addr} {W : List Addr} (h : PotOk H p) (k : Kp W H H') (n : Nin p W) : PotOk H' p := by
  obtain ⟨s, e⟩ := h
  exact ⟨s, k.get n e⟩
def spAt (K : PySem.W.Frag) : Sp := fun vs H Q _ => ∃ (a : Addr) (ns : List Int) (k : Nat), vs = [.ref a, .int k] ∧ SqL K H a (ns.map V.int) ∧ Q (.int (ns.getD k 0)) H
def spPot (K : PySem.W.Frag) : Sp := fun vs H Q _ => ∃ (a : Addr) (ns : List Int) (k : Nat), vs = [.ref a, .int k] ∧ SqL K H a (ns.map V.int) ∧ k ≤ 1000 ∧
  ∀ H' p, Kp [] H H' → H p = none → PotOk H' p → Q (.ref p) H'
/-- a draw: some number below m -/
def spDraw : Sp := fun vs H Q _ => ∃ (p : Addr) (m : Int), vs = [.ref p, .int m] ∧ PotOk H p ∧ 0 < m ∧ m ≤ 2000000000000000000000000000000000000000000000000000000000000 ∧
  ∀ H' v, Kp [p] H H' → PotOk H' p → 0 ≤ v → v < m → Q (.int v) H'
section
variable {P : Program} {w : World} {K : PySem.W.Frag} {mg : Str → Option Value} {base : Heap} {C_Module C_Runs : Addr}
theorem ok_at {f : Addr} {fd : FuncData} (F : Fun K "_law_at" "_law_at" s_l_at f fd) (T : Txt K mg C_Module C_Runs) : FnOk P w K mg base CX0 1 f fd ["_law_script", "_law_k"] (spAt K) := by
  refine F.ok sc_l_at (fun vs H Q E h => ?_) (fun cdv A outer s H vs Q E hr h => ?_)
  · obtain ⟨a, ns, j, rfl, _⟩ := h
    rfl
  · obtain ⟨a, ns, j, rfl, hs, q⟩ := h
    refine ⟨_, (pss_one (ps_ret (pe_ifExp (pt_cmpR op_lt (pv 1) (pe_callB (lenK (K := K) rfl) (by rfl) T.n_len (by decide +kernel) (pa_cons (pv 0) pa_nil)) (nomark _)) (pe_ix (ixLK (K := K) rfl) (pv 0) (pv 1) (fun _ _ => rfl)) pe_int))), ?_⟩
    refine st_start (σ' := [some (.ref a), some (.int j)]) rfl ?_
    walk_at "S"
    rw [List.length_map]
    refine s_dec (fun h1 => ?_) (fun h1 => ?_)
    · walk_at "S"
      have hj : j < ns.length := by omega
      have e : (ns.map V.int)[j]? = some (.int (ns.getD j 0)) := by
        rw [List.getElem?_map, List.getD_eq_getElem?_getD, List.getElem?_eq_getElem hj]
        rfl
      exact s_ixL hs (atI_nat e) q
    · walk_at "S"
      have e : ns.getD j 0 = 0 := by
        rw [List.getD_eq_getElem?_getD, List.getElem?_eq_none (Nat.le_of_not_lt fun z => h1 (by omega))]
        rfl
      rw [e] at q
      exact q
theorem ok_pot {f : Addr} {fd : FuncData} (F : Fun K "_law_pot" "_law_pot" s_l_pot f fd) (T : Txt K mg C_Module C_Runs)
    (D_l_at : DnF P w K mg base 1 "_law_at" ["_law_script", "_law_k"] (spAt K)) : FnOk P w K mg base CX0 2 f fd ["_law_script", "_law_k"] (spPot K) := by
  refine F.ok sc_l_pot (fun vs H Q E h => ?_) (fun cdv A outer s H vs Q E hr h => ?_)
  · obtain ⟨a, ns, j, rfl, _⟩ := h
    rfl
  · obtain ⟨f_l_at, fd_l_at, G_l_at, m_l_at, k_l_at, b_l_at⟩ := D_l_at
    obtain ⟨a, ns, j, rfl, hs, hj, q⟩ := h
    refine ⟨_, (pss_cons (ps_set (i := 2) sc_l_pot.nd rfl (Or.inl rfl) (pe_call G_l_at (hr.mono (by first | decide | omega)) (by rfl) m_l_at k_l_at b_l_at .nil pass0 (pa_cons (pv 0) (pa_cons (pv 1) pa_nil))))
      (pss_one (ps_ret (pe_lst (pa_cons (pe_callB (call_max2 rfl) (by rfl) T.n_max (by decide +kernel) (pa_cons pe_int (pa_cons (pe_op op_sub (pv 2) (pe_op op_pow pe_int pe_int)) pa_nil))) (pa_cons (pe_op op_add (pe_op op_mod (pe_op op_pow (pe_op op_add (pe_op op_mod (pv 2) pe_int) (pe_op op_mul pe_int (pe_op op_add (pv 1) pe_int))) pe_int) pe_int) pe_int) pa_nil)))))), ?_⟩
    refine st_start (σ' := [some (.ref a), some (.int j), none]) rfl ?_
    walk_at "S"
    refine ⟨a, ns, j, rfl, hs, ?_⟩
    walk_at "S"
    exact ⟨small_le (by simp), fun p hp => q _ _ (Kp.refl.upd_new hp) hp ⟨(_, _), upd_same⟩⟩
theorem ok_draw {f : Addr} {fd : FuncData} (F : Fun K "_law_draw" "_law_draw" s_l_draw f fd) (T : Txt K mg C_Module C_Runs) : FnOk P w K mg base CX0 1 f fd ["_law_pot_here", "_law_many"] spDraw := by
  refine F.ok sc_l_draw (fun vs H Q E h => ?_) (fun cdv A outer s H vs Q E hr h => ?_)
  · obtain ⟨p, m, rfl, _⟩ := h
    rfl
  · obtain ⟨p, m, rfl, ⟨⟨a, b⟩, hp⟩, m0, m1, k⟩ := h
    dsimp only at hp
    refine ⟨_, (pss_cons (ps_if (pt_cmpR op_gt (pe_ix (ixLK (K := K) rfl) (pv 0) pe_int (fun _ _ => rfl)) pe_int (nomark _)) (pss_cons (ps_asg (pe_callB divmodPR (by rfl) T.n_divmod (by decide +kernel) (pa_cons (pe_ix (ixLK (K := K) rfl) (pv 0) pe_int (fun _ _ => rfl)) (pa_cons (pv 1) pa_nil))) (kgT (K := K) rfl (pg_tup rfl (pgs_cons (pg_sub (pv 0) pe_int set_list) (pgs_cons (pg_name (i := 2) sc_l_draw.nd rfl (Or.inl rfl)) pgs_nil)))))
      (pss_one (ps_ret (pv 2)))) pss_nil)
      (pss_cons (ps_asg (pe_op op_mod (pe_op op_add (pe_op op_mul (pe_ix (ixLK (K := K) rfl) (pv 0) pe_int (fun _ _ => rfl)) pe_int) pe_int) pe_int) (pg_sub (pv 0) pe_int set_list))
      (pss_one (ps_ret (pe_op op_mod (pe_op op_fdiv (pe_op op_mod (pe_op op_mul (pe_ix (ixLK (K := K) rfl) (pv 0) pe_int (fun _ _ => rfl)) (pe_ix (ixLK (K := K) rfl) (pv 0) pe_int (fun _ _ => rfl))) pe_int) pe_int) (pv 1)))))), ?_⟩
    refine st_start (σ' := [some (.ref p), some (.int m), none]) rfl ?_
    walk_at "S"
    refine s_dec (fun h => ?_) (fun h => ?_)
    · walk_at "S"
      refine s_divP m0 m1 fun t ht => ?_
      walk_at "S"
      exact k _ _ (by walk_at "K") ⟨(_, _), upd_same⟩ (Int.emod_nonneg _ (by omega)) (Int.emod_lt_of_pos _ m0)
    · walk_at "S"
      exact k _ _ (by walk_at "K") ⟨(_, _), upd_same⟩ (Int.emod_nonneg _ (by omega)) (Int.emod_lt_of_pos _ m0)
end
/-! instances -/
abbrev modF (n : Int) (p : Str) (d : Addr) : List (Str × V) := [("number", .int n), ("path", .str p), ("things", .ref d)]
theorem modF_put (n : Int) (p : Str) (d : Addr) : putF "things" (.ref d) (putF "path" (.str p) (putF "number" (.int n) [])) = modF n p d := by
  simp only [putF]
  rw [if_neg (by decide +kernel)]
  simp only [putF]
  rw [if_neg (by decide +kernel), if_neg (by decide +kernel)]
theorem look_cons {f g : Str} {v : V} {r : List (Str × V)} (h : decide (f = g) = false) : List.lookup f ((g, v) :: r) = List.lookup f r := by
  have : (f == g) = false := by simpa using h
  simp only [List.lookup, this]
theorem look_hit {f : Str} {v : V} {r : List (Str × V)} : List.lookup f ((f, v) :: r) = some v := by simp [List.lookup]
theorem look_nil {f : Str} : List.lookup f ([] : List (Str × V)) = none := rfl
theorem lk_num (n : Int) (p : Str) (d : Addr) : (modF n p d).lookup ("number" : Str) = some (.int n) := look_hit
theorem lk_path (n : Int) (p : Str) (d : Addr) : (modF n p d).lookup ("path" : Str) = some (.str p) := (look_cons (by decide +kernel)).trans look_hit
theorem lk_things (n : Int) (p : Str) (d : Addr) : (modF n p d).lookup ("things" : Str) = some (.ref d) := (look_cons (by decide +kernel)).trans ((look_cons (by decide +kernel)).trans look_hit)
theorem lk_meth {m : Str} (n : Int) (p : Str) (d : Addr) (h : decide (m = "number") = false ∧ decide (m = "path") = false ∧ decide (m = "things") = false) : (modF n p d).lookup m = none :=
  (look_cons h.1).trans ((look_cons h.2.1).trans ((look_cons h.2.2).trans look_nil))
/-- a module stands at m, its dict at d -/
structure ModAt (C : Addr) (H : Hp) (m : Addr) (n : Int) (p : Str) (d : Addr) (kvs : List (Key × V)) : Prop where
  ob : ∃ dx, H m = some (.ins C dx (modF n p d))
  dc : H d = some (.dK kvs)
def spMInit (C : Addr) : Sp := fun vs H Q _ => ∃ (m dx : Addr) (n : Int) (p : Str), vs = [.ref m, .int n, .str p] ∧ H m = some (.ins C dx []) ∧
  ∀ H' d, Kp [m] H H' → H d = none → ModAt C H' m n p d [] → Q .non H'
def spBind (C : Addr) : Sp := fun vs H Q _ => ∃ (m d : Addr) (n : Int) (p z : Str) (v : V) (kvs : List (Key × V)), vs = [.ref m, .str z, v] ∧ ModAt C H m n p d kvs ∧ kvs.length ≤ 1000 ∧
  Q .non (upd H d (.dK (putK kvs (.inr z) v)))
def spBound (C : Addr) : Sp := fun vs H Q _ => ∃ (m d : Addr) (n : Int) (p : Str) (kvs : List (Key × V)) (ks : List Str), vs = [.ref m] ∧ ModAt C H m n p d kvs ∧ kvs.map (·.1) = ks.map Sum.inr ∧ ks.length < 64 ∧
  ∀ (ys : List Str) (l : Addr), ys.Perm ks → sortedS ys = true → H l = none → Q (.ref l) (upd H l (.lst (ys.map V.str)))
section
variable {P : Program} {w : World} {K : PySem.W.Frag} {mg : Str → Option Value} {base : Heap} {C_Module C_Runs : Addr}
theorem ok_m_init {f : Addr} {fd : FuncData} (F : Fun K "__init__" "Module.__init__" s_Module_init f fd) (T : Txt K mg C_Module C_Runs) : FnOk P w K mg base CX0 1 f fd ["self", "number", "path"] (spMInit C_Module) := by
  refine F.ok sc_Module_init (fun vs H Q E h => ?_) (fun cdv A outer s H vs Q E hr h => ?_)
  · obtain ⟨m, dx, n, p, rfl, _⟩ := h
    rfl
  · obtain ⟨m, dx, n, p, rfl, hm, q⟩ := h
    refine ⟨_, (pss_cons (ps_fld (pv 0) (pv 1) rfl)
      (pss_cons (ps_fld (pv 0) (pv 2) rfl)
      (pss_one (ps_fld (pv 0) pe_dnewK rfl)))), ?_⟩
    refine st_start (σ' := [some (.ref m), some (.int n), some (.str p)]) rfl ?_
    walk_at "S"
    refine s_insP hm T.cl_Module T.n_Module_number (by decide) ?_
    walk_at "S"
    refine s_insP upd_same T.cl_Module T.n_Module_path (by show 1 < 1000; decide) ?_
    walk_at "S"
    intro d hd
    have nmd : m ≠ d := ne_of_none upd_same hd
    walk_at "S"
    refine s_insP ((upd_ne nmd).trans upd_same) T.cl_Module T.n_Module_things (by simp only [putF]; rw [if_neg (by decide +kernel)]; show 2 < 1000; decide) ?_
    rw [modF_put]
    have hd0 : H d = none := by
      have k : Kp [m] H (upd (upd H m (.ins C_Module dx (putF "number" (.int n) []))) m (.ins C_Module dx (putF "path" (.str p) (putF "number" (.int n) [])))) := by walk_at "K"
      exact k.free ⟨nmd.symm, trivial⟩ hd
    refine q _ d ?_ hd0 ⟨⟨dx, upd_same⟩, (upd_ne nmd.symm).trans upd_same⟩
    walk_at "K"
theorem ok_bind {f : Addr} {fd : FuncData} (F : Fun K "bind" "Module.bind" s_Module_bind f fd) (T : Txt K mg C_Module C_Runs) : FnOk P w K mg base CX0 1 f fd ["self", "name", "thing"] (spBind C_Module) := by
  refine F.ok sc_Module_bind (fun vs H Q E h => ?_) (fun cdv A outer s H vs Q E hr h => ?_)
  · obtain ⟨m, d, n, p, z, v, kvs, rfl, _⟩ := h
    rfl
  · obtain ⟨m, d, n, p, z, v, kvs, rfl, ⟨⟨dx, hm⟩, hd⟩, hl, q⟩ := h
    have hu := hu_of hr
    refine ⟨_, (pss_one (ps_dput hu (kFld (K := K) rfl (pe_fld (pv 0) rfl)) (pv 1) (pv 2) rfl)), ?_⟩
    refine st_start (σ' := [some (.ref m), some (.str z), some v]) rfl ?_
    walk_at "S"
    refine s_ins hm T.cl_Module T.n_Module_things (lk_things _ _ _) ?_
    walk_at "S"
    exact s_putS hd (small_lt (by omega)) q
theorem ok_bound {f : Addr} {fd : FuncData} (F : Fun K "bound" "Module.bound" s_Module_bound f fd) (T : Txt K mg C_Module C_Runs) : FnOk P w K mg base CX0 1 f fd ["self"] (spBound C_Module) := by
  refine F.ok sc_Module_bound (fun vs H Q E h => ?_) (fun cdv A outer s H vs Q E hr h => ?_)
  · obtain ⟨m, d, n, p, kvs, ks, rfl, _⟩ := h
    rfl
  · obtain ⟨m, d, n, p, kvs, ks, rfl, ⟨⟨dx, hm⟩, hd⟩, hk, few, q⟩ := h
    refine ⟨_, (pss_one (ps_ret (pe_callB (call_sortedD rfl) (by rfl) T.n_sorted (by decide +kernel) (pa_cons (kFld (K := K) rfl (pe_fld (pv 0) rfl)) pa_nil)))), ?_⟩
    refine st_start (σ' := [some (.ref m)]) rfl ?_
    walk_at "S"
    refine s_ins hm T.cl_Module T.n_Module_things (lk_things _ _ _) ?_
    walk_at "S"
    exact ⟨d, kvs, ks, rfl, .inl hd, hk, few, q⟩
end

/-! what names are -/
structure OkN (z : Str) : Prop where
  pos : 1 ≤ z.length
  len : z.length ≤ 8
  abc : ∀ c ∈ tl z, c ∈ lets
structure Taken (zs : List Str) : Prop where
  nd : zs.Nodup
  ok : ∀ z ∈ zs, OkN z
theorem OkN.nm {z : Str} (h : OkN z) : isNameL (tl z) = true := isNameL_of (by rw [← len_tl]; exact h.pos) (by rw [← len_tl]; exact h.len) h.abc
theorem OkN.path {z : Str} (h : OkN z) : isPathL (tl z) = true := isPathL_of (ps := [tl z]) (by simp) (by simp) fun p hp => by rw [List.mem_singleton.mp hp]; exact h.nm
theorem OkN.okl {z : Str} (h : OkN z) : OkL (tl z) := isNameL_ok h.nm
theorem lets_nd : ∀ c ∈ lets, c ≠ 46 := by decide +kernel
theorem lets_lt : ∀ c ∈ lets, c < 1114112 := by decide +kernel
theorem cut_mem {z : Str} {lo hi : Option Int} {c : Nat} (h : c ∈ tl (cutS z lo hi)) : c ∈ tl z :=
  List.mem_of_mem_drop (List.mem_of_mem_take (show c ∈ List.take (HT.sIx z.length z.length hi - HT.sIx z.length 0 lo) (List.drop (HT.sIx z.length 0 lo) z.cps.toList) from h))
theorem cut8 (z : Str) : (cutS z none (some 8)).length ≤ 8 := by
  rw [len_tl]
  show ((z.cps.toList.drop (HT.sIx z.length 0 none)).take (HT.sIx z.length z.length (some 8) - HT.sIx z.length 0 none)).length ≤ 8
  rw [List.length_take, show HT.sIx z.length z.length (some 8) = min 8 z.length from HT.sIx_nat z.length z.length 8]
  omega
theorem OkN.name {cs : List Nat} (h0 : 1 ≤ cs.length) (h : cs.length ≤ 8) (g : ∀ c ∈ cs, c ∈ lets) : OkN (mkS cs) := ⟨by rw [mkS_len]; exact h0, by rw [mkS_len]; exact h, g⟩
theorem cut8_len (z : Str) : (cutS z none (some 8)).length = min 8 z.length := by
  rw [len_tl]
  show ((z.cps.toList.drop (HT.sIx z.length 0 none)).take (HT.sIx z.length z.length (some 8) - HT.sIx z.length 0 none)).length = _
  rw [List.length_take, List.length_drop, show HT.sIx z.length z.length (some 8) = min 8 z.length from HT.sIx_nat z.length z.length 8, show HT.sIx z.length 0 none = 0 from HT.sIx_none .., show z.cps.toList.length = z.length from (len_tl z).symm]
  omega
abbrev cands : List Str := lets.map sg
theorem lets_at {i c : Nat} (h : ("abcdefghijklmnopqrstuvwxyz" : Str).cps[i]? = some c) : lets[i]? = some c := by
  show ("abcdefghijklmnopqrstuvwxyz" : Str).cps.toList[i]? = some c
  rw [Array.getElem?_toList]
  exact h
theorem cands_nd : cands.Nodup := by decide +kernel
theorem cands_ok : ∀ z ∈ cands, 1 ≤ z.length ∧ z.length ≤ 8 ∧ ∀ c ∈ tl z, c ∈ lets := by decide +kernel
theorem cands_len : cands.length = 26 := by decide +kernel
theorem free_cand {zs : List Str} (h : zs.length ≤ 25) : cands.filter (fun c => !decide (c ∈ zs)) ≠ [] := fun e => by
  have := List.Nodup.length_le_of_subset (l₂ := zs) cands_nd fun x hx => by
    by_cases m : x ∈ zs
    · exact m
    · have : x ∈ cands.filter (fun c => !decide (c ∈ zs)) := List.mem_filter.mpr ⟨hx, by simp [m]⟩
      rw [e] at this
      cases this
  rw [cands_len] at this
  omega
/-! tuples and instances stay -/
structure TIK (H H' : Hp) : Prop where
  tup : ∀ {a : Addr} {xs : List V}, H a = some (.tup xs) → H' a = some (.tup xs)
  ins : ∀ {a C dx : Addr} {fs : List (Str × V)}, H a = some (.ins C dx fs) → H' a = some (.ins C dx fs)
/-- what may change: a list, a dict -/
def Mut (H : Hp) (x : Addr) : Prop := (∃ xs, H x = some (.lst xs)) ∨ ∃ kvs, H x = some (.dK kvs)
theorem TIK.of {W : List Addr} {H H' : Hp} (k : Kp W H H') (m : ∀ x ∈ W, Mut H x) : TIK H H' := by
  refine ⟨fun {a xs} e => k.get (Nin.intro fun x hx z => ?_) e, fun {a C dx fs} e => k.get (Nin.intro fun x hx z => ?_) e⟩
  · subst z
    rcases m _ hx with ⟨ys, h⟩ | ⟨kvs, h⟩ <;> rw [e] at h <;> cases h
  · subst z
    rcases m _ hx with ⟨ys, h⟩ | ⟨kvs, h⟩ <;> rw [e] at h <;> cases h
theorem TIK.same {H H' : Hp} (k : Kp [] H H') : TIK H H' := .of k fun x hx => absurd hx List.not_mem_nil
theorem TIK.tr {A B C : Hp} (h : TIK A B) (g : TIK B C) : TIK A C := ⟨fun e => g.tup (h.tup e), fun e => g.ins (h.ins e)⟩
theorem Mut.pot {H : Hp} {p : Addr} (h : PotOk H p) : Mut H p := by obtain ⟨s, e⟩ := h; exact .inl ⟨_, e⟩
theorem TIK.pot {H H' : Hp} {p : Addr} (k : Kp [p] H H') (h : PotOk H p) : TIK H H' := .of k fun x hx => by rw [List.mem_singleton.mp hx]; exact .pot h
theorem pot_strs {H : Hp} {p t : Addr} {zs : List Str} (h : PotOk H p) (g : H t = some (.lst (zs.map V.str))) : p ≠ t := by
  rintro rfl
  obtain ⟨s, e⟩ := h
  rw [e] at g
  cases zs with
  | nil => simp at g
  | cons z r => simp at g
/-- a row as drawn, its paths among ps -/
inductive RowK (ps : List Str) : PyData → Prop
  | set {z : Str} {n : Int} : OkN z → n.natAbs < 10 ^ 60 → RowK ps (.tuple [.str "set", .str z, .int n])
  | take {z p : Str} : OkN z → p ∈ ps → RowK ps (.tuple [.str "take", .str z, .str p])
  | note {p : Str} : p ∈ ps → RowK ps (.tuple [.str "note", .str p])
theorem RowK.flat {ps : List Str} {x : PyData} (h : RowK ps x) (ok : ∀ p ∈ ps, OkN p) : OkFlat x := by
  cases h with
  | @set z n h g =>
    have := OkFlat.set (l := tl z) (n := n) h.nm (Nat.lt_of_lt_of_le g (by decide +kernel))
    unfold sD at this
    rwa [mkS_tl] at this
  | @take z p h g =>
    have := OkFlat.lead (w := "take") (l := tl z) (q := tl p) (by simp [leadW]) h.nm (ok p g).path
    unfold sD at this
    rwa [mkS_tl, mkS_tl] at this
  | @note p g =>
    have := OkFlat.note (q := tl p) (ok p g).path
    unfold sD at this
    rwa [mkS_tl] at this
def spName : Sp := fun vs H Q _ => ∃ (p t : Addr) (zs : List Str), vs = [.ref p, .ref t] ∧ PotOk H p ∧ H t = some (.lst (zs.map V.str)) ∧ Taken zs ∧ zs.length ≤ 20 ∧
  ∀ H' z, Kp [p, t] H H' → PotOk H' p → H' t = some (.lst ((zs ++ [z]).map V.str)) → Taken (zs ++ [z]) → Q (.str z) H'
def spNumber : Sp := fun vs H Q _ => ∃ p : Addr, vs = [.ref p] ∧ PotOk H p ∧ ∀ H' (n : Int), Kp [p] H H' → PotOk H' p → n.natAbs < 10 ^ 60 → Q (.int n) H'
def spRow (K : PySem.W.Frag) : Sp := fun vs H Q _ => ∃ (p A B : Addr) (ps zs : List Str), vs = [.ref p, .ref A, .ref B] ∧ PotOk H p ∧ H A = some (.lst (ps.map V.str)) ∧ H B = some (.lst (zs.map V.str)) ∧ ps ≠ [] ∧ zs ≠ [] ∧ ps.length ≤ 20 ∧ zs.length ≤ 20 ∧ (∀ z ∈ zs, OkN z) ∧
  ∀ H' t x, Kp [p] H H' → PotOk H' p → Dp K H' (.ref t) x → RowK ps x → Q (.ref t) H'
def ten : List V := [.str "begin", .str "end", .str "fail", .str "have", .str "again", .str "note", .str "anew", .str "take", .str "set", .str "done"]
theorem ten_ok : ∀ y ∈ ten, ∃ z : Str, y = .str z ∧ OkN z := by
  have e : ∀ z ∈ (["begin", "end", "fail", "have", "again", "note", "anew", "take", "set", "done"] : List Str), 1 ≤ z.length ∧ z.length ≤ 8 ∧ ∀ c ∈ tl z, c ∈ lets := by decide +kernel
  intro y hy
  have : y ∈ (["begin", "end", "fail", "have", "again", "note", "anew", "take", "set", "done"] : List Str).map V.str := hy
  obtain ⟨z, hz, rfl⟩ := List.mem_map.mp this
  exact ⟨z, rfl, (e z hz).1, (e z hz).2.1, (e z hz).2.2⟩
section
variable {P : Program} {w : World} {K : PySem.W.Frag} {mg : Str → Option Value} {base : Heap} {C_Module C_Runs : Addr}
theorem pickM {α : Type} {xs : List α} {g : α → V} {v : Int} (h0 : 0 ≤ v) (h1 : v < (xs.length : Int)) : ∃ (n : Nat) (x : α), v = (n : Int) ∧ n < xs.length ∧ xs[n]? = some x ∧ x ∈ xs ∧ atI (xs.map g) v = some (g x) := by
  obtain ⟨n, rfl⟩ := Int.eq_ofNat_of_zero_le h0
  have hn : n < xs.length := by omega
  refine ⟨n, xs[n], rfl, hn, List.getElem?_eq_getElem hn, List.getElem_mem hn, atI_nat ?_⟩
  rw [List.getElem?_map, List.getElem?_eq_getElem hn]
  rfl
theorem ok_l_name {f : Addr} {fd : FuncData} (F : Fun K "_law_name" "_law_name" s_l_name f fd) (T : Txt K mg C_Module C_Runs)
    (D_l_draw : DnF P w K mg base 1 "_law_draw" ["_law_pot_here", "_law_many"] spDraw) :
    FnOk P w K mg base CX0 2 f fd ["_law_pot_here", "_law_taken_here"] spName := by
  refine F.ok sc_l_name (fun vs H Q E h => ?_) (fun cdv A outer s H vs Q E hr h => ?_)
  · obtain ⟨p, t, zs, rfl, _⟩ := h
    rfl
  · obtain ⟨f_l_draw, fd_l_draw, G_l_draw, m_l_draw, k_l_draw, b_l_draw⟩ := D_l_draw
    obtain ⟨p, t, zs, rfl, hp, ht, tk, nz, q⟩ := h
    have npt := pot_strs hp ht
    have eA : (tl ("abcdefghijklmnopqrstuvwxyz" : Str)) = lets := rfl
    refine ⟨_, (pss_cons (ps_set (i := 2) sc_l_name.nd rfl (Or.inr rfl) pe_str)
      (pss_cons (ps_set (i := 3) sc_l_name.nd rfl (Or.inl rfl) (pe_m1 PySem.F.slot_str_join PySem.F.type_str_join (joinK (K := K) rfl) pe_str (pe_lc (own := [("_law_k", 5)]) (g := gName 5) (tt := tYes) rfl sc_l_name.nd (pi_range1 rfl T.n_range (pa_cons (pe_op op_add pe_int (pe_op op_mul (pe_call G_l_draw (hr.mono (by first | decide | omega)) (by rfl) m_l_draw k_l_draw b_l_draw .nil pass0 (pa_cons (pv 0) (pa_cons pe_int pa_nil))) (pe_call G_l_draw (hr.mono (by first | decide | omega)) (by rfl) m_l_draw k_l_draw b_l_draw .nil pass0 (pa_cons (pv 0) (pa_cons pe_int pa_nil))))) pa_nil)) (blkOk_by (own := [("_law_k", 5)]) (N := N_l_name) (sc := (defScope s_l_name)) (by decide +kernel)) (fun _ _ _ _ _ => (pg_name (i := 5) sc_l_name.nd rfl (Or.inl rfl))) (fun _ _ _ _ _ => pts_nil) (fun _ _ _ _ _ => (pe_ix ix_str (pv 2) (pe_call G_l_draw (hr.mono (by first | decide | omega)) (by rfl) m_l_draw k_l_draw b_l_draw .nil pass0 (pa_cons (pv 0) (pa_cons pe_int pa_nil))) (fun _ _ => rfl))))))
      (pss_cons (ps_set (i := 4) sc_l_name.nd rfl (Or.inl rfl) (pe_call G_l_draw (hr.mono (by first | decide | omega)) (by rfl) m_l_draw k_l_draw b_l_draw .nil pass0 (pa_cons (pv 0) (pa_cons pe_int pa_nil))))
      (pss_cut2 (ps_if (pt_cmpR op_eq (pv 4) pe_int (nomark _)) (pss_one (ps_set (i := 3) sc_l_name.nd rfl (Or.inl rfl) (pe_ix (ixLK (K := K) rfl) (pe_lst (pa_cons pe_str (pa_cons pe_str (pa_cons pe_str (pa_cons pe_str (pa_cons pe_str (pa_cons pe_str (pa_cons pe_str (pa_cons pe_str (pa_cons pe_str (pa_cons pe_str pa_nil))))))))))) (pe_call G_l_draw (hr.mono (by first | decide | omega)) (by rfl) m_l_draw k_l_draw b_l_draw .nil pass0 (pa_cons (pv 0) (pa_cons pe_int pa_nil))) (fun _ _ => rfl)))) pss_nil)
      (pss_cut2 (ps_if (PW.pt (pw_and (pt_cmpR op_eq (pv 4) pe_int (nomark _)) (pw_and1 (pt_cmpR (neNilK (K := K) rfl hr.units) (pv 1) (pe_lst pa_nil) (nomark _))))) (pss_one (ps_set (i := 3) sc_l_name.nd rfl (Or.inl rfl) (pe_slice sl_str (pe_op addS (pe_ix (ixLK (K := K) rfl) (pv 1) (pe_un un_neg pe_int) (fun _ _ => rfl)) (pv 3)) po_none (po_some pe_int)))) pss_nil)
      (pss_cut2 (ps_if (pt_cmpR (inK (K := K) rfl) (pv 3) (pv 1) (by rfl)) (pss_one (ps_set (i := 3) sc_l_name.nd rfl (Or.inl rfl) (pe_ix (ixLK (K := K) rfl) (pe_lc (own := [("_law_letter", 6)]) (g := gName 6) rfl sc_l_name.nd (pi_str (pv 2)) (blkOk_by (own := [("_law_letter", 6)]) (N := N_l_name) (sc := (defScope s_l_name)) (by decide +kernel)) (fun _ _ _ _ _ => (pg_name (i := 6) sc_l_name.nd rfl (Or.inl rfl))) (fun _ _ _ _ _ => (pts_one (pt_cmpR (ninK (K := K) rfl) (pv 6) (pv 1) (by rfl)))) (fun _ _ _ _ _ => (pv 6))) pe_int (fun _ _ => rfl)))) pss_nil)
      (pss_cons (ps_expr (kBM (K := K) rfl (pe_bm PySem.F.plainAttrs_list PySem.F.slot_list_append PySem.F.type_list_append mt_append (pv 1) (pa_cons (pv 3) pa_nil))))
      (pss_one (ps_ret (pv 3)))))))))), ?_⟩
    refine st_start (σ' := [some (.ref p), some (.ref t), none, none, none, none, none]) rfl ?_
    walk_at "S"
    refine ⟨p, _, rfl, hp, by omega, by omega, fun H1 v1 k1 hp1 a0 a1 => ?_⟩
    walk_at "S"
    refine ⟨p, _, rfl, hp1, by omega, by omega, fun H2 v2 k2 hp2 b0 b1 => ?_⟩
    have kk : Kp [p] H H2 := k1.step k2 fun x hx => .inl hx
    have b3 : 0 ≤ v1 * v2 ∧ v1 * v2 ≤ 7 := by
      rcases (show v1 = 0 ∨ v1 = 1 by omega) with rfl | rfl
      · simp
      · simp only [Int.one_mul]; omega
    walk_at "S"
    generalize v1 * v2 = m at b3 ⊢
    refine ⟨by omega, by omega, fun l hl => ?_⟩
    have np : p ≠ l := hp2.ne hl
    let PL : Nat → List V → Prop := fun i xs => ∃ cs : List Nat, xs = (cs.map sg).map V.str ∧ (∀ c ∈ cs, c ∈ lets) ∧ cs.length = i
    have L : LcOkP l (1 + m).toNat PL [p] H2 (fun _ H => PotOk H p) :=
      ⟨small_le (by omega), ⟨[], rfl, by simp, rfl⟩, hl, ⟨np.symm, trivial⟩, fun _ _ _ h => h.upd np⟩
    refine lc_goP walk_range L hp2 (fun _ _ => trivial) (fun i x Ha Hb hi I y => ?_) fun H5 I => ?_
    · obtain ⟨rfl, rfl⟩ := y
      obtain ⟨_, _, hpI⟩ := id I
      walk_at "S"
      refine ⟨rfl, ?_⟩
      walk_at "S"
      refine ⟨p, _, rfl, hpI, by omega, by omega, fun Hc v kc hpc e0 e1 => ?_⟩
      obtain ⟨c, hc, hm⟩ := pickS (z := "abcdefghijklmnopqrstuvwxyz") e0 (by rw [show (tl ("abcdefghijklmnopqrstuvwxyz" : Str)).length = 26 from by decide +kernel]; omega)
      refine s_ixS (by decide +kernel) hc ?_
      refine I.put L hi (fun xs hx => ?_) kc hpc
      obtain ⟨cs, rfl, h1, h2⟩ := hx
      refine ⟨cs ++ [c], by simp, fun d hd => ?_, by simp [h2]⟩
      rcases List.mem_append.mp hd with hd | hd
      · exact h1 d hd
      · rw [List.mem_singleton.mp hd]
        exact hm
    obtain ⟨⟨xs, x0, ⟨cs, rfl, hcs, hcl⟩, _⟩, k5, hp5⟩ := I
    walk_at "S"
    have eL : ("" : Str).length = 0 := by decide +kernel
    refine s_joinL (zs := cs.map sg) (sq_l x0) (by rw [sg_sum, List.length_map, eL]; omega) ?_
    rw [join_sg]
    have k05 : Kp [p] H H5 := kk.step k5 fun x hx => .inl hx
    walk_at "S"
    refine ⟨p, _, rfl, hp5, by omega, by omega, fun H6 wy k6 hp6 w0 w1 => ?_⟩
    have k06 : Kp [p] H H6 := k05.step k6 fun x hx => .inl hx
    walk_at "S"
    refine s_cut (fun σ H7 => ∃ z : Str, σ = [some (.ref p), some (.ref t), some (.str "abcdefghijklmnopqrstuvwxyz"), some (.str z), some (.int wy), none, none] ∧ OkN z ∧ Kp [p] H H7 ∧ PotOk H7 p) (fun J hJ => ?_) ?_
    · walk_at "S"
      refine s_dec (fun h => ?_) (fun h => ?_)
      · walk_at "S"
        refine ⟨small_le (by simp), fun l2 hl2 => ?_⟩
        walk_at "S"
        have np2 := hp6.ne hl2
        refine ⟨p, _, rfl, hp6.upd np2, by omega, by omega, fun H7 v7 k7 hp7 e0 e1 => ?_⟩
        obtain ⟨y, hy, hm⟩ := pick (xs := ten) e0 e1
        obtain ⟨z, rfl, hz⟩ := ten_ok y hm
        refine s_ixL (xs := ten) (sq_l (k7.get ⟨np2.symm, trivial⟩ upd_same)) hy ?_
        walk_at "S"
        exact hJ _ _ ⟨z, rfl, hz, (k06.upd_new hl2).step k7 fun x hx => .inl hx, hp7⟩
      · walk_at "S"
        exact hJ _ _ ⟨_, rfl, .name (by omega) (by omega) hcs, k06, hp6⟩
    · rintro σ H7 ⟨z, rfl, hz, k07, hp7⟩
      have ht7 := k07.get ⟨npt.symm, trivial⟩ ht
      walk_at "S"
      refine s_cut (fun σ H8 => ∃ z : Str, σ = [some (.ref p), some (.ref t), some (.str "abcdefghijklmnopqrstuvwxyz"), some (.str z), some (.int wy), none, none] ∧ OkN z ∧ Kp [p] H H8 ∧ PotOk H8 p) (fun J hJ => ?_) ?_
      · walk_at "S"
        refine s_dec (fun h => ?_) (fun h => ?_)
        · walk_at "S"
          refine ⟨small_le (by simp), fun l2 hl2 => ?_⟩
          have np2 := hp7.ne hl2
          have ht8 : upd H7 l2 (.lst []) t = some (.lst (zs.map V.str)) := by walk_at "L"
          walk_at "S"
          refine s_nil0 (sq_l ht8) (sq_l upd_same) ?_
          walk_at "S"
          cases hzs : zs.reverse with
          | nil =>
            have e : zs = [] := by rw [← List.reverse_reverse zs, hzs]; rfl
            subst e
            walk_at "S"
            exact hJ _ _ ⟨z, rfl, hz, k07.upd_new hl2, hp7.upd np2⟩
          | cons zl zr =>
            have e : zs = zr.reverse ++ [zl] := by rw [← List.reverse_reverse zs, hzs, List.reverse_cons]
            have ml : zl ∈ zs := by rw [e]; simp
            rw [show ((zs.map V.str).isEmpty) = false from by rw [e]; simp]
            walk_at "S"
            refine s_ixL (xs := (zr.reverse).map V.str ++ [.str zl]) (sq_l (by rw [ht8, e, List.map_append]; rfl)) (atI_last _ _) ?_
            walk_at "S"
            have l1 := (tk.ok zl ml).len
            have l2' := hz.len
            refine s_addS (small_le (by omega)) ?_
            walk_at "S"
            refine s_slS (small_le (by rw [len_tl, tl_append, List.length_append, ← len_tl, ← len_tl]; omega)) ?_
            walk_at "S"
            refine hJ _ _ ⟨_, rfl, ⟨?_, cut8 _, ?_⟩, k07.upd_new hl2, hp7.upd np2⟩
            · have lz := (tk.ok zl ml).pos
              rw [cut8_len, len_tl, tl_append, List.length_append, ← len_tl, ← len_tl]
              omega
            · intro c hc
              have := cut_mem hc
              rw [tl_append] at this
              rcases List.mem_append.mp this with h | h
              · exact (tk.ok zl ml).abc c h
              · exact hz.abc c h
        · walk_at "S"
          exact hJ _ _ ⟨z, rfl, hz, k07, hp7⟩
      · rintro σ H8 ⟨z, rfl, hz, k08, hp8⟩
        have ht8 := k08.get ⟨npt.symm, trivial⟩ ht
        walk_at "S"
        refine s_cut (fun σ H9 => ∃ z : Str, σ = [some (.ref p), some (.ref t), some (.str "abcdefghijklmnopqrstuvwxyz"), some (.str z), some (.int wy), none, none] ∧ OkN z ∧ z ∉ zs ∧ Kp [p] H H9 ∧ PotOk H9 p) (fun J hJ => ?_) ?_
        · walk_at "S"
          refine ⟨t, _, rfl, .inl (sq_l ht8), rfl, flatV_strs zs, ?_⟩
          rw [inV_strs]
          walk_at "S"
          refine s_dec (fun h => ?_) (fun h => ?_)
          · walk_at "S"
            intro D1 hD1
            have L1 : LcOk D1 ("abcdefghijklmnopqrstuvwxyz" : Str).cps.size (fun i => (((lets.take i).map sg).filter fun c => !decide (c ∈ zs)).map V.str) [] H8 (fun _ _ => True) :=
              ⟨by decide +kernel, rfl, fun i hi => by
                rw [List.length_map]
                have := List.length_filter_le (fun c => !decide (c ∈ zs)) ((lets.take i).map sg)
                rw [List.length_map, List.length_take] at this
                omega, hD1, trivial, fun _ _ _ h => h⟩
            refine lc_go walk_str L1 trivial (fun _ _ => trivial) (fun i x H2' H' hi I y => ?_) fun H9 I => ?_
            · obtain ⟨rfl, c, hc, rfl⟩ := y
              have ht9 := I.2.1.get trivial ht8
              have ep : (lets.take (i + 1)).map sg = (lets.take i).map sg ++ [sg c] := by rw [take_put (lets_at hc), List.map_append]; rfl
              walk_at "S"
              refine ⟨rfl, ?_⟩
              walk_at "S"
              refine ⟨t, _, rfl, .inl (sq_l ht9), rfl, flatV_strs zs, ?_⟩
              rw [inV_strs]
              walk_at "S"
              refine s_ndec (fun h => ?_) (fun h => ?_)
              · walk_at "S"
                refine I.put L1 hi ?_ Kp.refl trivial
                rw [ep, List.filter_append, List.map_append]
                congr 1
                rw [List.filter_cons_of_pos (by simpa using h)]
                rfl
              · refine I.skip L1 ?_ Kp.refl trivial
                rw [ep, List.filter_append, List.filter_cons_of_neg (by simpa using h)]
                simp
            obtain ⟨x1, k9, _⟩ := I
            dsimp only at x1
            rw [show List.take ("abcdefghijklmnopqrstuvwxyz" : Str).cps.size lets = lets from by decide +kernel] at x1
            obtain ⟨c, r, ecr⟩ : ∃ c r, (lets.map sg).filter (fun c => !decide (c ∈ zs)) = c :: r := by
              cases e : (lets.map sg).filter (fun c => !decide (c ∈ zs)) with
              | nil => exact absurd e (free_cand (by omega))
              | cons c r => exact ⟨c, r, rfl⟩
            rw [ecr] at x1
            have mc : c ∈ (lets.map sg).filter (fun c => !decide (c ∈ zs)) := by rw [ecr]; exact List.mem_cons_self
            rw [List.mem_filter] at mc
            walk_at "S"
            refine s_ixL (sq_l x1) (k := ((0 : Nat) : Int)) (atI_nat rfl) ?_
            walk_at "S"
            exact hJ _ _ ⟨c, rfl, ⟨(cands_ok c mc.1).1, (cands_ok c mc.1).2.1, (cands_ok c mc.1).2.2⟩, by simpa using mc.2, k08.tr (Kp.nil_W k9), hp8.kp k9 trivial⟩
          · walk_at "S"
            exact hJ _ _ ⟨z, rfl, hz, h, k08, hp8⟩
        · rintro σ H9 ⟨z, rfl, hz, nm, k09, hp9⟩
          have ht9 := k09.get ⟨npt.symm, trivial⟩ ht
          walk_at "S"
          refine s_append ht9 (small_lt (by rw [List.length_map]; omega)) ?_
          walk_at "S"
          refine q _ z ?_ (hp9.upd npt) (by rw [upd_same, List.map_append]; rfl) ⟨List.nodup_append.mpr ⟨tk.nd, List.pairwise_singleton _ _, fun a ha b hb e => nm (by rw [← List.mem_singleton.mp hb, ← e]; exact ha)⟩, fun y hy => ?_⟩
          · exact (k09.weak fun x hx => by rw [List.mem_singleton.mp hx]; exact List.mem_cons_self).upd_mem (by simp)
          · rcases List.mem_append.mp hy with hy | hy
            · exact tk.ok y hy
            · rw [List.mem_singleton.mp hy]; exact hz
theorem ok_l_number {f : Addr} {fd : FuncData} (F : Fun K "_law_number" "_law_number" s_l_number f fd) (T : Txt K mg C_Module C_Runs)
    (D_l_draw : DnF P w K mg base 1 "_law_draw" ["_law_pot_here", "_law_many"] spDraw) :
    FnOk P w K mg base CX0 2 f fd ["_law_pot_here"] spNumber := by
  refine F.ok sc_l_number (fun vs H Q E h => ?_) (fun cdv A outer s H vs Q E hr h => ?_)
  · obtain ⟨p, rfl, _⟩ := h
    rfl
  · obtain ⟨f_l_draw, fd_l_draw, G_l_draw, m_l_draw, k_l_draw, b_l_draw⟩ := D_l_draw
    obtain ⟨p, rfl, hp, q⟩ := h
    have e : (10 : Int) ^ (60 : Int).toNat = 1000000000000000000000000000000000000000000000000000000000000 := by decide +kernel
    refine ⟨_, (pss_cons (ps_if (pt_cmpR op_eq (pe_call G_l_draw (hr.mono (by first | decide | omega)) (by rfl) m_l_draw k_l_draw b_l_draw .nil pass0 (pa_cons (pv 0) (pa_cons pe_int pa_nil))) pe_int (nomark _)) (pss_one (ps_ret (pe_op op_add (pe_op op_sub (pe_call G_l_draw (hr.mono (by first | decide | omega)) (by rfl) m_l_draw k_l_draw b_l_draw .nil pass0 (pa_cons (pv 0) (pa_cons (pe_op op_sub (pe_op op_mul pe_int (pe_op op_pow pe_int pe_int)) pe_int) pa_nil))) (pe_op op_pow pe_int pe_int)) pe_int))) pss_nil)
      (pss_one (ps_ret (pe_op op_sub (pe_call G_l_draw (hr.mono (by first | decide | omega)) (by rfl) m_l_draw k_l_draw b_l_draw .nil pass0 (pa_cons (pv 0) (pa_cons pe_int pa_nil))) pe_int)))), ?_⟩
    refine st_start (σ' := [some (.ref p)]) rfl ?_
    walk_at "S"
    refine ⟨p, _, rfl, hp, by omega, by omega, fun H1 v1 k1 hp1 a0 a1 => ?_⟩
    walk_at "S"
    refine s_dec (fun h => ?_) (fun h => ?_)
    · walk_at "S"
      rw [e]
      refine ⟨p, _, rfl, hp1, by omega, by omega, fun H2 v2 k2 hp2 b0 b1 => ?_⟩
      walk_at "S"
      rw [e]
      exact q _ _ (k1.tr k2) hp2 (by omega)
    · walk_at "S"
      refine ⟨p, _, rfl, hp1, by omega, by omega, fun H2 v2 k2 hp2 b0 b1 => ?_⟩
      walk_at "S"
      exact q _ _ (k1.tr k2) hp2 (by omega)
theorem ok_l_row {f : Addr} {fd : FuncData} (F : Fun K "_law_row" "_law_row" s_l_row f fd) (T : Txt K mg C_Module C_Runs)
    (D_l_draw : DnF P w K mg base 1 "_law_draw" ["_law_pot_here", "_law_many"] spDraw) (D_l_number : DnF P w K mg base 2 "_law_number" ["_law_pot_here"] spNumber) :
    FnOk P w K mg base CX0 3 f fd ["_law_pot_here", "_law_paths", "_law_names"] (spRow K) := by
  refine F.ok sc_l_row (fun vs H Q E h => ?_) (fun cdv A outer s H vs Q E hr h => ?_)
  · obtain ⟨p, A, B, ps, zs, rfl, _⟩ := h
    rfl
  · obtain ⟨f_l_draw, fd_l_draw, G_l_draw, m_l_draw, k_l_draw, b_l_draw⟩ := D_l_draw; obtain ⟨f_l_number, fd_l_number, G_l_number, m_l_number, k_l_number, b_l_number⟩ := D_l_number
    obtain ⟨p, A, B, ps, zs, rfl, hp, hA, hB, np, nz, lp, lz, okz, q⟩ := h
    have l1 := List.length_pos_iff.mpr np
    have l2 := List.length_pos_iff.mpr nz
    refine ⟨_, (pss_cons (ps_set (i := 3) sc_l_row.nd rfl (Or.inl rfl) (pe_call G_l_draw (hr.mono (by first | decide | omega)) (by rfl) m_l_draw k_l_draw b_l_draw .nil pass0 (pa_cons (pv 0) (pa_cons pe_int pa_nil))))
      (pss_cons (ps_set (i := 4) sc_l_row.nd rfl (Or.inl rfl) (pe_ix (ixLK (K := K) rfl) (pv 2) (pe_call G_l_draw (hr.mono (by first | decide | omega)) (by rfl) m_l_draw k_l_draw b_l_draw .nil pass0 (pa_cons (pv 0) (pa_cons (pe_callB (lenK (K := K) rfl) (by rfl) T.n_len (by decide +kernel) (pa_cons (pv 2) pa_nil)) pa_nil))) (fun _ _ => rfl)))
      (pss_cons (ps_set (i := 5) sc_l_row.nd rfl (Or.inl rfl) (pe_ix (ixLK (K := K) rfl) (pv 1) (pe_call G_l_draw (hr.mono (by first | decide | omega)) (by rfl) m_l_draw k_l_draw b_l_draw .nil pass0 (pa_cons (pv 0) (pa_cons (pe_callB (lenK (K := K) rfl) (by rfl) T.n_len (by decide +kernel) (pa_cons (pv 1) pa_nil)) pa_nil))) (fun _ _ => rfl)))
      (pss_cons (ps_if (pt_cmpR op_lt (pv 3) pe_int (nomark _)) (pss_one (ps_ret (pe_tup (pa_cons pe_str (pa_cons (pv 4) (pa_cons (pe_call G_l_number (hr.mono (by first | decide | omega)) (by rfl) m_l_number k_l_number b_l_number .nil pass0 (pa_cons (pv 0) pa_nil)) pa_nil)))))) pss_nil)
      (pss_cons (ps_if (pt_cmpR op_lt (pv 3) pe_int (nomark _)) (pss_one (ps_ret (pe_tup (pa_cons pe_str (pa_cons (pv 4) (pa_cons (pv 5) pa_nil)))))) pss_nil)
      (pss_one (ps_ret (pe_tup (pa_cons pe_str (pa_cons (pv 5) pa_nil)))))))))), ?_⟩
    refine st_start (σ' := [some (.ref p), some (.ref A), some (.ref B), none, none, none]) rfl ?_
    walk_at "S"
    refine ⟨p, _, rfl, hp, by omega, by omega, fun H1 v1 k1 hp1 a0 a1 => ?_⟩
    have hB1 := k1.get (nin1' (pot_strs hp hB)) hB
    have hA1 := k1.get (nin1' (pot_strs hp hA)) hA
    walk_at "S"
    rw [List.length_map]
    refine ⟨p, _, rfl, hp1, by omega, by omega, fun H2 v2 k2 hp2 b0 b1 => ?_⟩
    have hB2 := k2.get (nin1' (pot_strs hp1 hB1)) hB1
    have hA2 := k2.get (nin1' (pot_strs hp1 hA1)) hA1
    obtain ⟨jz, z, rfl, _, _, mz, az⟩ := pickM (g := V.str) b0 b1
    refine s_ixL (sq_l hB2) az ?_
    walk_at "S"
    rw [List.length_map]
    refine ⟨p, _, rfl, hp2, by omega, by omega, fun H3 v3 k3 hp3 c0 c1 => ?_⟩
    have hA3 := k3.get (nin1' (pot_strs hp2 hA2)) hA2
    obtain ⟨jy, y, rfl, _, _, my, ay⟩ := pickM (g := V.str) c0 c1
    refine s_ixL (sq_l hA3) ay ?_
    have k03 := (k1.tr k2).tr k3
    walk_at "S"
    refine s_dec (fun h => ?_) (fun h => ?_)
    · walk_at "S"
      refine ⟨p, rfl, hp3, fun H4 n k4 hp4 hn => ?_⟩
      walk_at "S"
      exact ⟨small_le (by simp), fun t ht => q _ t _ ((k03.tr k4).upd_new ht) (hp4.kp (Kp.refl (W := []) |>.upd_new ht) trivial) (.tup (sq_t upd_same) (.cons (.str _) (.cons (.str _) (.cons (.int _) .nil)))) (.set (okz z mz) hn)⟩
    · walk_at "S"
      refine s_dec (fun h => ?_) (fun h => ?_)
      · walk_at "S"
        exact ⟨small_le (by simp), fun t ht => q _ t _ (k03.upd_new ht) (hp3.kp (Kp.refl (W := []) |>.upd_new ht) trivial) (.tup (sq_t upd_same) (.cons (.str _) (.cons (.str _) (.cons (.str _) .nil)))) (.take (okz z mz) my)⟩
      · walk_at "S"
        exact ⟨small_le (by simp), fun t ht => q _ t _ (k03.upd_new ht) (hp3.kp (Kp.refl (W := []) |>.upd_new ht) trivial) (.tup (sq_t upd_same) (.cons (.str _) (.cons (.str _) .nil))) (.note my)⟩
end

/-! the stock -/
structure Bd where
  p : Str
  a : Addr
  rows : List PyData
abbrev Bd.kv (b : Bd) : Key × V := (Sum.inr b.p, V.ref b.a)
structure StAt (K : PySem.W.Frag) (H : Hp) (S : Addr) (bs : List Bd) : Prop where
  at_ : H S = some (.dK (bs.map Bd.kv))
  nd : (bs.map (·.p)).Nodup
  ok : ∀ b ∈ bs, OkN b.p
  dp : ∀ b ∈ bs, Dp K H (.ref b.a) (.tuple b.rows)
  row : ∀ b ∈ bs, ∀ r ∈ b.rows, RowK (bs.map (·.p)) r
  len : ∀ b ∈ bs, b.rows.length ≤ 40
  few : bs.length ≤ 8
  ne : bs ≠ []
theorem RowK.flatD {ps : List Str} {x : PyData} (h : RowK ps x) : flatD x = true := by cases h <;> rfl
theorem flat_rows {ps : List Str} {rs : List PyData} (h : ∀ r ∈ rs, RowK ps r) : flatD (.tuple rs) = true := flatAll_of fun x hx => (h x hx).flatD
theorem TupK.pot {H H' : Hp} {p : Addr} (k : Kp [p] H H') (h : PotOk H p) : TupK H H' := .of k fun x hx => by
  rw [List.mem_singleton.mp hx]
  obtain ⟨s, e⟩ := h
  exact .lst e
theorem TupK.same {H H' : Hp} (k : Kp [] H H') : TupK H H' := .of k fun x hx => absurd hx List.not_mem_nil
theorem notup_dK {H : Hp} {a : Addr} {kvs : List (Key × V)} (h : H a = some (.dK kvs)) : NoTup H a := fun ys r => by
  rcases r with r | ⟨o, r⟩ <;> rw [h] at r <;> cases r
theorem TupK.dic {H : Hp} {a : Addr} {kvs : List (Key × V)} {o : HO} (h : H a = some (.dK kvs)) : TupK H (upd H a o) :=
  .of (W := [a]) (Kp.refl.upd_mem List.mem_cons_self) fun x hx => by rw [List.mem_singleton.mp hx]; exact notup_dK h
theorem val_kv {bs : List Bd} {p : Str} (h : p ∉ bs.map (·.p)) : valV (bs.map Bd.kv) (.inr p) = none := by
  induction bs with
  | nil => rfl
  | cons b r ih =>
    rw [List.map_cons, List.mem_cons, not_or] at h
    rw [List.map_cons]
    exact (valV_neg (p := b.kv) fun e => h.1 (Sum.inr.inj e).symm).trans (ih h.2)
theorem val_kv_at {bs : List Bd} {b : Bd} (nd : (bs.map (·.p)).Nodup) (h : b ∈ bs) : valV (bs.map Bd.kv) (.inr b.p) = some (.ref b.a) := by
  induction bs with
  | nil => cases h
  | cons c r ih =>
    rw [List.map_cons, List.nodup_cons] at nd
    rw [List.map_cons]
    rcases List.mem_cons.mp h with rfl | h
    · exact valV_pos (p := b.kv) rfl
    · exact (valV_neg (p := c.kv) fun e => nd.1 (by rw [Sum.inr.inj e]; exact List.mem_map.mpr ⟨b, h, rfl⟩)).trans (ih nd.2 h)
def spStock (K : PySem.W.Frag) : Sp := fun vs H Q _ => ∃ p : Addr, vs = [.ref p] ∧ PotOk H p ∧ ∀ H' S bs, Kp [p] H H' → PotOk H' p → H S = none → StAt K H' S bs → Q (.ref S) H'
theorem most8 : ∀ y ∈ ([.int 6, .int 6, .int 6, .int 40, .int 6, .int 6, .int 6, .int 6] : List V), ∃ m : Int, y = .int m ∧ 0 < m ∧ m ≤ 40 := by
  intro y hy
  simp only [List.mem_cons, List.not_mem_nil, or_false] at hy
  rcases hy with rfl | rfl | rfl | rfl | rfl | rfl | rfl | rfl <;> exact ⟨_, rfl, by decide, by decide⟩
section
variable {P : Program} {w : World} {K : PySem.W.Frag} {mg : Str → Option Value} {base : Heap} {C_Module C_Runs : Addr}
theorem ok_l_stock {f : Addr} {fd : FuncData} (F : Fun K "_law_stock" "_law_stock" s_l_stock f fd) (T : Txt K mg C_Module C_Runs)
    (D_l_draw : DnF P w K mg base 1 "_law_draw" ["_law_pot_here", "_law_many"] spDraw) (D_l_name : DnF P w K mg base 2 "_law_name" ["_law_pot_here", "_law_taken_here"] spName) (D_l_row : DnF P w K mg base 3 "_law_row" ["_law_pot_here", "_law_paths", "_law_names"] (spRow K)) :
    FnOk P w K mg base CX0 4 f fd ["_law_pot_here"] (spStock K) := by
  refine F.ok sc_l_stock (fun vs H Q E h => ?_) (fun cdv A outer s H vs Q E hr h => ?_)
  · obtain ⟨p, rfl, _⟩ := h
    rfl
  · obtain ⟨f_l_draw, fd_l_draw, G_l_draw, m_l_draw, k_l_draw, b_l_draw⟩ := D_l_draw; obtain ⟨f_l_name, fd_l_name, G_l_name, m_l_name, k_l_name, b_l_name⟩ := D_l_name; obtain ⟨f_l_row, fd_l_row, G_l_row, m_l_row, k_l_row, b_l_row⟩ := D_l_row
    obtain ⟨p, rfl, hp, q⟩ := h
    have hu := hu_of hr
    refine ⟨_, (pss_cons (ps_set (i := 1) sc_l_stock.nd rfl (Or.inl rfl) (pe_ix (ixLK (K := K) rfl) (pe_lst (pa_cons pe_int (pa_cons pe_int (pa_cons pe_int (pa_cons pe_int (pa_cons pe_int (pa_cons pe_int (pa_cons pe_int (pa_cons pe_int pa_nil))))))))) (pe_call G_l_draw (hr.mono (by first | decide | omega)) (by rfl) m_l_draw k_l_draw b_l_draw .nil pass0 (pa_cons (pv 0) (pa_cons pe_int pa_nil))) (fun _ _ => rfl)))
      (pss_cons (ps_set (i := 2) sc_l_stock.nd rfl (Or.inr rfl) (pe_lst pa_nil))
      (pss_cons (ps_for PassesOwn.never rfl (pi_range1 rfl T.n_range (pa_cons (pe_op op_add pe_int (pe_call G_l_draw (hr.mono (by first | decide | omega)) (by rfl) m_l_draw k_l_draw b_l_draw .nil pass0 (pa_cons (pv 0) (pa_cons pe_int pa_nil)))) pa_nil)) (pg_name (i := 3) sc_l_stock.nd rfl (Or.inl rfl)) (pss_one (ps_expr (pe_call G_l_name (hr.mono (by first | decide | omega)) (by rfl) m_l_name k_l_name b_l_name .nil pass0 (pa_cons (pv 0) (pa_cons (pv 2) pa_nil))))))
      (pss_cons (ps_set (i := 4) sc_l_stock.nd rfl (Or.inr rfl) (pe_callTy (listK (K := K) rfl) (by rfl) T.n_list (by decide +kernel) (pa_cons (pv 2) pa_nil)))
      (pss_cons (ps_expr (pe_call G_l_name (hr.mono (by first | decide | omega)) (by rfl) m_l_name k_l_name b_l_name .nil pass0 (pa_cons (pv 0) (pa_cons (pv 4) pa_nil))))
      (pss_cons (ps_set (i := 5) sc_l_stock.nd rfl (Or.inl rfl) pe_dnewK)
      (pss_cons (ps_for PassesOwn.never rfl (kiL (K := K) rfl (pi_list (pv 2))) (pg_name (i := 6) sc_l_stock.nd rfl (Or.inl rfl)) (pss_one (ps_dput hu (pv 5) (pv 6) (pe_callTy (tupleK (K := K) rfl) (by rfl) T.n_tuple (by decide +kernel) (pa_cons (pe_lc (own := [("_law_k", 3)]) (g := gName 3) (tt := tYes) rfl sc_l_stock.nd (pi_range1 rfl T.n_range (pa_cons (pe_call G_l_draw (hr.mono (by first | decide | omega)) (by rfl) m_l_draw k_l_draw b_l_draw .nil pass0 (pa_cons (pv 0) (pa_cons (pe_op op_add (pv 1) pe_int) pa_nil))) pa_nil)) (blkOk_by (own := [("_law_k", 3)]) (N := N_l_stock) (sc := (defScope s_l_stock)) (by decide +kernel)) (fun _ _ _ _ _ => (pg_name (i := 3) sc_l_stock.nd rfl (Or.inl rfl))) (fun _ _ _ _ _ => pts_nil) (fun _ _ _ _ _ => (pe_call G_l_row (hr.mono (by first | decide | omega)) (by rfl) m_l_row k_l_row b_l_row .nil pass0 (pa_cons (pv 0) (pa_cons (pv 2) (pa_cons (pv 4) pa_nil)))))) pa_nil)) rfl)))
      (pss_one (ps_ret (pv 5)))))))))), ?_⟩
    refine st_start (σ' := [some (.ref p), none, none, none, none, none, none]) rfl ?_
    walk_at "S"
    refine ⟨small_le (by simp), fun l0 hl0 => ?_⟩
    have np0 := hp.ne hl0
    walk_at "S"
    refine ⟨p, _, rfl, hp.upd np0, by omega, by omega, fun H1 v1 k1 hp1 a0 a1 => ?_⟩
    obtain ⟨y, hy, my⟩ := pick (xs := ([.int 6, .int 6, .int 6, .int 40, .int 6, .int 6, .int 6, .int 6] : List V)) a0 (by simpa using a1)
    obtain ⟨most, rfl, m0, m1⟩ := most8 y my
    refine s_ixL (sq_l (k1.get (nin1' np0) upd_same)) hy ?_
    have k01 : Kp [p] H H1 := (Kp.refl.upd_new hl0).tr k1
    walk_at "S"
    refine ⟨small_le (by simp), fun A hA => ?_⟩
    have npA := hp1.ne hA
    have hA0 : H A = none := k01.free ⟨npA.symm, trivial⟩ hA
    walk_at "S"
    refine ⟨p, _, rfl, hp1.upd npA, by omega, by omega, fun H2 v2 k2 hp2 b0 b1 => ?_⟩
    have eA2 : H2 A = some (.lst []) := k2.get (nin1' npA) upd_same
    have k02 : Kp [p] H H2 := k01.tr ((Kp.refl.upd_new hA).tr k2)
    walk_at "S"
    refine ⟨by omega, by omega, ?_⟩
    refine for_go walk_range (fun i σ H3 => ∃ (zs : List Str) (o3 : Option V), σ = [some (.ref p), some (.int most), some (.ref A), o3, none, none, none] ∧ Kp [p] H H3 ∧ PotOk H3 p ∧ H3 A = some (.lst (zs.map V.str)) ∧ Taken zs ∧ zs.length = i)
      ⟨[], _, rfl, k02, hp2, eA2, ⟨.nil, by simp⟩, rfl⟩ (fun _ _ _ _ _ => trivial) (fun i x σ Ha Hb hi I y => ?_) fun σ H3 I => ?_
    · obtain ⟨rfl, rfl⟩ := y
      obtain ⟨zs, o3, rfl, k3, hp3, ht3, tk, nz⟩ := I
      walk_at "S"
      refine ⟨p, A, zs, rfl, hp3, ht3, tk, by omega, fun H4 z k4 hp4 ht4 tk4 => ?_⟩
      walk_at "S"
      refine ⟨_, _, rfl, ?_, hp4, ht4, tk4, by rw [List.length_append, List.length_singleton]; omega⟩
      exact k3.step k4 fun x hx => by
        simp only [List.mem_cons, List.not_mem_nil, or_false] at hx
        rcases hx with rfl | rfl
        · exact .inl List.mem_cons_self
        · exact .inr hA0
    obtain ⟨ps, o3, rfl, k3, hp3, hA3, tk, nz⟩ := I
    walk_at "S"
    refine s_listL (sq_l hA3) fun B hB => ?_
    have npB := hp3.ne hB
    have hB0 : H B = none := k3.free ⟨npB.symm, trivial⟩ hB
    have nAB : A ≠ B := ne_of_none hA3 hB
    walk_at "S"
    refine ⟨p, B, ps, rfl, hp3.upd npB, upd_same, tk, by omega, fun H4 zx k4 hp4 hB4 tk4 => ?_⟩
    have hA4 : H4 A = some (.lst (ps.map V.str)) := k4.get ⟨(pot_strs hp3 hA3).symm, nAB, trivial⟩ ((upd_ne nAB).trans hA3)
    have k04 : Kp [p] H H4 := (k3.upd_loc hB0).step k4 fun x hx => by
      simp only [List.mem_cons, List.not_mem_nil, or_false] at hx
      rcases hx with rfl | rfl
      · exact .inl List.mem_cons_self
      · exact .inr hB0
    generalize ezs : ps ++ [zx] = zs at *
    have lzs : zs.length ≤ 20 := by rw [← ezs, List.length_append, List.length_singleton]; omega
    have nzs : zs ≠ [] := by rw [← ezs]; simp
    walk_at "S"
    intro S hS
    have npS := hp4.ne hS
    have hS0 : H S = none := k04.free ⟨npS.symm, trivial⟩ hS
    have nSA : S ≠ A := (ne_of_none hA4 hS).symm
    have nSB : S ≠ B := (ne_of_none hB4 hS).symm
    walk_at "S"
    refine ⟨⟨_, sq_l ((upd_ne nSA.symm).trans hA4)⟩, ?_⟩
    refine for_go (walk_list (K := K) (a := A) (xs := ps.map V.str)) (fun i σ H5 => ∃ (bs : List Bd) (o3 o6 : Option V), σ = [some (.ref p), some (.int most), some (.ref A), o3, some (.ref B), some (.ref S), o6] ∧ Kp [p] H H5 ∧ PotOk H5 p ∧ H5 A = some (.lst (ps.map V.str)) ∧ H5 B = some (.lst (zs.map V.str)) ∧
        H5 S = some (.dK (bs.map Bd.kv)) ∧ bs.map (·.p) = ps.take i ∧ (∀ b ∈ bs, Dp K H5 (.ref b.a) (.tuple b.rows)) ∧ (∀ b ∈ bs, ∀ r ∈ b.rows, RowK ps r) ∧ ∀ b ∈ bs, b.rows.length ≤ 40)
      ⟨[], _, _, rfl, k04.upd_loc hS0, hp4.upd npS, (upd_ne nSA.symm).trans hA4, (upd_ne nSB.symm).trans hB4, upd_same, by simp, by simp, by simp, by simp⟩
      (fun i σ H5 _ I => by obtain ⟨_, _, _, _, _, _, e, _⟩ := I; exact sq_l e) (fun i x σ Ha H5 hi I y => ?_) fun σ H5 I => ?_
    · obtain ⟨rfl, hx⟩ := y
      obtain ⟨bs, o3, o6, rfl, k5, hp5, hA5, hB5, hS5, eb, dp5, rw5, ln5⟩ := I
      rw [List.length_map] at hi
      rw [List.getElem?_map] at hx
      obtain ⟨z, ez, rfl⟩ : ∃ z, ps[i]? = some z ∧ x = V.str z := by
        cases e : ps[i]? with
        | none => rw [e] at hx; cases hx
        | some z => rw [e] at hx; exact ⟨z, rfl, (Option.some.inj hx).symm⟩
      walk_at "S"
      refine ⟨p, _, rfl, hp5, by omega, by omega, fun H6 v6 k6 hp6 c0 c1 => ?_⟩
      have hA6 := k6.get (nin1' (pot_strs hp5 hA5)) hA5
      have hB6 := k6.get (nin1' (pot_strs hp5 hB5)) hB5
      walk_at "S"
      refine ⟨by omega, by omega, fun D hD => ?_⟩
      have npD := hp6.ne hD
      refine lc_goH walk_range (W := [p]) (PL := fun i xs H' => PotOk H' p ∧ ∃ rs, DpAll K H' xs rs ∧ (∀ r ∈ rs, RowK ps r) ∧ rs.length = i) hD
        ⟨hp6.upd npD, [], .nil, by simp, rfl⟩ (fun _ _ => trivial) (fun i' x' H8 H' hi' I y => ?_) fun H8 I => ?_
      · obtain ⟨rfl, rfl⟩ := y
        obtain ⟨xs, ex, ⟨hp8, rs, ds, hrs, lr⟩, lx, k8⟩ := I
        walk_at "S"
        refine ⟨rfl, ?_⟩
        walk_at "S"
        refine ⟨p, A, B, ps, zs, rfl, hp8, k8.get (nin1' (pot_strs hp6 hA6)) hA6, k8.get (nin1' (pot_strs hp6 hB6)) hB6, fun e => by rw [e] at nz; simp at nz; omega, nzs, by omega, lzs, tk4.ok, fun H9 t r k9 hp9 dr hr' => ?_⟩
        have eD9 : H9 D = some (.lst xs) := k9.get (nin1' npD) ex
        refine LcInvH.put ex lx k8 hD ⟨npD.symm, trivial⟩ k9 (small_lt (by omega)) ⟨hp9.upd npD, rs ++ [r], ?_, fun r' h' => ?_, by rw [List.length_append, lr]; rfl⟩
        · have tk9 : TupK H' (upd H9 D (.lst (xs ++ [.ref t]))) := (TupK.pot k9 hp8).trans (TupK.lst eD9)
          exact DpAll.snoc (Dp.tupsAll tk9 _ _ (flatAll_of fun x hx => (hrs x hx).flatD) ds) (Dp.tups (TupK.lst eD9) _ _ hr'.flatD dr)
        · rcases List.mem_append.mp h' with h' | h'
          · exact hrs r' h'
          · rw [List.mem_singleton.mp h']; exact hr'
      obtain ⟨xs, eD, ⟨hp8, rs, ds, hrs, lr⟩, lx, k8⟩ := I
      have k68 : Kp [p] H5 H8 := k6.tr k8
      have tk58 := TupK.pot k68 hp5
      have hS8 : H8 S = some (.dK (bs.map Bd.kv)) := k68.get ⟨(fun e => by obtain ⟨s, q⟩ := hp5; rw [← e, hS5] at q; cases q), trivial⟩ hS5
      walk_at "S"
      refine s_tupL (sq_l eD) fun t ht => ?_
      have k89 : Kp [] H8 (upd H8 t (.tup xs)) := Kp.refl.upd_new ht
      have dt : Dp K (upd H8 t (.tup xs)) (.ref t) (.tuple rs) := .tup (sq_t upd_same) (Dp.sameAll k89 _ _ ds)
      have hS9 := k89.get trivial hS8
      have hp9 := hp8.kp k89 trivial
      have hA9 := k89.get trivial (k68.get (nin1' (pot_strs hp5 hA5)) hA5)
      have hB9 := k89.get trivial (k68.get (nin1' (pot_strs hp5 hB5)) hB5)
      have tk59 := tk58.trans (TupK.same k89)
      have k09 : Kp [p] H (upd H8 t (.tup xs)) := (k5.tr k68).tr (Kp.nil_W k89)
      generalize upd H8 t (.tup xs) = H9 at *
      walk_at "S"
      have lb : bs.length = i := by
        have := congrArg List.length eb
        rw [List.length_map, List.length_take] at this
        omega
      refine s_putS hS9 (small_lt (by rw [List.length_map]; omega)) ?_
      have nz' : z ∉ bs.map (·.p) := by
        rw [eb]
        intro hm
        have nd := tk.nd
        obtain ⟨j, hj, e⟩ := List.mem_take_iff_getElem.mp hm
        have hj2 : j < ps.length := by omega
        have e2 := (List.getElem?_eq_some_iff.mp ez).2
        have hi2 : i < ps.length := by omega
        exact absurd (e.trans e2.symm) (List.pairwise_iff_getElem.mp nd j i hj2 hi2 (by omega))
      rw [putK_new _ (val_kv nz')]
      have tkE : TupK H9 (upd H9 S (.dK (bs.map Bd.kv ++ [(Sum.inr z, V.ref t)]))) := TupK.dic hS9
      refine ⟨bs ++ [⟨z, t, rs⟩], _, _, rfl, k09.upd_loc hS0, hp9.upd npS, (upd_ne nSA.symm).trans hA9, (upd_ne nSB.symm).trans hB9, by rw [upd_same, List.map_append]; rfl, by rw [List.map_append, eb, take_put ez]; rfl, fun b hb => ?_, fun b hb => ?_, fun b hb => ?_⟩
      · rcases List.mem_append.mp hb with hb | hb
        · exact Dp.tups (tk59.trans tkE) _ _ (flat_rows (rw5 b hb)) (dp5 b hb)
        · rw [List.mem_singleton.mp hb]
          exact Dp.tups tkE _ _ (flat_rows hrs) dt
      · rcases List.mem_append.mp hb with hb | hb
        · exact rw5 b hb
        · rw [List.mem_singleton.mp hb]; exact hrs
      · rcases List.mem_append.mp hb with hb | hb
        · exact ln5 b hb
        · rw [List.mem_singleton.mp hb]; show rs.length ≤ 40; omega
    · obtain ⟨bs, o3, o6, rfl, k5, hp5, hA5, hB5, hS5, eb, dp5, rw5, ln5⟩ := I
      rw [List.take_of_length_le (by simp)] at eb
      walk_at "S"
      have lb : bs.length = ps.length := by rw [← eb, List.length_map]
      exact q H5 S bs k5 hp5 hS0 ⟨hS5, by rw [eb]; exact tk.nd, fun b hb => tk.ok _ (by rw [← eb]; exact List.mem_map.mpr ⟨b, hb, rfl⟩), dp5, by rw [eb]; exact rw5, ln5, by omega, fun e => by rw [e] at lb; simp at lb; omega⟩
end

/-! the finders -/
structure Sf where
  a : Addr
  kvs : List (Key × V)
structure ShOk (K : PySem.W.Frag) (H : Hp) (ps : List Str) (x : Sf) : Prop where
  at_ : H x.a = some (.dK x.kvs)
  ks : ∀ kv ∈ x.kvs, ∃ z rows, kv.1 = Sum.inr z ∧ z ∈ ps ∧ Dp K H kv.2 (.tuple rows) ∧ (∀ r ∈ rows, RowK ps r) ∧ rows.length ≤ 40
  nd : (x.kvs.map (·.1)).Nodup
theorem ShOk.few {K : PySem.W.Frag} {H : Hp} {ps : List Str} {x : Sf} (h : ShOk K H ps x) : x.kvs.length ≤ ps.length := by
  have := List.Nodup.length_le_of_subset (l₂ := ps.map Sum.inr) h.nd fun k hk => by
    obtain ⟨kv, h1, rfl⟩ := List.mem_map.mp hk
    obtain ⟨z, rows, e, hz, _⟩ := h.ks kv h1
    rw [e]
    exact List.mem_map.mpr ⟨z, hz, rfl⟩
  rwa [List.length_map, List.length_map] at this
/-- the first one that has the path has this for it -/
def FAt (shs : List Sf) (p : Str) (v : V) : Prop := ∃ (j : Nat) (x : Sf), shs[j]? = some x ∧ valV x.kvs (.inr p) = some v ∧ ∀ (i : Nat) (y : Sf), i < j → shs[i]? = some y → valV y.kvs (.inr p) = none
def Sf.put (x : Sf) (p : Str) (v : V) : Sf := ⟨x.a, putK x.kvs (.inr p) v⟩
theorem Sf.put_ne {x : Sf} {p q : Str} {v : V} (h : q ≠ p) : valV (x.put p v).kvs (.inr q) = valV x.kvs (.inr q) := by
  show valV (putK x.kvs (.inr p) v) (.inr q) = _
  rw [valV_put, if_neg fun e => h (Sum.inr.inj e)]
theorem Sf.put_same {x : Sf} {p : Str} {v : V} : valV (x.put p v).kvs (.inr p) = some v := by
  show valV (putK x.kvs (.inr p) v) (.inr p) = _
  rw [valV_put, if_pos rfl]
theorem set_at {α : Type} {xs : List α} {k i : Nat} {x y z : α} (h : xs[k]? = some x) (g : (xs.set k y)[i]? = some z) : (k = i ∧ z = y) ∨ (k ≠ i ∧ xs[i]? = some z) := by
  rw [List.getElem?_set] at g
  by_cases c : k = i
  · rw [if_pos c] at g
    split at g
    · exact .inl ⟨c, (Option.some.inj g).symm⟩
    · cases g
  · rw [if_neg c] at g
    exact .inr ⟨c, g⟩
theorem set_get {α : Type} {xs : List α} {k : Nat} {x y : α} (h : xs[k]? = some x) : (xs.set k y)[k]? = some y := by
  rw [List.getElem?_set, if_pos rfl, if_pos (List.getElem?_eq_some_iff.mp h).1]
theorem FAt.ne {shs : List Sf} {p q : Str} {v u : V} {k : Nat} {x : Sf} (h : FAt shs q v) (e : shs[k]? = some x) (n : q ≠ p) : FAt (shs.set k (x.put p u)) q v := by
  obtain ⟨j, y, ej, ev, l⟩ := h
  have old : ∀ (i : Nat) (z : Sf), (shs.set k (x.put p u))[i]? = some z → ∃ z' : Sf, shs[i]? = some z' ∧ valV z.kvs (.inr q) = valV z'.kvs (.inr q) := fun i z hz => by
    rcases set_at e hz with ⟨rfl, rfl⟩ | ⟨_, hz⟩
    · exact ⟨x, e, Sf.put_ne n⟩
    · exact ⟨z, hz, rfl⟩
  have hj : j < (shs.set k (x.put p u)).length := by rw [List.length_set]; exact (List.getElem?_eq_some_iff.mp ej).1
  obtain ⟨z', e1, e2⟩ := old j _ (List.getElem?_eq_getElem hj)
  rw [ej] at e1
  cases e1
  refine ⟨j, _, List.getElem?_eq_getElem hj, e2.trans ev, fun i z hi hz => ?_⟩
  obtain ⟨z', e3, e4⟩ := old i z hz
  rw [e4]
  exact l i z' hi e3
theorem FAt.new {shs : List Sf} {p : Str} {v : V} {k : Nat} {x : Sf} (h : ∀ y ∈ shs, valV y.kvs (.inr p) = none) (e : shs[k]? = some x) : FAt (shs.set k (x.put p v)) p v :=
  ⟨k, _, set_get e, Sf.put_same, fun i z hi hz => by
    rcases set_at e hz with ⟨rfl, _⟩ | ⟨_, hz⟩
    · omega
    · exact h z (List.mem_of_getElem? hz)⟩
theorem FAt.two {shs : List Sf} {p : Str} {v u : V} {k l : Nat} {x y : Sf} (h : ∀ y ∈ shs, valV y.kvs (.inr p) = none) (e : shs[k]? = some x) (lt : k < l) (e2 : (shs.set k (x.put p v))[l]? = some y) : FAt ((shs.set k (x.put p v)).set l (y.put p u)) p v :=
  ⟨k, x.put p v, by rw [List.getElem?_set, if_neg (by omega)]; exact set_get e, Sf.put_same, fun i z hi hz => by
    rcases set_at e2 hz with ⟨rfl, _⟩ | ⟨_, hz⟩
    · omega
    · rcases set_at e hz with ⟨rfl, _⟩ | ⟨_, hz⟩
      · omega
      · exact h z (List.mem_of_getElem? hz)⟩
/-- what stands while the bodies are dealt -/
structure DlI (K : PySem.W.Frag) (H0 H : Hp) (p S F : Addr) (bs : List Bd) (shs : List Sf) (n : Nat) : Prop where
  kp : Kp [p, S] H0 H
  tk : TupK H0 H
  hp : PotOk H p
  eF : H F = some (.lst (shs.map fun x => V.ref x.a))
  sh : ∀ x ∈ shs, ShOk K H (bs.map (·.p)) x
  nd : (shs.map (·.a)).Nodup
  new : ∀ x ∈ shs, H0 x.a = none
  nF : H0 F = none
  n1 : 1 ≤ shs.length
  n3 : shs.length ≤ 3
  fa : ∀ (i : Nat) (b : Bd), i < n → bs[i]? = some b → FAt shs b.p (.ref b.a)
  no : ∀ (i : Nat) (b : Bd), n ≤ i → bs[i]? = some b → ∀ x ∈ shs, valV x.kvs (.inr b.p) = none
theorem ShOk.step {K : PySem.W.Frag} {H H' : Hp} {ps : List Str} {x : Sf} (h : ShOk K H ps x) (e : H' x.a = some (.dK x.kvs)) (t : TupK H H') : ShOk K H' ps x :=
  ⟨e, fun kv hkv => by
    obtain ⟨z, rows, a, b, c, d, f⟩ := h.ks kv hkv
    exact ⟨z, rows, a, b, Dp.tups t _ _ (flat_rows d) c, d, f⟩, h.nd⟩
theorem DlI.step {K : PySem.W.Frag} {H0 H H' : Hp} {p S F : Addr} {bs : List Bd} {shs : List Sf} {n : Nat} {W : List Addr} (I : DlI K H0 H p S F bs shs n) (k : Kp W H H') (t : TupK H H') (hp' : PotOk H' p) (new : ∀ x ∈ W, x ∈ [p, S] ∨ H0 x = none) (nF : Nin F W) (nS : ∀ x ∈ shs, Nin x.a W) : DlI K H0 H' p S F bs shs n :=
  ⟨I.kp.step k new, I.tk.trans t, hp', k.get nF I.eF, fun x hx => (I.sh x hx).step (k.get (nS x hx) (I.sh x hx).at_) t, I.nd, I.new, I.nF, I.n1, I.n3, I.fa, I.no⟩
theorem DlI.same {K : PySem.W.Frag} {H0 H H' : Hp} {p S F : Addr} {bs : List Bd} {shs : List Sf} {n : Nat} (I : DlI K H0 H p S F bs shs n) (k : Kp [] H H') : DlI K H0 H' p S F bs shs n :=
  I.step k (TupK.same k) (I.hp.kp k trivial) (fun x hx => absurd hx List.not_mem_nil) trivial fun _ _ => trivial
theorem pot_dK {H : Hp} {p d : Addr} {kvs : List (Key × V)} (h : PotOk H p) (e : H d = some (.dK kvs)) : p ≠ d := by
  rintro rfl
  obtain ⟨s, e1⟩ := h
  rw [e1] at e
  cases e
theorem pot_refs {α : Type} {H : Hp} {p t : Addr} {zs : List α} {g : α → Addr} (h : PotOk H p) (e : H t = some (.lst (zs.map fun z => V.ref (g z)))) : p ≠ t := by
  rintro rfl
  obtain ⟨s, e1⟩ := h
  rw [e1] at e
  cases zs with
  | nil => simp at e
  | cons z r => simp at e
theorem DlI.pot {K : PySem.W.Frag} {H0 H H' : Hp} {p S F : Addr} {bs : List Bd} {shs : List Sf} {n : Nat} (I : DlI K H0 H p S F bs shs n) (k : Kp [p] H H') (hp' : PotOk H' p) : DlI K H0 H' p S F bs shs n :=
  I.step k (TupK.pot k I.hp) hp' (fun x hx => .inl (by rw [List.mem_singleton.mp hx]; exact List.mem_cons_self)) (nin1' (pot_refs I.hp I.eF)) fun x hx => nin1' (pot_dK I.hp (I.sh x hx).at_)
/-- a body told to a finder -/
theorem DlI.put {K : PySem.W.Frag} {H0 H : Hp} {p S F : Addr} {bs : List Bd} {shs : List Sf} {n j : Nat} {x : Sf} {z : Str} {v : V} {rows : List PyData} (I : DlI K H0 H p S F bs shs n) (ej : shs[j]? = some x) (hz : z ∈ bs.map (·.p)) (d : Dp K H v (.tuple rows)) (hr : ∀ r ∈ rows, RowK (bs.map (·.p)) r) (hl : rows.length ≤ 40)
    (n' : Nat) (fa : ∀ i b, i < n' → bs[i]? = some b → FAt (shs.set j (x.put z v)) b.p (.ref b.a)) (no : ∀ i b, n' ≤ i → bs[i]? = some b → ∀ y ∈ shs.set j (x.put z v), valV y.kvs (.inr b.p) = none) :
    DlI K H0 (upd H x.a (.dK (putK x.kvs (.inr z) v))) p S F bs (shs.set j (x.put z v)) n' := by
  have mx := List.mem_of_getElem? ej
  have hx := I.sh x mx
  have t : TupK H (upd H x.a (.dK (putK x.kvs (.inr z) v))) := TupK.dic hx.at_
  have em : (shs.set j (x.put z v)).map (·.a) = shs.map (·.a) := by
    rw [List.map_set]
    refine List.ext_getElem? fun k => ?_
    rw [List.getElem?_set]
    split
    · rename_i q
      subst q
      split
      · rw [List.getElem?_map, ej]; rfl
      · rename_i q
        rw [List.getElem?_eq_none (by omega)]
    · rfl
  have eF : (shs.set j (x.put z v)).map (fun x => V.ref x.a) = shs.map fun x => V.ref x.a := by
    have := congrArg (List.map V.ref) em
    rwa [List.map_map, List.map_map] at this
  refine ⟨I.kp.upd_loc (I.new x mx), I.tk.trans t, I.hp.upd (pot_dK I.hp hx.at_), ?_, fun y hy => ?_, by rw [em]; exact I.nd, fun y hy => ?_, I.nF, by rw [List.length_set]; exact I.n1, by rw [List.length_set]; exact I.n3, fa, no⟩
  · rw [eF]
    exact (upd_ne fun e => by have := I.eF; rw [e, hx.at_] at this; cases this).trans I.eF
  · obtain ⟨i, hi⟩ := List.mem_iff_getElem?.mp hy
    rcases set_at ej hi with ⟨rfl, rfl⟩ | ⟨ne, hi⟩
    · refine ⟨upd_same, fun kv hkv => ?_, ?_⟩
      · have hkv : kv ∈ putK x.kvs (.inr z) v := hkv
        have old : ∀ kv ∈ x.kvs, ∃ z2 rows, kv.1 = Sum.inr z2 ∧ z2 ∈ bs.map (·.p) ∧ Dp K (upd H x.a (.dK (putK x.kvs (.inr z) v))) kv.2 (.tuple rows) ∧ (∀ r ∈ rows, RowK (bs.map (·.p)) r) ∧ rows.length ≤ 40 := fun kv hkv => by
          obtain ⟨z, rows, a, b, c, d, f⟩ := hx.ks kv hkv
          exact ⟨z, rows, a, b, Dp.tups t _ _ (flat_rows d) c, d, f⟩
        unfold putK at hkv
        split at hkv
        · obtain ⟨kv0, h0, rfl⟩ := List.mem_map.mp hkv
          by_cases c : kv0.1 = Sum.inr z
          · rw [if_pos c]
            exact ⟨z, rows, c, hz, Dp.tups t _ _ (flat_rows hr) d, hr, hl⟩
          · rw [if_neg c]
            exact old kv0 h0
        · rcases List.mem_append.mp hkv with h | h
          · exact old kv h
          · rw [List.mem_singleton.mp h]
            exact ⟨z, rows, rfl, hz, Dp.tups t _ _ (flat_rows hr) d, hr, hl⟩
      · show ((putK x.kvs (.inr z) v).map (·.1)).Nodup
        cases e : valV x.kvs (.inr z) with
        | none => exact nd_putK v hx.nd e
        | some u =>
          have : (putK x.kvs (.inr z) v).map (·.1) = x.kvs.map (·.1) := by
            unfold putK
            rw [valV_any, e]
            simp only [Option.isSome_some, if_true]
            rw [List.map_map]
            refine List.map_congr_left fun kv _ => ?_
            show (if kv.1 = Sum.inr z then (kv.1, v) else kv).1 = kv.1
            split <;> rfl
          rw [this]
          exact hx.nd
    · have my := List.mem_of_getElem? hi
      refine (I.sh y my).step ((upd_ne fun e => ?_).trans (I.sh y my).at_) t
      have p1 := List.pairwise_iff_getElem.mp I.nd
      obtain ⟨hi1, ey⟩ := List.getElem?_eq_some_iff.mp hi
      obtain ⟨hj1, ex⟩ := List.getElem?_eq_some_iff.mp ej
      rcases Nat.lt_or_gt_of_ne ne with h | h
      · have q := p1 j i (by simpa using hj1) (by simpa using hi1) h
        simp only [List.getElem_map, ey, ex] at q
        exact q e.symm
      · have q := p1 i j (by simpa using hi1) (by simpa using hj1) h
        simp only [List.getElem_map, ey, ex] at q
        exact q e
  · rcases List.mem_or_eq_of_mem_set hy with h | h
    · exact I.new y h
    · rw [h]; exact I.new x mx
def spDealt (K : PySem.W.Frag) : Sp := fun vs H Q _ => ∃ (p S : Addr) (bs : List Bd), vs = [.ref p, .ref S] ∧ PotOk H p ∧ StAt K H S bs ∧
  ∀ H' F shs, Kp [p] H H' → DlI K H H' p S F bs shs bs.length → StAt K H' S bs → Q (.ref F) H'
theorem notup_frzK {H : Hp} {a : Addr} {o : Obj} {kvs : List (Key × V)} (h : H a = some (.frz o (.dK kvs))) : NoTup H a := fun ys r => by
  rcases r with r | ⟨o, r⟩ <;> rw [h] at r <;> cases r
section
variable {P : Program} {w : World} {K : PySem.W.Frag} {mg : Str → Option Value} {base : Heap} {C_Module C_Runs : Addr}
theorem ok_l_dealt {f : Addr} {fd : FuncData} (F : Fun K "_law_dealt" "_law_dealt" s_l_dealt f fd) (T : Txt K mg C_Module C_Runs)
    (D_l_draw : DnF P w K mg base 1 "_law_draw" ["_law_pot_here", "_law_many"] spDraw) :
    FnOk P w K mg base CX0 2 f fd ["_law_pot_here", "_law_stock_here"] (spDealt K) := by
  refine F.ok sc_l_dealt (fun vs H Q E h => ?_) (fun cdv A outer s H vs Q E hr h => ?_)
  · obtain ⟨p, S, bs, rfl, _⟩ := h
    rfl
  · obtain ⟨f_l_draw, fd_l_draw, G_l_draw, m_l_draw, k_l_draw, b_l_draw⟩ := D_l_draw
    obtain ⟨p, S, bs, rfl, hp, st, q⟩ := h
    have hu := hu_of hr
    refine ⟨_, (pss_cons (ps_setLc (i := 2) (own := [("_law_k", 6)]) (g := gName 6) (tt := tYes) rfl sc_l_dealt.nd rfl rfl (sw_true rfl rfl rfl (by decide +kernel)) (pi_range1 rfl T.n_range (pa_cons (pe_op op_add pe_int (pe_call G_l_draw (hr.mono (by first | decide | omega)) (by rfl) m_l_draw k_l_draw b_l_draw .nil pass0 (pa_cons (pv 0) (pa_cons pe_int pa_nil)))) pa_nil)) (blkOk_by (own := [("_law_k", 6)]) (N := N_l_dealt) (sc := (defScope s_l_dealt)) (by decide +kernel)) (fun _ _ _ _ _ => (pg_name (i := 6) sc_l_dealt.nd rfl (Or.inl rfl))) (fun _ _ _ _ _ => pts_nil) (fun _ _ _ _ _ => pe_dnewK))
      (pss_cons (ps_lock (ps_for PassesOwn.never rfl (pi_items (pv 1)) (kgT (K := K) rfl (pg_tup rfl (pgs_cons (pg_name (i := 3) sc_l_dealt.nd rfl (Or.inl rfl)) (pgs_cons (pg_name (i := 4) sc_l_dealt.nd rfl (Or.inl rfl)) pgs_nil)))) (pss_cons (ps_set (i := 5) sc_l_dealt.nd rfl (Or.inl rfl) (pe_call G_l_draw (hr.mono (by first | decide | omega)) (by rfl) m_l_draw k_l_draw b_l_draw .nil pass0 (pa_cons (pv 0) (pa_cons (pe_callB (lenK (K := K) rfl) (by rfl) T.n_len (by decide +kernel) (pa_cons (pv 2) pa_nil)) pa_nil))))
      (pss_cons (ps_dput hu (pe_ix (ixLK (K := K) rfl) (pv 2) (pv 5) (fun _ _ => rfl)) (pv 3) (pv 4) rfl)
      (pss_one (ps_if (PW.pt (pw_and (pt_cmpR op_lt (pe_op op_add (pv 5) pe_int) (pe_callB (lenK (K := K) rfl) (by rfl) T.n_len (by decide +kernel) (pa_cons (pv 2) pa_nil)) (nomark _)) (pw_and1 (pt_cmpR op_eq (pe_call G_l_draw (hr.mono (by first | decide | omega)) (by rfl) m_l_draw k_l_draw b_l_draw .nil pass0 (pa_cons (pv 0) (pa_cons pe_int pa_nil))) pe_int (nomark _))))) (pss_one (ps_dput hu (pe_ix (ixLK (K := K) rfl) (pv 2) (pe_un un_neg pe_int) (fun _ _ => rfl)) (pv 3) (pe_op op_catA (pe_slice sl_tupA (pv 4) (po_some pe_int) po_none) (pe_tup (pa_cons (pe_tup (pa_cons pe_str (pa_cons (pv 3) pa_nil))) pa_nil))) rfl)) pss_nil))))))
      (pss_one (ps_ret (pv 2))))), ?_⟩
    refine st_start (σ' := [some (.ref p), some (.ref S), none, none, none, none, none]) rfl ?_
    walk_at "S"
    refine ⟨p, _, rfl, hp, by omega, by omega, fun H1 v1 k1 hp1 a0 a1 => ?_⟩
    have nSp := pot_dK hp st.at_
    have eS1 := k1.get (nin1' nSp) st.at_
    have tk1 := TupK.pot k1 hp
    walk_at "S"
    refine ⟨by omega, by omega, fun F hF => ?_⟩
    have npF := hp1.ne hF
    refine lc_goH walk_range (PL := fun i xs H' => ∃ es : List Addr, xs = es.map V.ref ∧ es.length = i ∧ es.Nodup ∧ ∀ e ∈ es, H' e = some (.dK []) ∧ H1 e = none) (W := []) hF
      ⟨[], rfl, rfl, .nil, by simp⟩ (fun _ _ => trivial) (fun i x H8 H' hi I y => ?_) fun H2 I => ?_
    · obtain ⟨rfl, rfl⟩ := y
      obtain ⟨xs, ex, ⟨es, rfl, g1, g2, g3⟩, lx, k8⟩ := I
      walk_at "S"
      refine ⟨rfl, ?_⟩
      walk_at "S"
      intro e he
      have nFe : F ≠ e := ne_of_none ex he
      refine LcInvH.put ex lx k8 hF trivial (Kp.refl.upd_new he) (small_lt (by omega)) ⟨es ++ [e], by simp, by simp [g1], List.nodup_append.mpr ⟨g2, List.pairwise_singleton _ _, fun a ha b hb q => ?_⟩, fun b hb => ?_⟩
      · have := (g3 a ha).1
        rw [q, List.mem_singleton.mp hb, he] at this
        cases this
      · have exD : upd H' e (.dK []) F = some (.lst (es.map V.ref)) := (upd_ne nFe).trans ex
        rcases List.mem_append.mp hb with hb | hb
        · have w := (g3 b hb).1
          exact ⟨(upd_ne (fun q => by rw [q, ex] at w; cases w)).trans ((upd_ne (ne_of_none w he)).trans w), (g3 b hb).2⟩
        · rw [List.mem_singleton.mp hb]
          exact ⟨(upd_ne nFe.symm).trans upd_same, k8.free trivial he⟩
    obtain ⟨_, eF, ⟨es, rfl, g1, g2, g3⟩, _, k2⟩ := I
    have eS2 := k2.get trivial eS1
    have hp2 := hp1.kp k2 trivial
    walk_at "S"
    refine s_lock eS2 trivial fun od => ?_
    have eS3 : upd H2 S (.frz od (.dK (bs.map Bd.kv))) S = some (.frz od (.dK (bs.map Bd.kv))) := upd_same
    have nSes : ∀ e ∈ es, e ≠ S := fun e he q => by have := (g3 e he).2; rw [q, eS1] at this; cases this
    have nFS : F ≠ S := fun e => by rw [e, eS1] at hF; cases hF
    have k12 : Kp [p] H H2 := k1.tr (Kp.nil_W k2)
    have kl : Kp [S] H2 (upd H2 S (.frz od (.dK (bs.map Bd.kv)))) := Kp.refl.upd_mem List.mem_cons_self
    have tkl : TupK H2 (upd H2 S (.frz od (.dK (bs.map Bd.kv)))) := TupK.dic eS2
    have tk0 : TupK H (upd H2 S (.frz od (.dK (bs.map Bd.kv)))) := (tk1.trans (TupK.same k2)).trans tkl
    have I0 : DlI K H (upd H2 S (.frz od (.dK (bs.map Bd.kv)))) p S F bs (es.map fun e => ⟨e, []⟩) 0 := by
      refine ⟨(k12.weak fun x hx => by rw [List.mem_singleton.mp hx]; exact List.mem_cons_self).upd_mem (by simp), tk0, hp2.upd nSp, ?_, fun x hx => ?_, ?_, fun x hx => ?_, k1.free ⟨npF.symm, trivial⟩ hF, by rw [List.length_map]; omega, by rw [List.length_map]; omega, fun i b hi => absurd hi (Nat.not_lt_zero i), fun i b _ _ x hx => ?_⟩
      · rw [List.map_map]
        exact kl.get ⟨nFS, trivial⟩ eF
      · obtain ⟨e, he, rfl⟩ := List.mem_map.mp hx
        exact ⟨kl.get ⟨nSes e he, trivial⟩ (g3 e he).1, fun kv hkv => absurd hkv List.not_mem_nil, .nil⟩
      · rw [List.map_map, show ((fun x : Sf => x.a) ∘ fun e : Addr => (⟨e, []⟩ : Sf)) = id from rfl, List.map_id]
        exact g2
      · obtain ⟨e, he, rfl⟩ := List.mem_map.mp hx
        exact k1.free ⟨(fun q => by have w := (g3 e he).1; obtain ⟨s, q2⟩ := hp2; rw [← q, w] at q2; cases q2), trivial⟩ (g3 e he).2
      · obtain ⟨e, he, rfl⟩ := List.mem_map.mp hx
        rfl
    generalize upd H2 S (.frz od (.dK (bs.map Bd.kv))) = H3 at *
    walk_at "S"
    refine s_iItems ?_
    walk_at "S"
    refine ⟨S, od, _, rfl, eS3, ?_⟩
    refine for_go walk_items (fun i σ Hx => ∃ (shs : List Sf) (o3 o4 o5 : Option V), σ = [some (.ref p), some (.ref S), some (.ref F), o3, o4, o5, none] ∧ DlI K H Hx p S F bs shs i ∧ Hx S = some (.frz od (.dK (bs.map Bd.kv))))
      ⟨_, _, _, _, rfl, I0, eS3⟩ (fun i σ Hx _ I => by obtain ⟨_, _, _, _, _, _, e⟩ := I; exact e) (fun i x σ Hx Hy hi I y => ?_) fun σ Hx I => ?_
    · obtain ⟨T, kx, vx, rfl, nT, rfl, y1, y2⟩ := y
      obtain ⟨shs, o3, o4, o5, rfl, I, eSx⟩ := I
      rw [List.length_map] at hi
      obtain ⟨b, eb⟩ : ∃ b, bs[i]? = some b := ⟨_, List.getElem?_eq_getElem hi⟩
      have mb := List.mem_of_getElem? eb
      dsimp only at y1 y2
      rw [List.getElem?_map, eb] at y1 y2
      obtain rfl : V.str b.p = kx := Option.some.inj y1
      obtain rfl : V.ref b.a = vx := Option.some.inj y2
      have kT : Kp [] Hx (upd Hx T (.tup [.str b.p, .ref b.a])) := Kp.refl.upd_new nT
      have I1 := I.same kT
      have eS1 := kT.get trivial eSx
      have eT : upd Hx T (.tup [.str b.p, .ref b.a]) T = some (.tup [.str b.p, .ref b.a]) := upd_same
      generalize upd Hx T (.tup [.str b.p, .ref b.a]) = Ha at *
      refine s_gtup (sq_t eT) rfl ?_
      have mem : b.p ∈ bs.map (·.p) := List.mem_map.mpr ⟨b, mb, rfl⟩
      have uniq : ∀ (i' : Nat) (b' : Bd), i' ≠ i → bs[i']? = some b' → b'.p ≠ b.p := fun i' b' ne e' q => by
        have pw := List.pairwise_iff_getElem.mp st.nd
        obtain ⟨h1, e1⟩ := List.getElem?_eq_some_iff.mp e'
        obtain ⟨h2, e2⟩ := List.getElem?_eq_some_iff.mp eb
        rcases Nat.lt_or_gt_of_ne ne with h | h
        · have := pw i' i (by simpa using h1) (by simpa using h2) h
          simp only [List.getElem_map, e1, e2] at this
          exact this q
        · have := pw i i' (by simpa using h2) (by simpa using h1) h
          simp only [List.getElem_map, e1, e2] at this
          exact this q.symm
      have eF1 := I1.eF
      walk_at "S"
      rw [List.length_map]
      have n1 := I1.n1
      have n3 := I1.n3
      refine ⟨p, _, rfl, I1.hp, by omega, by omega, fun Hb v kb hpb b0 b1 => ?_⟩
      have I2 := I1.pot kb hpb
      have eS2 := kb.get (nin1' (fun e => by obtain ⟨s, q⟩ := I1.hp; rw [e, eS1] at q; cases q)) eS1
      obtain ⟨j, rfl⟩ := Int.eq_ofNat_of_zero_le b0
      have hj : j < shs.length := by omega
      have ej := List.getElem?_eq_getElem hj
      generalize shs[j] = x at ej
      have mx := List.mem_of_getElem? ej
      have none0 : ∀ y ∈ shs, valV y.kvs (.inr b.p) = none := I2.no i b (Nat.le_refl _) eb
      have db := Dp.tups I2.tk _ _ (flat_rows (st.row b mb)) (st.dp b mb)
      walk_at "S"
      refine s_ixL (sq_l I2.eF) (atI_nat (by rw [List.getElem?_map, ej]; rfl) : atI _ ((j : Nat) : Int) = some (.ref x.a)) ?_
      walk_at "S"
      refine s_putS (I2.sh x mx).at_ (small_lt (by have := (I2.sh x mx).few; have := st.few; rw [List.length_map] at *; omega)) ?_
      have I3 := I2.put (n' := i + 1) ej mem db (st.row b mb) (st.len b mb) (fun i' b' hi' e' => by
        by_cases c : i' = i
        · subst c
          rw [eb] at e'
          cases e'
          exact FAt.new none0 ej
        · exact (I2.fa i' b' (by omega) e').ne ej (uniq i' b' c e')) (fun i' b' hi' e' y hy => by
        obtain ⟨k, hk⟩ := List.mem_iff_getElem?.mp hy
        rcases set_at ej hk with ⟨rfl, rfl⟩ | ⟨_, hk⟩
        · rw [Sf.put_ne (uniq i' b' (by omega) e')]
          exact I2.no i' b' (by omega) e' x mx
        · exact I2.no i' b' (by omega) e' y (List.mem_of_getElem? hk))
      have eS3 : upd Hb x.a (.dK (putK x.kvs (.inr b.p) (.ref b.a))) S = some (.frz od (.dK (bs.map Bd.kv))) := (upd_ne fun e => by have := (I2.sh x mx).at_; rw [← e, eS2] at this; cases this).trans eS2
      generalize eH : upd Hb x.a (.dK (putK x.kvs (.inr b.p) (.ref b.a))) = Hc at *
      have eF3 := I3.eF
      have l3 : (shs.set j (x.put b.p (.ref b.a))).length = shs.length := List.length_set
      walk_at "S"
      rw [List.length_map, l3]
      refine s_dec (fun hlt => ?_) (fun _ => ?_)
      rotate_left
      · walk_at "S"
        exact ⟨_, _, _, _, rfl, I3, eS3⟩
      walk_at "S"
      refine ⟨p, _, rfl, I3.hp, by omega, by omega, fun Hd v4 k4 hp4 c0 c1 => ?_⟩
      have I4 := I3.pot k4 hp4
      have eS4 := k4.get (nin1' (fun e => by obtain ⟨s, q⟩ := I3.hp; rw [e, eS3] at q; cases q)) eS3
      walk_at "S"
      refine s_dec (fun _ => ?_) (fun _ => ?_)
      rotate_left
      · walk_at "S"
        exact ⟨_, _, _, _, rfl, I4, eS4⟩
      have eF4 := I4.eF
      have db4 := Dp.tups I4.tk _ _ (flat_rows (st.row b mb)) (st.dp b mb)
      cases db4 with
      | tup hs4 ha4 =>
      rename_i vs4
      have lv := DpAll.len ha4
      have lb := st.len b mb
      walk_at "S"
      obtain ⟨pre, y, epre⟩ : ∃ pre y, shs.set j (x.put b.p (.ref b.a)) = pre ++ [y] := by
        rcases List.eq_nil_or_concat (shs.set j (x.put b.p (.ref b.a))) with h | ⟨pre, y, h⟩
        · rw [h] at l3; simp at l3; omega
        · exact ⟨pre, y, by rw [h, List.concat_eq_append]⟩
      have lp : pre.length + 1 = shs.length := by rw [← l3, epre, List.length_append, List.length_singleton]
      have ey : (shs.set j (x.put b.p (.ref b.a)))[pre.length]? = some y := by rw [epre, List.getElem?_append_right (Nat.le_refl _), Nat.sub_self]; rfl
      have aL : atI ((shs.set j (x.put b.p (.ref b.a))).map fun x => V.ref x.a) (-1) = some (.ref y.a) := by rw [epre, List.map_append]; exact atI_last _ _
      have my := List.mem_of_getElem? ey
      have row' : ∀ r ∈ b.rows.drop 1 ++ [.tuple [.str "note", .str b.p]], RowK (bs.map (·.p)) r := fun r hr => by
        rcases List.mem_append.mp hr with h | h
        · exact st.row b mb r (List.mem_of_mem_drop h)
        · rw [List.mem_singleton.mp h]; exact .note mem
      have len' : (b.rows.drop 1 ++ [PyData.tuple [.str "note", .str b.p]]).length ≤ 40 := by
        rw [List.length_append, List.length_drop, List.length_singleton]
        omega
      have fin : ∀ (He : Hp) (c : Addr), Kp [] Hd He → Dp K He (.ref c) (.tuple (b.rows.drop 1 ++ [.tuple [.str "note", .str b.p]])) →
          DlI K H (upd He y.a (.dK (putK y.kvs (.inr b.p) (.ref c)))) p S F bs ((shs.set j (x.put b.p (.ref b.a))).set pre.length (y.put b.p (.ref c))) (i + 1) ∧ upd He y.a (.dK (putK y.kvs (.inr b.p) (.ref c))) S = some (.frz od (.dK (bs.map Bd.kv))) := fun He c ke dc => by
        have I5 := I4.same ke
        have eS5 := ke.get trivial eS4
        refine ⟨I5.put ey mem dc row' len' (i + 1) (fun i' b' hi' e' => ?_) fun i' b' hi' e' z hz => ?_, (upd_ne fun e => by have := (I5.sh y my).at_; rw [← e, eS5] at this; cases this).trans eS5⟩
        · by_cases c : i' = i
          · subst c
            rw [eb] at e'
            cases e'
            exact FAt.two none0 ej (by omega) ey
          · exact (I5.fa i' b' (by omega) e').ne ey (uniq i' b' c e')
        · obtain ⟨k, hk⟩ := List.mem_iff_getElem?.mp hz
          rcases set_at ey hk with ⟨rfl, rfl⟩ | ⟨_, hk⟩
          · rw [Sf.put_ne (uniq i' b' (by omega) e')]
            exact I5.no i' b' (by omega) e' y my
          · exact I5.no i' b' (by omega) e' z (List.mem_of_getElem? hk)
      have few : ∀ {He : Hp}, Kp [] Hd He → y.kvs.length < sizeLine := fun ke => small_lt (by
        have := ((I4.same ke).sh y my).few
        have := st.few
        rw [List.length_map] at *
        omega)
      have note2 : ∀ {He : Hp} {t1 : Addr}, He t1 = some (.tup [.str "note", .str b.p]) → Dp K He (.ref t1) (.tuple [.str "note", .str b.p]) := fun e => .tup (sq_t e) (.cons (.str _) (.cons (.str _) .nil))
      cases vs4 with
      | nil =>
        have er : b.rows = [] := List.eq_nil_of_length_eq_zero (by rw [← lv]; rfl)
        refine ⟨b.a, [], rfl, hs4, fun _ => ?_, fun h => absurd ⟨by simp [HT.sIx], by simp [HT.sIx]⟩ h⟩
        walk_at "S"
        refine ⟨small_le (by simp), fun t1 ht1 => ?_⟩
        walk_at "S"
        refine ⟨small_le (by simp), fun t2 ht2 => ?_⟩
        have k1 : Kp [] Hd (upd Hd t1 (.tup [.str "note", .str b.p])) := Kp.refl.upd_new ht1
        have k2 : Kp [] Hd (upd (upd Hd t1 (.tup [.str "note", .str b.p])) t2 (.tup [.ref t1])) := k1.upd_new ht2
        have ht2' : SqT K (upd (upd Hd t1 (.tup [.str "note", .str b.p])) t2 (.tup [.ref t1])) t2 [.ref t1] := sq_t upd_same
        have dc : Dp K (upd (upd Hd t1 (.tup [.str "note", .str b.p])) t2 (.tup [.ref t1])) (.ref t2) (.tuple (b.rows.drop 1 ++ [.tuple [.str "note", .str b.p]])) := by
          rw [er]
          exact .tup (sq_t upd_same) (.cons (note2 ((upd_ne (ne_of_none upd_same ht2)).trans upd_same)) .nil)
        generalize upd (upd Hd t1 (.tup [.str "note", .str b.p])) t2 (.tup [.ref t1]) = He at *
        refine ⟨b.a, t2, [], [.ref t1], rfl, rfl, k2.seqT trivial hs4, ht2', small_le (by simp), fun _ => ?_, fun h => absurd rfl h, fun h => absurd rfl h⟩
        walk_at "S"
        refine s_ixL (sq_l (k2.get trivial eF4)) aL ?_
        walk_at "S"
        refine s_putS ((I4.same k2).sh y my).at_ (few k2) ?_
        obtain ⟨I6, eS6⟩ := fin He t2 k2 dc
        exact ⟨_, _, _, _, rfl, I6, eS6⟩
      | cons v0 vr =>
        obtain ⟨r0, rr, er⟩ : ∃ r0 rr, b.rows = r0 :: rr := by
          cases e : b.rows with
          | nil => rw [e] at lv; simp at lv
          | cons a r => exact ⟨a, r, rfl⟩
        rw [er] at ha4
        obtain ⟨d0, dr⟩ : Dp K Hd v0 r0 ∧ DpAll K Hd vr rr := by cases ha4 with | cons a b => exact ⟨a, b⟩
        refine ⟨b.a, v0 :: vr, rfl, hs4, fun h => ?_, fun _ => ?_⟩
        · have := h.1
          rw [show HT.sIx (v0 :: vr).length 0 (some 1) = 1 from (HT.sIx_nat (v0 :: vr).length 0 1).trans (by rw [List.length_cons]; omega)] at this
          omega
        rw [cut_from1]
        intro t0 ht0
        have k0 : Kp [] Hd (upd Hd t0 (.tup vr)) := Kp.refl.upd_new ht0
        walk_at "S"
        refine ⟨small_le (by simp), fun t1 ht1 => ?_⟩
        walk_at "S"
        refine ⟨small_le (by simp), fun t2 ht2 => ?_⟩
        have k1 := k0.upd_new (o := .tup [.str "note", .str b.p]) ht1
        have k2 := k1.upd_new (o := .tup [.ref t1]) ht2
        have e0 : upd (upd (upd Hd t0 (.tup vr)) t1 (.tup [.str "note", .str b.p])) t2 (.tup [.ref t1]) t0 = some (.tup vr) := (upd_ne (ne_of_none ((upd_ne (ne_of_none upd_same ht1)).trans upd_same) ht2)).trans ((upd_ne (ne_of_none upd_same ht1)).trans upd_same)
        have e1 : upd (upd (upd Hd t0 (.tup vr)) t1 (.tup [.str "note", .str b.p])) t2 (.tup [.ref t1]) t1 = some (.tup [.str "note", .str b.p]) := (upd_ne (ne_of_none upd_same ht2)).trans upd_same
        have e2 : upd (upd (upd Hd t0 (.tup vr)) t1 (.tup [.str "note", .str b.p])) t2 (.tup [.ref t1]) t2 = some (.tup [.ref t1]) := upd_same
        generalize upd (upd (upd Hd t0 (.tup vr)) t1 (.tup [.str "note", .str b.p])) t2 (.tup [.ref t1]) = He at *
        have drE := Dp.sameAll k2 _ _ dr
        refine ⟨t0, t2, vr, [.ref t1], rfl, rfl, sq_t e0, sq_t e2, small_le (by rw [List.length_cons] at lv; rw [List.length_singleton]; omega), fun h => ?_, fun _ h => absurd h (by simp), fun h1 _ t3 ht3 => ?_⟩
        · have dc : Dp K He (.ref t2) (.tuple (b.rows.drop 1 ++ [.tuple [.str "note", .str b.p]])) := by
            have : rr = [] := List.eq_nil_of_length_eq_zero (by rw [← DpAll.len dr, h]; rfl)
            rw [er, this]
            exact .tup (sq_t e2) (.cons (note2 e1) .nil)
          walk_at "S"
          refine s_ixL (sq_l (k2.get trivial eF4)) aL ?_
          walk_at "S"
          refine s_putS ((I4.same k2).sh y my).at_ (few k2) ?_
          obtain ⟨I6, eS6⟩ := fin He t2 k2 dc
          exact ⟨_, _, _, _, rfl, I6, eS6⟩
        · have k3 := k2.upd_new (o := .tup (vr ++ [.ref t1])) ht3
          have k23 : Kp [] He (upd He t3 (.tup (vr ++ [.ref t1]))) := Kp.refl.upd_new ht3
          have dc : Dp K (upd He t3 (.tup (vr ++ [.ref t1]))) (.ref t3) (.tuple (b.rows.drop 1 ++ [.tuple [.str "note", .str b.p]])) := by
            rw [er]
            exact .tup (sq_t upd_same) (DpAll.snoc (Dp.sameAll k23 _ _ drE) (note2 (k23.get trivial e1)))
          walk_at "S"
          refine s_ixL (sq_l (k3.get trivial eF4)) aL ?_
          walk_at "S"
          refine s_putS ((I4.same k3).sh y my).at_ (few k3) ?_
          obtain ⟨I6, eS6⟩ := fin _ t3 k3 dc
          exact ⟨_, _, _, _, rfl, I6, eS6⟩
    · obtain ⟨shs, o3, o4, o5, rfl, I, eSx⟩ := I
      rw [List.length_map] at I
      refine ⟨eSx, ?_⟩
      walk_at "S"
      have ku : Kp [S] Hx (upd Hx S (.dK (bs.map Bd.kv))) := Kp.refl.upd_mem List.mem_cons_self
      have tu : TupK Hx (upd Hx S (.dK (bs.map Bd.kv))) := .of ku fun x hx => by rw [List.mem_singleton.mp hx]; exact notup_frzK eSx
      have nFS' : F ≠ S := nFS
      have I5 := I.step ku tu (I.hp.upd fun e => by obtain ⟨s, q⟩ := I.hp; rw [e, eSx] at q; cases q) (fun x hx => .inl (by rw [List.mem_singleton.mp hx]; simp)) ⟨nFS, trivial⟩ fun x hx => ⟨(fun e => by have := (I.sh x hx).at_; rw [e, eSx] at this; cases this), trivial⟩
      refine q _ F shs (fun a o na ha => ?_) I5 ⟨upd_same, st.nd, st.ok, fun b hb => Dp.tups I5.tk _ _ (flat_rows (st.row b hb)) (st.dp b hb), st.row, st.len, st.few, st.ne⟩
      by_cases c : a = S
      · subst c
        rw [upd_same, ← ha, st.at_]
      · exact I5.kp a o ⟨na.1, c, trivial⟩ ha
end

def spIsName (K : PySem.W.Frag) : Sp := fun vs H Q _ =>
  (∃ z : Str, vs = [.str z] ∧ z.length ≤ 100010 ∧ ∀ H', Kp [] H H' → Q (.bl (isNameL (tl z))) H') ∨
  (∃ (x : V) (t : String), vs = [x] ∧ TyX K H x (.type t) ∧ kitB t "str" = some false ∧ Q (.bl false) H)
def spIsPath (K : PySem.W.Frag) : Sp := fun vs H Q _ =>
  (∃ z : Str, vs = [.str z] ∧ z.length ≤ 100000 ∧ ∀ H', Kp [] H H' → Q (.bl (isPathL (tl z))) H') ∨
  (∃ (x : V) (t : String), vs = [x] ∧ TyX K H x (.type t) ∧ kitB t "str" = some false ∧ Q (.bl false) H)
section
variable {P : Program} {w : World} {K : PySem.W.Frag} {mg : Str → Option Value} {base : Heap} {C_Module C_Runs : Addr}
theorem ok_is_name {f : Addr} {fd : FuncData} (F : Fun K "is_name" "is_name" s_is_name f fd) (T : Txt K mg C_Module C_Runs) : FnOk P w K mg base CX0 1 f fd ["thing"] (spIsName K) := by
  refine F.ok sc_is_name (fun vs H Q E h => ?_) (fun cdv A outer s H vs Q E hr h => ?_)
  · rcases h with ⟨z, rfl, _⟩ | ⟨x, t, rfl, _⟩ <;> rfl
  · obtain ⟨t_MOST_LETTERS, hc_MOST_LETTERS⟩ := T.c_MOST_LETTERS; obtain ⟨t_LETTERS, hc_LETTERS⟩ := T.c_LETTERS
    rcases h with ⟨z, rfl, hz', k⟩ | ⟨x, t, rfl, ht, hk, q⟩
    · have hz := small_le hz'
      have kz := len_tl z
      refine ⟨_, (pss_cons (ps_if (PW.pt (pw_or (pt_not (pt_val (pe_callB (isiK (K := K) rfl) (by rfl) T.n_isinstance (by decide +kernel) (pa_cons (pv 0) (pa_cons (pe_bltn (v := .ty "str") (by rfl) T.n_str (by decide +kernel) rfl) pa_nil))))) (pw_or (pt_cmpR op_lt (pe_callB lenS (by rfl) T.n_len (by decide +kernel) (pa_cons (pv 0) pa_nil)) pe_int (nomark _)) (pw_or1 (pt_cmpR op_gt (pe_callB lenS (by rfl) T.n_len (by decide +kernel) (pa_cons (pv 0) pa_nil)) (pe_glob (v := .int 8) rfl hc_MOST_LETTERS ⟨_, rfl⟩) (nomark _)))))) (pss_one (ps_ret pe_bl)) pss_nil)
      (pss_one (ps_ret (pe_callB (allK (K := K) rfl rfl) (by rfl) T.n_all (by decide +kernel) (pa_cons (pe_lc (own := [("sign", 1)]) (g := gName 1) (tt := tYes) rfl sc_is_name.nd (pi_str (pv 0)) (blkOk_by (own := [("sign", 1)]) (N := N_is_name) (sc := (defScope s_is_name)) (by decide +kernel)) (fun _ _ _ _ _ => (pg_name (i := 1) sc_is_name.nd rfl (Or.inl rfl))) (fun _ _ _ _ _ => pts_nil) (fun _ _ _ _ _ => (pe_cmpR inSg (pv 1) (pe_glob (v := .str "abcdefghijklmnopqrstuvwxyz") rfl hc_LETTERS ⟨_, rfl⟩) rfl))) pa_nil))))), ?_⟩
      refine st_start (σ' := [some (.str z), none]) rfl ?_
      walk_at "S"
      refine isi_ty (.base (.str z)) (b := true) (by decide +kernel) ?_
      walk_at "S"
      have e0 : isNameL (tl z) = (decide (1 ≤ z.length) && decide (z.length ≤ 8) && (tl z).all fun c => decide (c ∈ lets)) := by
        unfold isNameL
        rw [kz]
      rw [e0] at k
      refine s_dec (fun h1 => ?_) (fun h1 => ?_)
      · walk_at "S"
        rw [decide_eq_false (p := 1 ≤ z.length) (by omega)] at k
        exact k _ Kp.refl
      walk_at "S"
      refine s_dec (fun h2 => ?_) (fun h2 => ?_)
      · walk_at "S"
        rw [decide_eq_false (p := z.length ≤ 8) (by omega), Bool.and_false] at k
        exact k _ Kp.refl
      walk_at "S"
      intro D hD
      have L : LcOk D z.cps.size (fun i => (((tl z).map fun c => decide (c ∈ lets)).take i).map V.bl) [] H (fun _ _ => True) :=
        ⟨by have := hz; unfold Str.length at this; exact this, rfl, fun i hi => by rw [List.length_map, List.length_take]; omega, hD, trivial, fun _ _ _ h => h⟩
      refine lc_go walk_str L trivial (fun _ _ => trivial) (fun i x H2 H' hi I y => ?_) fun H2 I => ?_
      · obtain ⟨rfl, c, hc, rfl⟩ := y
        walk_at "S"
        refine ⟨rfl, ?_⟩
        walk_at "S"
        refine I.put L hi ?_ Kp.refl trivial
        have e1 : ((tl z).map fun c => decide (c ∈ lets))[i]? = some (decide (c ∈ lets)) := by
          rw [List.getElem?_map, show (tl z)[i]? = some c by simpa using hc]
          rfl
        show List.map V.bl (List.take (i + 1) _) = _
        rw [take_put e1, List.map_append]
        rfl
      · obtain ⟨p1, p2, _⟩ := I
        walk_at "S"
        refine s_all (sq_l p1) ?_
        rw [decide_eq_true (p := 1 ≤ z.length) (by omega), decide_eq_true (p := z.length ≤ 8) (by omega)] at k
        rw [List.take_of_length_le (by simp), List.all_map]
        exact k _ p2
    · refine ⟨_, (pss_cons (ps_if (PW.pt (pw_or (pt_not (pt_val (pe_callB (isiK (K := K) rfl) (by rfl) T.n_isinstance (by decide +kernel) (pa_cons (pv 0) (pa_cons (pe_bltn (v := .ty "str") (by rfl) T.n_str (by decide +kernel) rfl) pa_nil))))) (pw_or (pt_cmpR op_lt (pe_callB lenS (by rfl) T.n_len (by decide +kernel) (pa_cons (pv 0) pa_nil)) pe_int (nomark _)) (pw_or1 (pt_cmpR op_gt (pe_callB lenS (by rfl) T.n_len (by decide +kernel) (pa_cons (pv 0) pa_nil)) (pe_glob (v := .int 8) rfl hc_MOST_LETTERS ⟨_, rfl⟩) (nomark _)))))) (pss_one (ps_ret pe_bl)) pss_nil)
      (pss_one (ps_ret (pe_callB (allK (K := K) rfl rfl) (by rfl) T.n_all (by decide +kernel) (pa_cons (pe_lc (own := [("sign", 1)]) (g := gName 1) (tt := tYes) rfl sc_is_name.nd (pi_str (pv 0)) (blkOk_by (own := [("sign", 1)]) (N := N_is_name) (sc := (defScope s_is_name)) (by decide +kernel)) (fun _ _ _ _ _ => (pg_name (i := 1) sc_is_name.nd rfl (Or.inl rfl))) (fun _ _ _ _ _ => pts_nil) (fun _ _ _ _ _ => (pe_cmpR inSg (pv 1) (pe_glob (v := .str "abcdefghijklmnopqrstuvwxyz") rfl hc_LETTERS ⟨_, rfl⟩) rfl))) pa_nil))))), ?_⟩
      refine st_start (σ' := [some x, none]) rfl ?_
      walk_at "S"
      refine isi_ty ht hk ?_
      walk_at "S"
      exact q
theorem ok_is_path {f : Addr} {fd : FuncData} (F : Fun K "is_path" "is_path" s_is_path f fd) (T : Txt K mg C_Module C_Runs)
    (D_is_name : DnF P w K mg base 1 "is_name" ["thing"] (spIsName K)) : FnOk P w K mg base CX0 2 f fd ["thing"] (spIsPath K) := by
  refine F.ok sc_is_path (fun vs H Q E h => ?_) (fun cdv A outer s H vs Q E hr h => ?_)
  · rcases h with ⟨z, rfl, _⟩ | ⟨x, t, rfl, _⟩ <;> rfl
  · obtain ⟨f_is_name, fd_is_name, G_is_name, m_is_name, k_is_name, b_is_name⟩ := D_is_name; obtain ⟨t_DOT, hc_DOT⟩ := T.c_DOT; obtain ⟨t_MOST_NAMES, hc_MOST_NAMES⟩ := T.c_MOST_NAMES
    rcases h with ⟨z, rfl, hz, k⟩ | ⟨x, t, rfl, ht, hk, q⟩
    · have hzl : (tl z).length ≤ 100000 := by rw [← len_tl]; exact hz
      have hwl := wds_length (tl z) []
      refine ⟨_, (pss_cons (ps_if (pt_not (pt_val (pe_callB (isiK (K := K) rfl) (by rfl) T.n_isinstance (by decide +kernel) (pa_cons (pv 0) (pa_cons (pe_bltn (v := .ty "str") (by rfl) T.n_str (by decide +kernel) rfl) pa_nil))))) (pss_one (ps_ret pe_bl)) pss_nil)
      (pss_cons (ps_set (i := 1) sc_is_path.nd rfl (Or.inl rfl) (pe_m1 PySem.F.slot_str_split PySem.F.type_str_split splitR (pv 0) (pe_glob (v := .str ".") rfl hc_DOT ⟨_, rfl⟩)))
      (pss_one (ps_ret (pe_and (pe_cmpR op_le (pe_callB (lenK (K := K) rfl) (by rfl) T.n_len (by decide +kernel) (pa_cons (pv 1) pa_nil)) (pe_glob (v := .int 4) rfl hc_MOST_NAMES ⟨_, rfl⟩) (nomark _)) (pe_one (pe_callB (allK (K := K) rfl rfl) (by rfl) T.n_all (by decide +kernel) (pa_cons (pe_lc (own := [("name", 2)]) (g := gName 2) (tt := tYes) rfl sc_is_path.nd (kiL (K := K) rfl (pi_list (pv 1))) (blkOk_by (own := [("name", 2)]) (N := N_is_path) (sc := (defScope s_is_path)) (by decide +kernel)) (fun _ _ _ _ _ => (pg_name (i := 2) sc_is_path.nd rfl (Or.inl rfl))) (fun _ _ _ _ _ => pts_nil) (fun _ _ _ _ _ => (pe_call G_is_name (hr.mono (by first | decide | omega)) (by rfl) m_is_name k_is_name b_is_name .nil pass0 (pa_cons (pv 2) pa_nil)))) pa_nil)))))))), ?_⟩
      refine st_start (σ' := [some (.str z), none, none]) rfl ?_
      walk_at "S"
      refine isi_ty (.base (.str z)) (b := true) (by decide +kernel) ?_
      walk_at "S"
      refine s_splitS (by decide +kernel) (small_le (by omega)) fun a ha => ?_
      rw [split_dot]
      walk_at "S"
      generalize hN : wds [] (tl z) = ws at *
      have el : (((ws.map mkS).map V.str).length : Int) = (ws.length : Int) := by simp
      rw [el]
      have ep : isPathL (tl z) = (decide ((ws.length : Int) ≤ 4) && ws.all isNameL) := by
        unfold isPathL
        rw [hN]
        congr 1
        exact decide_eq_decide.mpr (by omega)
      rw [ep] at k
      by_cases h4 : (ws.length : Int) ≤ 4
      · rw [decide_eq_true h4] at k ⊢
        walk_at "S"
        refine ⟨⟨_, sq_l upd_same⟩, fun D hD => ?_⟩
        have na : a ≠ D := ne_of_none upd_same hD
        have L : LcOk D ((ws.map mkS).map V.str).length (fun i => ((ws.map isNameL).map V.bl).take i) [] (upd H a (.lst ((ws.map mkS).map V.str))) (fun _ _ => True) :=
          .ofTake (by simp; exact small_le (by omega)) hD trivial (fun _ _ _ h => h)
        refine lc_go (walk_list (K := K) (a := a) (xs := (ws.map mkS).map V.str)) L trivial (fun H2 k2 => k2.seqL trivial (sq_l upd_same)) (fun i x H2 H' hi I y => ?_) fun H2 I => ?_
        · obtain ⟨rfl, hx⟩ := y
          rw [List.getElem?_map, List.getElem?_map] at hx
          obtain ⟨p, hp, rfl⟩ : ∃ p, ws[i]? = some p ∧ x = V.str (mkS p) := by
            cases e : ws[i]? with
            | none => rw [e] at hx; cases hx
            | some p => rw [e] at hx; exact ⟨p, rfl, (Option.some.inj hx).symm⟩
          walk_at "S"
          refine ⟨rfl, ?_⟩
          walk_at "S"
          refine .inl ⟨mkS p, rfl, ?_, fun H3 K3 => ?_⟩
          · have := wds_mem (tl z) [] p (by rw [hN]; exact List.mem_of_getElem? hp)
            rw [mkS_len]
            rw [List.length_nil] at this
            omega
          · rw [tl_mkS]
            refine I.put L hi (take_put ?_) K3 trivial
            rw [List.getElem?_map, List.getElem?_map, hp]
            rfl
        · obtain ⟨p1, p2, _⟩ := I
          walk_at "S"
          dsimp only at p1
          rw [List.take_of_length_le (by simp)] at p1
          refine s_all (bs := ws.map isNameL) (sq_l p1) ?_
          rw [List.all_map]
          exact k H2 (by walk_at "K")
      · rw [decide_eq_false h4] at k ⊢
        walk_at "S"
        exact k _ (Kp.refl.upd_new ha)
    · refine ⟨_, (pss_cons (ps_if (pt_not (pt_val (pe_callB (isiK (K := K) rfl) (by rfl) T.n_isinstance (by decide +kernel) (pa_cons (pv 0) (pa_cons (pe_bltn (v := .ty "str") (by rfl) T.n_str (by decide +kernel) rfl) pa_nil))))) (pss_one (ps_ret pe_bl)) pss_nil)
      (pss_cons (ps_set (i := 1) sc_is_path.nd rfl (Or.inl rfl) (pe_m1 PySem.F.slot_str_split PySem.F.type_str_split splitR (pv 0) (pe_glob (v := .str ".") rfl hc_DOT ⟨_, rfl⟩)))
      (pss_one (ps_ret (pe_and (pe_cmpR op_le (pe_callB (lenK (K := K) rfl) (by rfl) T.n_len (by decide +kernel) (pa_cons (pv 1) pa_nil)) (pe_glob (v := .int 4) rfl hc_MOST_NAMES ⟨_, rfl⟩) (nomark _)) (pe_one (pe_callB (allK (K := K) rfl rfl) (by rfl) T.n_all (by decide +kernel) (pa_cons (pe_lc (own := [("name", 2)]) (g := gName 2) (tt := tYes) rfl sc_is_path.nd (kiL (K := K) rfl (pi_list (pv 1))) (blkOk_by (own := [("name", 2)]) (N := N_is_path) (sc := (defScope s_is_path)) (by decide +kernel)) (fun _ _ _ _ _ => (pg_name (i := 2) sc_is_path.nd rfl (Or.inl rfl))) (fun _ _ _ _ _ => pts_nil) (fun _ _ _ _ _ => (pe_call G_is_name (hr.mono (by first | decide | omega)) (by rfl) m_is_name k_is_name b_is_name .nil pass0 (pa_cons (pv 2) pa_nil)))) pa_nil)))))))), ?_⟩
      refine st_start (σ' := [some x, none, none]) rfl ?_
      walk_at "S"
      refine isi_ty ht hk ?_
      walk_at "S"
      exact q
end

def spIsWhole (K : PySem.W.Frag) : Sp := fun vs H Q _ => ∃ (v : V) (d : PyData), vs = [v] ∧ Dp K H v d ∧ Part d ∧ Q (.bl (isWholeX d)) H
def spIsWord : Sp := fun vs H Q _ => ∃ z : Str, vs = [.str z] ∧ z.length ≤ 100000 ∧ ∀ H', Kp [] H H' → Q (.bl (isWordS z)) H'
theorem name_arg {K : PySem.W.Frag} {H : Hp} {v : V} {d : PyData} {Q : VK} {E : XK} (h : Dp K H v d) (p : Part d) (q : ∀ H', Kp [] H H' → Q (.bl (isNameX d)) H') : spIsName K [v] H Q E := by
  cases p with
  | non => cases h; exact .inr ⟨_, "NoneType", rfl, .base .non, by decide +kernel, q _ Kp.refl⟩
  | int n => cases h; exact .inr ⟨_, "int", rfl, .base (.int _), by decide +kernel, q _ Kp.refl⟩
  | str l => cases h; exact .inl ⟨_, rfl, Nat.le_trans l (by decide), q⟩
theorem path_arg {K : PySem.W.Frag} {H : Hp} {v : V} {d : PyData} {Q : VK} {E : XK} (h : Dp K H v d) (p : Part d) (q : ∀ H', Kp [] H H' → Q (.bl (isPathX d)) H') : spIsPath K [v] H Q E := by
  cases p with
  | non => cases h; exact .inr ⟨_, "NoneType", rfl, .base .non, by decide +kernel, q _ Kp.refl⟩
  | int n => cases h; exact .inr ⟨_, "int", rfl, .base (.int _), by decide +kernel, q _ Kp.refl⟩
  | str l => cases h; exact .inl ⟨_, rfl, l, q⟩
section
variable {P : Program} {w : World} {K : PySem.W.Frag} {mg : Str → Option Value} {base : Heap} {C_Module C_Runs : Addr}
theorem ok_is_whole {f : Addr} {fd : FuncData} (F : Fun K "is_whole" "is_whole" s_is_whole f fd) (T : Txt K mg C_Module C_Runs) : FnOk P w K mg base CX0 1 f fd ["thing"] (spIsWhole K) := by
  refine F.ok sc_is_whole (fun vs H Q E h => ?_) (fun cdv A outer s H vs Q E hr h => ?_)
  · obtain ⟨v, d, rfl, _⟩ := h
    rfl
  · obtain ⟨v, d, rfl, hd, hp, q⟩ := h
    refine ⟨_, (pss_one (ps_ret (pe_and (pe_callB (isiK (K := K) rfl) (by rfl) T.n_isinstance (by decide +kernel) (pa_cons (pv 0) (pa_cons (pe_bltn (v := .ty "int") (by rfl) T.n_int (by decide +kernel) rfl) pa_nil))) (pe_one (pe_not (pe_callB (isiK (K := K) rfl) (by rfl) T.n_isinstance (by decide +kernel) (pa_cons (pv 0) (pa_cons (pe_bltn (v := .ty "bool") (by rfl) T.n_bool (by decide +kernel) rfl) pa_nil)))))))), ?_⟩
    refine st_start (σ' := [some v]) rfl ?_
    cases hp with
    | non =>
      cases hd
      walk_at "S"
      refine isi_ty (.base .non) (b := false) (by decide +kernel) ?_
      walk_at "S"
      exact q
    | int n =>
      cases hd
      walk_at "S"
      refine isi_ty (.base (.int _)) (b := true) (by decide +kernel) ?_
      walk_at "S"
      refine isi_ty (.base (.int _)) (b := false) (by decide +kernel) ?_
      walk_at "S"
      exact q
    | str l =>
      cases hd
      walk_at "S"
      refine isi_ty (.base (.str _)) (b := false) (by decide +kernel) ?_
      walk_at "S"
      exact q
theorem ok_is_word {f : Addr} {fd : FuncData} (F : Fun K "is_word" "is_word" s_is_word f fd) (T : Txt K mg C_Module C_Runs)
    (D_is_name : DnF P w K mg base 1 "is_name" ["thing"] (spIsName K)) : FnOk P w K mg base CX0 2 f fd ["thing"] spIsWord := by
  refine F.ok sc_is_word (fun vs H Q E h => ?_) (fun cdv A outer s H vs Q E hr h => ?_)
  · obtain ⟨z, rfl, _⟩ := h
    rfl
  · obtain ⟨f_is_name, fd_is_name, G_is_name, m_is_name, k_is_name, b_is_name⟩ := D_is_name; obtain ⟨a_FAULT_WORDS, hc_FAULT_WORDS, sq_FAULT_WORDS⟩ := T.c_FAULT_WORDS
    obtain ⟨z, rfl, hz, q⟩ := h
    refine ⟨_, (pss_one (ps_ret (pe_or (pe_call G_is_name (hr.mono (by first | decide | omega)) (by rfl) m_is_name k_is_name b_is_name .nil pass0 (pa_cons (pv 0) pa_nil)) (pe_one (pe_and (pe_callB (isiK (K := K) rfl) (by rfl) T.n_isinstance (by decide +kernel) (pa_cons (pv 0) (pa_cons (pe_bltn (v := .ty "str") (by rfl) T.n_str (by decide +kernel) rfl) pa_nil))) (pe_one (pe_cmpR (inK (K := K) rfl) (pv 0) (pe_glob (v := .ref a_FAULT_WORDS) rfl hc_FAULT_WORDS rfl) (by rfl)))))))), ?_⟩
    refine st_start (σ' := [some (.str z)]) rfl ?_
    walk_at "S"
    refine .inl ⟨z, rfl, by omega, fun H1 k1 => ?_⟩
    have qq := q H1 k1
    unfold isWordS at qq
    walk_at "S"
    refine s_bool (fun h1 => ?_) (fun h1 => ?_)
    · rw [h1, Bool.true_or] at qq
      exact qq
    · rw [h1, Bool.false_or] at qq
      walk_at "S"
      refine isi_ty (.base (.str z)) (b := true) (by decide +kernel) ?_
      walk_at "S"
      refine ⟨_, faultW.map V.str, rfl, .inr (sq_FAULT_WORDS H1), rfl, flatV_strs _, ?_⟩
      rw [inV_strs]
      walk_at "S"
      exact qq
end

theorem dpAll_strs_inv {K : PySem.W.Frag} {H : Hp} : ∀ {ws : List Str} {vs : List V}, DpAll K H vs (ws.map PyData.str) → vs = ws.map V.str
  | [], _, .nil => rfl
  | z :: ws, _, .cons h t => by
    cases h
    rw [dpAll_strs_inv t]
    rfl
theorem areWordsX_strs (ws : List Str) : areWordsX (.tuple (ws.map .str)) = (ws.all isWordS && decide ws.Nodup) := by
  have e : ∀ (f : Str → Str), (∀ z, f z = z) → ws.map f = ws := fun f h => (List.map_congr_left fun z _ => h z).trans (List.map_id' ws)
  have g := e ((fun d : PyData => match d with | .str z => z | _ => Str.empty) ∘ PyData.str) fun _ => rfl
  unfold areWordsX
  dsimp only
  rw [List.all_map, List.map_map]
  refine congr (congrArg _ rfl) (decide_eq_decide.mpr ?_)
  exact Iff.of_eq (congrArg List.Nodup g)
def spAreWords (K : PySem.W.Frag) : Sp := fun vs H Q _ =>
  (∃ (v : V) (ws : List Str), vs = [v] ∧ Dp K H v (.tuple (ws.map .str)) ∧ (∀ z ∈ ws, z.length ≤ 100000) ∧ ws.length ≤ 100 ∧ ∀ H', Kp [] H H' → Q (.bl (areWordsX (.tuple (ws.map .str)))) H') ∨
  (∃ (x : V) (t : String), vs = [x] ∧ TyX K H x (.type t) ∧ kitB t "tuple" = some false ∧ Q (.bl false) H)
section
variable {P : Program} {w : World} {K : PySem.W.Frag} {mg : Str → Option Value} {base : Heap} {C_Module C_Runs : Addr}
theorem ok_are_words {f : Addr} {fd : FuncData} (F : Fun K "are_words" "are_words" s_are_words f fd) (T : Txt K mg C_Module C_Runs)
    (D_is_word : DnF P w K mg base 2 "is_word" ["thing"] spIsWord) : FnOk P w K mg base CX0 3 f fd ["thing"] (spAreWords K) := by
  refine F.ok sc_are_words (fun vs H Q E h => ?_) (fun cdv A outer s H vs Q E hr h => ?_)
  · rcases h with ⟨v, ws, rfl, _⟩ | ⟨x, t, rfl, _⟩ <;> rfl
  · obtain ⟨f_is_word, fd_is_word, G_is_word, m_is_word, k_is_word, b_is_word⟩ := D_is_word
    rcases h with ⟨v, ws, rfl, hd, hz, hl, q⟩ | ⟨x, t, rfl, ht, hk, q⟩
    · have ty : TyX K H v (.type "tuple") := Dp.ty hd
      cases hd with
      | tup hs ha =>
        rename_i a vs
        obtain rfl := dpAll_strs_inv ha
        rw [areWordsX_strs] at q
        refine ⟨_, (pss_cons (ps_if (PW.pt (pw_or (pt_not (pt_val (pe_callB (isiK (K := K) rfl) (by rfl) T.n_isinstance (by decide +kernel) (pa_cons (pv 0) (pa_cons (pe_bltn (v := .ty "tuple") (by rfl) T.n_tuple (by decide +kernel) rfl) pa_nil))))) (pw_or1 (pt_not (pt_val (pe_callB (allK (K := K) rfl rfl) (by rfl) T.n_all (by decide +kernel) (pa_cons (pe_lc (own := [("word", 1)]) (g := gName 1) (tt := tYes) rfl sc_are_words.nd (kiT (K := K) rfl (pi_tup (pv 0))) (blkOk_by (own := [("word", 1)]) (N := N_are_words) (sc := (defScope s_are_words)) (by decide +kernel)) (fun _ _ _ _ _ => (pg_name (i := 1) sc_are_words.nd rfl (Or.inl rfl))) (fun _ _ _ _ _ => pts_nil) (fun _ _ _ _ _ => (pe_call G_is_word (hr.mono (by first | decide | omega)) (by rfl) m_is_word k_is_word b_is_word .nil pass0 (pa_cons (pv 1) pa_nil)))) pa_nil))))))) (pss_one (ps_ret pe_bl)) pss_nil)
      (pss_one (ps_ret (pe_cmpR op_eq (pe_lenSetT (K := K) rfl rfl (by rfl) T.n_len (by rfl) T.n_set (pv 0)) (pe_callB (lenK (K := K) rfl) (by rfl) T.n_len (by decide +kernel) (pa_cons (pv 0) pa_nil)) (nomark _))))), ?_⟩
        refine st_start (σ' := [some (.ref a), none]) rfl ?_
        walk_at "S"
        refine isi_ty ty (b := true) (by decide +kernel) ?_
        walk_at "S"
        refine ⟨⟨_, hs⟩, fun D hD => ?_⟩
        have L : LcOk D (ws.map V.str).length (fun i => ((ws.map isWordS).map V.bl).take i) [] H (fun _ _ => True) :=
          .ofTake (by rw [List.length_map]; exact small_le (by omega)) hD trivial (fun _ _ _ h => h)
        refine lc_go (walk_tup (K := K) (a := a) (xs := ws.map V.str)) L trivial (fun H2 k2 => k2.seqT trivial hs) (fun i x H2 H' hi I y => ?_) fun H2 I => ?_
        · obtain ⟨rfl, hx⟩ := y
          rw [List.getElem?_map] at hx
          obtain ⟨p, hp, rfl⟩ : ∃ p, ws[i]? = some p ∧ x = V.str p := by
            cases e : ws[i]? with
            | none => rw [e] at hx; cases hx
            | some p => rw [e] at hx; exact ⟨p, rfl, (Option.some.inj hx).symm⟩
          walk_at "S"
          refine ⟨rfl, ?_⟩
          walk_at "S"
          refine ⟨p, rfl, hz p (List.mem_of_getElem? hp), fun H3 K3 => ?_⟩
          refine I.put L hi (take_put ?_) K3 trivial
          rw [List.getElem?_map, List.getElem?_map, hp]
          rfl
        · obtain ⟨p1, p2, _⟩ := I
          dsimp only at p1
          rw [List.take_of_length_le (by simp)] at p1
          walk_at "S"
          refine s_all (bs := ws.map isWordS) (sq_l p1) ?_
          rw [List.all_map]
          have qq := q H2 p2
          walk_at "S"
          by_cases hw : ws.all isWordS = true
          · rw [show ws.all (id ∘ isWordS) = true from hw]
            rw [hw, Bool.true_and] at qq
            walk_at "S"
            refine s_lenSet ?_
            walk_at "S"
            refine ⟨a, ws, rfl, p2.seqT trivial hs, hl, ?_⟩
            walk_at "S"
            refine s_lenT (p2.seqT trivial hs) ?_
            walk_at "S"
            rw [List.length_map]
            have e : decide (V.int (unlike ws ws.length : Nat) = V.int (ws.length : Nat)) = decide ws.Nodup := decide_eq_decide.mpr (by
              have u := unlike_all ws ws.length (Nat.le_refl _)
              rw [List.take_of_length_le (Nat.le_refl _)] at u
              rw [← u]
              exact ⟨fun z => by have := V.int.inj z; omega, fun z => by rw [z]⟩)
            rw [e]
            exact qq
          · rw [show ws.all (id ∘ isWordS) = false from Bool.eq_false_iff.mpr hw]
            rw [Bool.eq_false_iff.mpr hw, Bool.false_and] at qq
            walk_at "S"
            exact qq
    · refine ⟨_, (pss_cons (ps_if (PW.pt (pw_or (pt_not (pt_val (pe_callB (isiK (K := K) rfl) (by rfl) T.n_isinstance (by decide +kernel) (pa_cons (pv 0) (pa_cons (pe_bltn (v := .ty "tuple") (by rfl) T.n_tuple (by decide +kernel) rfl) pa_nil))))) (pw_or1 (pt_not (pt_val (pe_callB (allK (K := K) rfl rfl) (by rfl) T.n_all (by decide +kernel) (pa_cons (pe_lc (own := [("word", 1)]) (g := gName 1) (tt := tYes) rfl sc_are_words.nd (kiT (K := K) rfl (pi_tup (pv 0))) (blkOk_by (own := [("word", 1)]) (N := N_are_words) (sc := (defScope s_are_words)) (by decide +kernel)) (fun _ _ _ _ _ => (pg_name (i := 1) sc_are_words.nd rfl (Or.inl rfl))) (fun _ _ _ _ _ => pts_nil) (fun _ _ _ _ _ => (pe_call G_is_word (hr.mono (by first | decide | omega)) (by rfl) m_is_word k_is_word b_is_word .nil pass0 (pa_cons (pv 1) pa_nil)))) pa_nil))))))) (pss_one (ps_ret pe_bl)) pss_nil)
      (pss_one (ps_ret (pe_cmpR op_eq (pe_lenSetT (K := K) rfl rfl (by rfl) T.n_len (by rfl) T.n_set (pv 0)) (pe_callB (lenK (K := K) rfl) (by rfl) T.n_len (by decide +kernel) (pa_cons (pv 0) pa_nil)) (nomark _))))), ?_⟩
      refine st_start (σ' := [some x, none]) rfl ?_
      walk_at "S"
      refine isi_ty ht hk ?_
      walk_at "S"
      exact q
end

def spIsBare (K : PySem.W.Frag) : Sp := fun vs H Q _ => ∃ (v : V) (z : Str) (ds : List PyData), vs = [v] ∧ Dp K H v (.tuple (.str z :: ds)) ∧ (∀ d ∈ ds, Part d) ∧ ds.length ≤ 100000 ∧ ∀ H', Kp [] H H' → Q (.bl (isBareX z ds)) H'
theorem dpAll_nth {K : PySem.W.Frag} {H : Hp} : ∀ {vs : List V} {ds : List PyData}, DpAll K H vs ds → ∀ k, k < ds.length → ∃ v, vs[k]? = some v ∧ Dp K H v (nth ds k) ∧ nth ds k ∈ ds
  | _, _, .nil, k, h => absurd h (Nat.not_lt_zero _)
  | _, _, .cons a b, 0, _ => ⟨_, rfl, a, List.mem_cons_self⟩
  | _, _, .cons a b, k + 1, h => by
    obtain ⟨v, e, d, m⟩ := dpAll_nth b k (Nat.lt_of_succ_lt_succ h)
    exact ⟨v, e, d, List.mem_cons_of_mem _ m⟩
section
variable {P : Program} {w : World} {K : PySem.W.Frag} {mg : Str → Option Value} {base : Heap} {C_Module C_Runs : Addr}
theorem ok_is_bare {f : Addr} {fd : FuncData} (F : Fun K "is_bare" "is_bare" s_is_bare f fd) (T : Txt K mg C_Module C_Runs)
    (D_is_name : DnF P w K mg base 1 "is_name" ["thing"] (spIsName K)) (D_is_path : DnF P w K mg base 2 "is_path" ["thing"] (spIsPath K))
    (D_is_whole : DnF P w K mg base 1 "is_whole" ["thing"] (spIsWhole K)) : FnOk P w K mg base CX0 3 f fd ["row"] (spIsBare K) := by
  refine F.ok sc_is_bare (fun vs H Q E h => ?_) (fun cdv A outer s H vs Q E hr h => ?_)
  · obtain ⟨v, z, ds, rfl, _⟩ := h
    rfl
  · obtain ⟨f_is_path, fd_is_path, G_is_path, m_is_path, k_is_path, b_is_path⟩ := D_is_path; obtain ⟨f_is_name, fd_is_name, G_is_name, m_is_name, k_is_name, b_is_name⟩ := D_is_name; obtain ⟨f_is_whole, fd_is_whole, G_is_whole, m_is_whole, k_is_whole, b_is_whole⟩ := D_is_whole; obtain ⟨a_LEADING, hc_LEADING, sq_LEADING⟩ := T.c_LEADING
    obtain ⟨v, z, ds, rfl, hd, hp, hl, q⟩ := h
    cases hd with
    | tup hs ha =>
      rename_i a vs
      cases ha with
      | cons h0 ht =>
        rename_i v0 vt
        cases h0
        have el : vt.length = ds.length := DpAll.len ht
        have at_ : ∀ k, k < ds.length → ∃ v, atI (V.str z :: vt) ((k + 1 : Nat) : Int) = some v ∧ Dp K H v (nth ds k) ∧ Part (nth ds k) := fun k hk => by
          obtain ⟨v, e, d, m⟩ := dpAll_nth ht k hk
          exact ⟨v, atI_nat e, d, hp _ m⟩
        have q0 := q H Kp.refl
        refine ⟨_, (pss_cons (ps_set (i := 1) sc_is_bare.nd rfl (Or.inl rfl) (pe_ix (ixTK (K := K) rfl) (pv 0) pe_int (fun _ _ => rfl)))
      (pss_cons (ps_if (pt_cmpR op_eq (pv 1) pe_str (nomark _)) (pss_one (ps_ret (pe_and (pe_cmpR op_eq (pe_callB (lenK (K := K) rfl) (by rfl) T.n_len (by decide +kernel) (pa_cons (pv 0) pa_nil)) pe_int (nomark _)) (pe_one (pe_call G_is_path (hr.mono (by first | decide | omega)) (by rfl) m_is_path k_is_path b_is_path .nil pass0 (pa_cons (pe_ix (ixTK (K := K) rfl) (pv 0) pe_int (fun _ _ => rfl)) pa_nil)))))) pss_nil)
      (pss_cons (ps_if (pt_cmpR op_eq (pv 1) pe_str (nomark _)) (pss_one (ps_ret (pe_and (pe_cmpR op_eq (pe_callB (lenK (K := K) rfl) (by rfl) T.n_len (by decide +kernel) (pa_cons (pv 0) pa_nil)) pe_int (nomark _)) (pe_one (pe_call G_is_name (hr.mono (by first | decide | omega)) (by rfl) m_is_name k_is_name b_is_name .nil pass0 (pa_cons (pe_ix (ixTK (K := K) rfl) (pv 0) pe_int (fun _ _ => rfl)) pa_nil)))))) pss_nil)
      (pss_cons (ps_if (PW.pt (pw_or (pt_cmpR op_lt (pe_callB (lenK (K := K) rfl) (by rfl) T.n_len (by decide +kernel) (pa_cons (pv 0) pa_nil)) pe_int (nomark _)) (pw_or1 (pt_not (pt_val (pe_call G_is_name (hr.mono (by first | decide | omega)) (by rfl) m_is_name k_is_name b_is_name .nil pass0 (pa_cons (pe_ix (ixTK (K := K) rfl) (pv 0) pe_int (fun _ _ => rfl)) pa_nil))))))) (pss_one (ps_ret pe_bl)) pss_nil)
      (pss_cons (ps_if (pt_cmpR op_eq (pv 1) pe_str (nomark _)) (pss_one (ps_ret (pe_and (pe_cmpR op_eq (pe_callB (lenK (K := K) rfl) (by rfl) T.n_len (by decide +kernel) (pa_cons (pv 0) pa_nil)) pe_int (nomark _)) (pe_one (pe_call G_is_whole (hr.mono (by first | decide | omega)) (by rfl) m_is_whole k_is_whole b_is_whole .nil pass0 (pa_cons (pe_ix (ixTK (K := K) rfl) (pv 0) pe_int (fun _ _ => rfl)) pa_nil)))))) pss_nil)
      (pss_cons (ps_if (pt_cmpR op_eq (pv 1) pe_str (nomark _)) (pss_one (ps_ret (pe_and (pe_cmpR op_eq (pe_callB (lenK (K := K) rfl) (by rfl) T.n_len (by decide +kernel) (pa_cons (pv 0) pa_nil)) pe_int (nomark _)) (pe_and (pe_call G_is_path (hr.mono (by first | decide | omega)) (by rfl) m_is_path k_is_path b_is_path .nil pass0 (pa_cons (pe_ix (ixTK (K := K) rfl) (pv 0) pe_int (fun _ _ => rfl)) pa_nil)) (pe_one (pe_call G_is_name (hr.mono (by first | decide | omega)) (by rfl) m_is_name k_is_name b_is_name .nil pass0 (pa_cons (pe_ix (ixTK (K := K) rfl) (pv 0) pe_int (fun _ _ => rfl)) pa_nil))))))) pss_nil)
      (pss_one (ps_ret (pe_and (pe_cmpR (inK (K := K) rfl) (pv 1) (pe_glob (v := .ref a_LEADING) rfl hc_LEADING rfl) (by rfl)) (pe_and (pe_cmpR op_eq (pe_callB (lenK (K := K) rfl) (by rfl) T.n_len (by decide +kernel) (pa_cons (pv 0) pa_nil)) pe_int (nomark _)) (pe_one (pe_call G_is_path (hr.mono (by first | decide | omega)) (by rfl) m_is_path k_is_path b_is_path .nil pass0 (pa_cons (pe_ix (ixTK (K := K) rfl) (pv 0) pe_int (fun _ _ => rfl)) pa_nil))))))))))))), ?_⟩
        refine st_start (σ' := [some (.ref a), none]) rfl ?_
        have e0 : atI (V.str z :: vt) ((0 : Nat) : Int) = some (.str z) := atI_nat rfl
        walk_at "S"
        refine s_ixT hs e0 ?_
        walk_at "S"
        refine s_dec (fun h1 => ?_) (fun h1 => ?_)
        · have e1 := V.str.inj h1
          subst e1
          unfold isBareX at q q0
          rw [if_pos rfl] at q0
          walk_at "S"
          refine s_dec (fun h2 => ?_) (fun h2 => ?_)
          · have h2' : ds.length = 1 := by have := V.int.inj h2; rw [List.length_cons, el] at this; omega
            obtain ⟨v, e, d, pt⟩ := at_ 0 (by omega)
            walk_at "S"
            refine s_ixT hs e ?_
            walk_at "S"
            refine path_arg d pt fun H1 k1 => ?_
            have q1 := q H1 k1
            rw [if_pos rfl, decide_eq_true h2', Bool.true_and] at q1
            exact q1
          · have h2' : ¬ ds.length = 1 := fun z => h2 (by rw [List.length_cons, el, z]; rfl)
            rw [decide_eq_false h2', Bool.false_and] at q0
            exact q0
        have n1 : z ≠ "note" := fun e => h1 (by rw [e])
        walk_at "S"
        refine s_dec (fun h2 => ?_) (fun h2 => ?_)
        · have e1 := V.str.inj h2
          subst e1
          unfold isBareX at q q0
          rw [if_neg n1, if_pos rfl] at q0
          walk_at "S"
          refine s_dec (fun h2 => ?_) (fun h2 => ?_)
          · have h2' : ds.length = 1 := by have := V.int.inj h2; rw [List.length_cons, el] at this; omega
            obtain ⟨v, e, d, pt⟩ := at_ 0 (by omega)
            walk_at "S"
            refine s_ixT hs e ?_
            walk_at "S"
            refine name_arg d pt fun H1 k1 => ?_
            have q1 := q H1 k1
            rw [if_neg n1, if_pos rfl, decide_eq_true h2', Bool.true_and] at q1
            exact q1
          · have h2' : ¬ ds.length = 1 := fun z => h2 (by rw [List.length_cons, el, z]; rfl)
            rw [decide_eq_false h2', Bool.false_and] at q0
            exact q0
        have n2 : z ≠ "fail" := fun e => h2 (by rw [e])
        unfold isBareX at q q0
        rw [if_neg n1, if_neg n2] at q0
        walk_at "S"
        refine s_dec (fun h3 => ?_) (fun h3 => ?_)
        · walk_at "S"
          have h3' : ds.length < 2 := by rw [List.length_cons, el] at h3; omega
          rw [if_pos h3'] at q0
          exact q0
        have h3' : ¬ ds.length < 2 := by rw [List.length_cons, el] at h3; omega
        rw [if_neg h3'] at q0
        obtain ⟨v1, e1, d1, p1⟩ := at_ 0 (by omega)
        obtain ⟨v2, e2, d2, p2⟩ := at_ 1 (by omega)
        walk_at "S"
        refine s_ixT hs e1 ?_
        walk_at "S"
        refine name_arg d1 p1 fun H1 k1 => ?_
        have q1 := q H1 k1
        rw [if_neg n1, if_neg n2, if_neg h3'] at q1
        have hs1 := k1.seqT trivial hs
        have at1 : ∀ k, k < ds.length → ∃ v, atI (V.str z :: vt) ((k + 1 : Nat) : Int) = some v ∧ Dp K H1 v (nth ds k) ∧ Part (nth ds k) := fun k hk => by
          obtain ⟨v, e, d, m⟩ := at_ k hk
          exact ⟨v, e, Dp.same k1 _ _ d, m⟩
        walk_at "S"
        refine s_bool (fun h4 => ?_) (fun h4 => ?_)
        · have h4' : isNameX (nth ds 0) = false := by simpa using h4
          walk_at "S"
          rw [if_pos h4'] at q1
          exact q1
        have h4' : ¬ isNameX (nth ds 0) = false := by simpa using h4
        rw [if_neg h4'] at q1
        walk_at "S"
        refine s_dec (fun h5 => ?_) (fun h5 => ?_)
        · have e1 := V.str.inj h5
          subst e1
          rw [if_pos rfl] at q1
          walk_at "S"
          refine s_dec (fun h2 => ?_) (fun h2 => ?_)
          · have h2' : ds.length = 2 := by have := V.int.inj h2; rw [List.length_cons, el] at this; omega
            obtain ⟨v, e, d, pt⟩ := at1 1 (by omega)
            walk_at "S"
            refine s_ixT hs1 e ?_
            walk_at "S"
            rw [decide_eq_true h2', Bool.true_and] at q1
            exact ⟨v, _, rfl, d, pt, q1⟩
          · have h2' : ¬ ds.length = 2 := fun z => h2 (by rw [List.length_cons, el, z]; rfl)
            rw [decide_eq_false h2', Bool.false_and] at q1
            exact q1
        have n5 : z ≠ "set" := fun e => h5 (by rw [e])
        rw [if_neg n5] at q1
        walk_at "S"
        refine s_dec (fun h6 => ?_) (fun h6 => ?_)
        · have e1 := V.str.inj h6
          subst e1
          rw [if_pos rfl] at q1
          walk_at "S"
          refine s_dec (fun h2 => ?_) (fun h2 => ?_)
          · have h2' : ds.length = 3 := by have := V.int.inj h2; rw [List.length_cons, el] at this; omega
            obtain ⟨v, e, d, pt⟩ := at1 1 (by omega)
            obtain ⟨v', e', d', pt'⟩ := at1 2 (by omega)
            walk_at "S"
            refine s_ixT hs1 e ?_
            walk_at "S"
            refine path_arg d pt fun H2 k2 => ?_
            have q2 := q H2 (k1.tr k2)
            rw [if_neg n1, if_neg n2, if_neg h3', if_neg h4', if_neg n5, if_pos rfl, decide_eq_true h2', Bool.true_and] at q2
            walk_at "S"
            refine s_bool (fun h7 => ?_) (fun h7 => ?_)
            · walk_at "S"
              refine s_ixT (k2.seqT trivial hs1) e' ?_
              walk_at "S"
              refine name_arg (Dp.same k2 _ _ d') pt' fun H3 k3 => ?_
              have q3 := q H3 ((k1.tr k2).tr k3)
              rw [if_neg n1, if_neg n2, if_neg h3', if_neg h4', if_neg n5, if_pos rfl, decide_eq_true h2', Bool.true_and, h7, Bool.true_and] at q3
              exact q3
            · rw [h7, Bool.false_and] at q2
              exact q2
          · have h2' : ¬ ds.length = 3 := fun z => h2 (by rw [List.length_cons, el, z]; rfl)
            rw [decide_eq_false h2', Bool.false_and] at q1
            exact q1
        have n6 : z ≠ "draw" := fun e => h6 (by rw [e])
        rw [if_neg n6] at q1
        walk_at "S"
        refine ⟨_, leadW.map V.str, rfl, .inr (sq_LEADING H1), rfl, flatV_strs _, ?_⟩
        rw [inV_strs]
        walk_at "S"
        refine s_dec (fun h7 => ?_) (fun h7 => ?_)
        · rw [decide_eq_true h7, Bool.true_and] at q1
          walk_at "S"
          refine s_dec (fun h2 => ?_) (fun h2 => ?_)
          · have h2' : ds.length = 2 := by have := V.int.inj h2; rw [List.length_cons, el] at this; omega
            obtain ⟨v, e, d, pt⟩ := at1 1 (by omega)
            walk_at "S"
            refine s_ixT hs1 e ?_
            walk_at "S"
            refine path_arg d pt fun H2 k2 => ?_
            have q2 := q H2 (k1.tr k2)
            rw [if_neg n1, if_neg n2, if_neg h3', if_neg h4', if_neg n5, if_neg n6, decide_eq_true h7, Bool.true_and, decide_eq_true h2', Bool.true_and] at q2
            exact q2
          · have h2' : ¬ ds.length = 2 := fun z => h2 (by rw [List.length_cons, el, z]; rfl)
            rw [decide_eq_false h2', Bool.false_and] at q1
            exact q1
        · rw [decide_eq_false h7, Bool.false_and] at q1
          exact q1
end

def spRowIn (K : PySem.W.Frag) (d : Nat) : Sp := fun vs H Q _ => ∃ (v : V) (x : PyData), vs = [v, .int d] ∧ Dp K H v x ∧ RowG x ∧ ∀ H', Kp [] H H' → Q (.bl (isRowX d x)) H'
def spAreRows (K : PySem.W.Frag) (d : Nat) : Sp := fun vs H Q _ =>
  (∃ (v : V) (xs : List PyData), vs = [v, .int d] ∧ Dp K H v (.tuple xs) ∧ (∀ x ∈ xs, RowG x) ∧ xs.length ≤ 100000 ∧ ∀ H', Kp [] H H' → Q (.bl (xs.all (isRowX d))) H') ∨
  (∃ (x : V) (t : String), vs = [x, .int d] ∧ TyX K H x (.type t) ∧ kitB t "tuple" = some false ∧ Q (.bl false) H)
def spAreRowsP (K : PySem.W.Frag) : Nat → Sp
  | 0 => fun _ _ _ _ => False
  | d + 1 => spAreRows K d
theorem part_words {d : PyData} (h : Part d) : areWordsX d = false := by cases h <;> rfl
theorem words_part {K : PySem.W.Frag} {H : Hp} {v : V} {d : PyData} {Q : VK} {E : XK} (h : Dp K H v d) (p : Part d) (q : Q (.bl false) H) : spAreWords K [v] H Q E := by
  cases p with
  | non => cases h; exact .inr ⟨_, "NoneType", rfl, .base .non, by decide +kernel, q⟩
  | int n => cases h; exact .inr ⟨_, "int", rfl, .base (.int _), by decide +kernel, q⟩
  | str l => cases h; exact .inr ⟨_, "str", rfl, .base (.str _), by decide +kernel, q⟩
theorem isRowX_bare {d : Nat} {z : Str} {ds : List PyData} (h : z ≠ "try") : isRowX d (.tuple (.str z :: ds)) = isBareX z ds := by
  cases d with
  | zero => exact if_neg h
  | succ d => exact if_neg h
theorem isRowX_zero (ds : List PyData) : isRowX 0 (.tuple (.str "try" :: ds)) = false := if_pos rfl
theorem isRowX_try (d : Nat) (ds : List PyData) : isRowX (d + 1) (.tuple (.str "try" :: ds)) = (decide (ds.length = 3) && (areWordsX (nth ds 1) &&
      ((partT 1 (.tuple (.str "try" :: ds))).all (isRowX d) && (partT 3 (.tuple (.str "try" :: ds))).all (isRowX d)))) := if_pos rfl
section
variable {P : Program} {w : World} {K : PySem.W.Frag} {mg : Str → Option Value} {base : Heap} {C_Module C_Runs : Addr}
theorem ok_row_in {d : Nat} {f : Addr} {fd : FuncData} (F : Fun K "is_row_within" "is_row_within" s_is_row_within f fd) (T : Txt K mg C_Module C_Runs)
    (D_is_bare : DnF P w K mg base 3 "is_bare" ["row"] (spIsBare K)) (D_are_words : DnF P w K mg base 3 "are_words" ["thing"] (spAreWords K))
    (D_are_rows : DnF P w K mg base (3 + 2 * d) "are_rows" ["thing", "tries"] (spAreRowsP K d)) :
    FnOk P w K mg base CX0 (3 + 2 * d + 1) f fd ["thing", "tries"] (spRowIn K d) := by
  refine F.ok sc_is_row_within (fun vs H Q E h => ?_) (fun cdv A outer s H vs Q E hr h => ?_)
  · obtain ⟨v, x, rfl, _⟩ := h
    rfl
  · obtain ⟨f_is_bare, fd_is_bare, G_is_bare, m_is_bare, k_is_bare, b_is_bare⟩ := D_is_bare; obtain ⟨f_are_words, fd_are_words, G_are_words, m_are_words, k_are_words, b_are_words⟩ := D_are_words; obtain ⟨f_are_rows, fd_are_rows, G_are_rows, m_are_rows, k_are_rows, b_are_rows⟩ := D_are_rows
    obtain ⟨v, x, rfl, hd, hg, q⟩ := h
    have q0 := q H Kp.refl
    refine ⟨_, (pss_cons (ps_if (PW.pt (pw_or (pt_not (pt_val (pe_callB (isiK (K := K) rfl) (by rfl) T.n_isinstance (by decide +kernel) (pa_cons (pv 0) (pa_cons (pe_bltn (v := .ty "tuple") (by rfl) T.n_tuple (by decide +kernel) rfl) pa_nil))))) (pw_or1 (pt_cmpR op_eq (pe_callB (lenK (K := K) rfl) (by rfl) T.n_len (by decide +kernel) (pa_cons (pv 0) pa_nil)) pe_int (nomark _))))) (pss_one (ps_ret pe_bl)) pss_nil)
      (pss_cons (ps_if (pt_cmpR op_ne (pe_ix (ixTK (K := K) rfl) (pv 0) pe_int (fun _ _ => rfl)) pe_str (nomark _)) (pss_one (ps_ret (pe_call G_is_bare (hr.mono (by first | decide | omega)) (by rfl) m_is_bare k_is_bare b_is_bare .nil pass0 (pa_cons (pv 0) pa_nil)))) pss_nil)
      (pss_cons (ps_if (PW.pt (pw_or (pt_cmpR op_eq (pv 1) pe_int (nomark _)) (pw_or (pt_cmpR op_ne (pe_callB (lenK (K := K) rfl) (by rfl) T.n_len (by decide +kernel) (pa_cons (pv 0) pa_nil)) pe_int (nomark _)) (pw_or1 (pt_not (pt_val (pe_call G_are_words (hr.mono (by first | decide | omega)) (by rfl) m_are_words k_are_words b_are_words .nil pass0 (pa_cons (pe_ix (ixTK (K := K) rfl) (pv 0) pe_int (fun _ _ => rfl)) pa_nil)))))))) (pss_one (ps_ret pe_bl)) pss_nil)
      (pss_one (ps_ret (pe_and (pe_call G_are_rows (hr.mono (by first | decide | omega)) (by rfl) m_are_rows k_are_rows b_are_rows .nil pass0 (pa_cons (pe_ix (ixTK (K := K) rfl) (pv 0) pe_int (fun _ _ => rfl)) (pa_cons (pe_op op_sub (pv 1) pe_int) pa_nil))) (pe_one (pe_call G_are_rows (hr.mono (by first | decide | omega)) (by rfl) m_are_rows k_are_rows b_are_rows .nil pass0 (pa_cons (pe_ix (ixTK (K := K) rfl) (pv 0) pe_int (fun _ _ => rfl)) (pa_cons (pe_op op_sub (pv 1) pe_int) pa_nil)))))))))), ?_⟩
    refine st_start (σ' := [some v, some (.int d)]) rfl ?_
    cases hg with
    | @bare z ds hz hp hl =>
      have hd' := hd
      have ty : TyX K H v (.type "tuple") := Dp.ty hd
      cases hd with
      | tup hs ha =>
        rename_i a vs
        cases ha with
        | cons h0 ht =>
          rename_i v0 vt
          cases h0
          have el : vt.length = ds.length := DpAll.len ht
          have e0 : atI (V.str z :: vt) ((0 : Nat) : Int) = some (.str z) := atI_nat rfl
          walk_at "S"
          refine isi_ty ty (b := true) (by decide +kernel) ?_
          walk_at "S"
          refine s_dec (fun h => absurd (V.int.inj h) (by rw [List.length_cons]; omega)) (fun _ => ?_)
          walk_at "S"
          refine s_ixT hs e0 ?_
          walk_at "S"
          refine s_ndec (fun h1 => ?_) (fun h1 => ?_)
          · walk_at "S"
            refine ⟨_, z, ds, rfl, hd', hp, hl, fun H1 k1 => ?_⟩
            have q1 := q H1 k1
            rw [isRowX_bare fun e => h1 (by rw [e])] at q1
            exact q1
          · have e1 := V.str.inj h1
            subst e1
            walk_at "S"
            refine s_dec (fun h2 => ?_) (fun h2 => ?_)
            · have e2 : d = 0 := by have := V.int.inj h2; omega
              subst e2
              rw [isRowX_zero] at q0
              walk_at "S"
              exact q0
            · obtain ⟨e, rfl⟩ : ∃ e, d = e + 1 := ⟨d - 1, by
                have : d ≠ 0 := fun z => h2 (by rw [z]; rfl)
                omega⟩
              rw [isRowX_try] at q0
              walk_at "S"
              refine s_ndec (fun h3 => ?_) (fun h3 => ?_)
              · have h3' : ¬ ds.length = 3 := fun z => h3 (by rw [List.length_cons, el, z]; rfl)
                rw [decide_eq_false h3', Bool.false_and] at q0
                walk_at "S"
                exact q0
              · have h3' : ds.length = 3 := by have := V.int.inj h3; rw [List.length_cons, el] at this; omega
                obtain ⟨u, eu, du, mu⟩ := dpAll_nth ht 1 (by omega)
                walk_at "S"
                refine s_ixT hs (k := ((2 : Nat) : Int)) (atI_nat eu) ?_
                walk_at "S"
                rw [part_words (hp _ mu), Bool.false_and, Bool.and_false] at q0
                refine words_part du (hp _ mu) ?_
                walk_at "S"
                exact q0
    | @tryr a b ws ga la gw lw gb lb =>
      have ty : TyX K H v (.type "tuple") := Dp.ty hd
      cases hd with
      | tup hs ha =>
        rename_i ad vs
        obtain _ | ⟨h0, _ | ⟨d1, _ | ⟨d2, _ | ⟨d3, h4⟩⟩⟩⟩ := ha
        cases h4
        cases h0
        rename_i v1 v2 v3
        walk_at "S"
        refine isi_ty ty (b := true) (by decide +kernel) ?_
        walk_at "S"
        refine s_dec (fun h => absurd (V.int.inj h) (by simp)) (fun _ => ?_)
        walk_at "S"
        refine s_ndec (fun h1 => absurd rfl h1) (fun _ => ?_)
        walk_at "S"
        refine s_dec (fun h2 => ?_) (fun h2 => ?_)
        · have e2 : d = 0 := by have := V.int.inj h2; omega
          subst e2
          rw [isRowX_zero] at q0
          walk_at "S"
          exact q0
        · obtain ⟨e, rfl⟩ : ∃ e, d = e + 1 := ⟨d - 1, by
            have : d ≠ 0 := fun z => h2 (by rw [z]; rfl)
            omega⟩
          have eq1 : isRowX (e + 1) (.tuple [.str "try", .tuple a, .tuple (ws.map .str), .tuple b]) = (areWordsX (.tuple (ws.map .str)) && (a.all (isRowX e) && b.all (isRowX e))) := by
            rw [isRowX_try]
            exact Bool.true_and _
          have em : (((e + 1 : Nat) : Int)) - 1 = (e : Int) := by omega
          walk_at "S"
          refine s_ndec (fun h => absurd rfl h) (fun _ => ?_)
          walk_at "S"
          refine .inl ⟨v2, ws, rfl, d2, gw, lw, fun H1 k1 => ?_⟩
          have q1 := q H1 k1
          rw [eq1] at q1
          walk_at "S"
          refine s_bool (fun h3 => ?_) (fun h3 => ?_)
          · have h3' : areWordsX (.tuple (ws.map .str)) = false := by simpa using h3
            rw [h3', Bool.false_and] at q1
            walk_at "S"
            exact q1
          · have h3' : areWordsX (.tuple (ws.map .str)) = true := by simpa using h3
            have hs1 := k1.seqT trivial hs
            walk_at "S"
            rw [em]
            refine .inl ⟨v1, a, rfl, Dp.same k1 _ _ d1, ga, la, fun H2 k2 => ?_⟩
            have q2 := q H2 (k1.tr k2)
            rw [eq1, h3', Bool.true_and] at q2
            walk_at "S"
            refine s_bool (fun h4 => ?_) (fun h4 => ?_)
            · have hs2 := k2.seqT trivial hs1
              walk_at "S"
              rw [em]
              refine .inl ⟨v3, b, rfl, Dp.same k2 _ _ (Dp.same k1 _ _ d3), gb, lb, fun H3 k3 => ?_⟩
              have q3 := q H3 ((k1.tr k2).tr k3)
              rw [eq1, h3', Bool.true_and, h4, Bool.true_and] at q3
              exact q3
            · rw [h4, Bool.false_and] at q2
              exact q2
end

section
variable {P : Program} {w : World} {K : PySem.W.Frag} {mg : Str → Option Value} {base : Heap} {C_Module C_Runs : Addr}
theorem ok_are_rows {d : Nat} {f : Addr} {fd : FuncData} (F : Fun K "are_rows" "are_rows" s_are_rows f fd) (T : Txt K mg C_Module C_Runs)
    (D_is_row_within : DnF P w K mg base (3 + 2 * d + 1) "is_row_within" ["thing", "tries"] (spRowIn K d)) :
    FnOk P w K mg base CX0 (3 + 2 * d + 1 + 1) f fd ["thing", "tries"] (spAreRows K d) := by
  refine F.ok sc_are_rows (fun vs H Q E h => ?_) (fun cdv A outer s H vs Q E hr h => ?_)
  · rcases h with ⟨v, xs, rfl, _⟩ | ⟨x, t, rfl, _⟩ <;> rfl
  · obtain ⟨f_is_row_within, fd_is_row_within, G_is_row_within, m_is_row_within, k_is_row_within, b_is_row_within⟩ := D_is_row_within
    rcases h with ⟨v, xs, rfl, hd, hg, hl, q⟩ | ⟨x, t, rfl, ht, hk, q⟩
    · have ty : TyX K H v (.type "tuple") := Dp.ty hd
      cases hd with
      | tup hs ha =>
        rename_i a vs
        have el : vs.length = xs.length := DpAll.len ha
        refine ⟨_, (pss_one (ps_ret (pe_and (pe_callB (isiK (K := K) rfl) (by rfl) T.n_isinstance (by decide +kernel) (pa_cons (pv 0) (pa_cons (pe_bltn (v := .ty "tuple") (by rfl) T.n_tuple (by decide +kernel) rfl) pa_nil))) (pe_one (pe_callB (allK (K := K) rfl rfl) (by rfl) T.n_all (by decide +kernel) (pa_cons (pe_lc (own := [("row", 2)]) (g := gName 2) (tt := tYes) rfl sc_are_rows.nd (kiT (K := K) rfl (pi_tup (pv 0))) (blkOk_by (own := [("row", 2)]) (N := N_are_rows) (sc := (defScope s_are_rows)) (by decide +kernel)) (fun _ _ _ _ _ => (pg_name (i := 2) sc_are_rows.nd rfl (Or.inl rfl))) (fun _ _ _ _ _ => pts_nil) (fun _ _ _ _ _ => (pe_call G_is_row_within (hr.mono (by first | decide | omega)) (by rfl) m_is_row_within k_is_row_within b_is_row_within .nil pass0 (pa_cons (pv 2) (pa_cons (pv 1) pa_nil))))) pa_nil)))))), ?_⟩
        refine st_start (σ' := [some (.ref a), some (.int d), none]) rfl ?_
        walk_at "S"
        refine isi_ty ty (b := true) (by decide +kernel) ?_
        walk_at "S"
        refine ⟨⟨_, hs⟩, fun D hD => ?_⟩
        have L : LcOk D vs.length (fun i => ((xs.map (isRowX d)).map V.bl).take i) [] H (fun _ _ => True) :=
          .ofTake (small_le (by omega)) hD trivial (fun _ _ _ h => h)
        refine lc_go (walk_tup (K := K) (a := a) (xs := vs)) L trivial (fun H2 k2 => k2.seqT trivial hs) (fun i x H2 H' hi I y => ?_) fun H2 I => ?_
        · obtain ⟨rfl, hx⟩ := y
          obtain ⟨u, eu, du, mu⟩ := dpAll_nth ha i (by omega)
          rw [eu] at hx
          cases hx
          have k2 := I.2.1
          walk_at "S"
          refine ⟨rfl, ?_⟩
          walk_at "S"
          refine ⟨x, nth xs i, rfl, Dp.same k2 _ _ du, hg _ mu, fun H3 K3 => ?_⟩
          refine I.put L hi (take_put ?_) K3 trivial
          rw [List.getElem?_map, List.getElem?_map, List.getElem?_eq_getElem (by omega)]
          show some (V.bl (isRowX d xs[i])) = _
          unfold nth
          rw [List.getD_eq_getElem?_getD, List.getElem?_eq_getElem (by omega)]
          rfl
        · obtain ⟨p1, p2, _⟩ := I
          dsimp only at p1
          rw [List.take_of_length_le (by simp; omega)] at p1
          walk_at "S"
          refine s_all (bs := xs.map (isRowX d)) (sq_l p1) ?_
          rw [List.all_map]
          exact q H2 p2
    · refine ⟨_, (pss_one (ps_ret (pe_and (pe_callB (isiK (K := K) rfl) (by rfl) T.n_isinstance (by decide +kernel) (pa_cons (pv 0) (pa_cons (pe_bltn (v := .ty "tuple") (by rfl) T.n_tuple (by decide +kernel) rfl) pa_nil))) (pe_one (pe_callB (allK (K := K) rfl rfl) (by rfl) T.n_all (by decide +kernel) (pa_cons (pe_lc (own := [("row", 2)]) (g := gName 2) (tt := tYes) rfl sc_are_rows.nd (kiT (K := K) rfl (pi_tup (pv 0))) (blkOk_by (own := [("row", 2)]) (N := N_are_rows) (sc := (defScope s_are_rows)) (by decide +kernel)) (fun _ _ _ _ _ => (pg_name (i := 2) sc_are_rows.nd rfl (Or.inl rfl))) (fun _ _ _ _ _ => pts_nil) (fun _ _ _ _ _ => (pe_call G_is_row_within (hr.mono (by first | decide | omega)) (by rfl) m_is_row_within k_is_row_within b_is_row_within .nil pass0 (pa_cons (pv 2) (pa_cons (pv 1) pa_nil))))) pa_nil)))))), ?_⟩
      refine st_start (σ' := [some x, some (.int d), none]) rfl ?_
      walk_at "S"
      refine isi_ty ht hk ?_
      walk_at "S"
      exact q
/-- are_rows, whatever the tries -/
theorem are_rows_all {f_are_rows f_is_row_within : Addr} {fd_are_rows fd_is_row_within : FuncData} (F1 : Fun K "are_rows" "are_rows" s_are_rows f_are_rows fd_are_rows) (F2 : Fun K "is_row_within" "is_row_within" s_is_row_within f_is_row_within fd_is_row_within) (T : Txt K mg C_Module C_Runs)
    (D_is_bare : DnF P w K mg base 3 "is_bare" ["row"] (spIsBare K)) (D_are_words : DnF P w K mg base 3 "are_words" ["thing"] (spAreWords K))
    (m1 : mg "are_rows" = some (.ref f_are_rows)) (k1 : PySem.W.keepIn K (.ref f_are_rows) = true) (b1 : Binds K fd_are_rows ["thing", "tries"] [])
    (m2 : mg "is_row_within" = some (.ref f_is_row_within)) (k2 : PySem.W.keepIn K (.ref f_is_row_within) = true) (b2 : Binds K fd_is_row_within ["thing", "tries"] []) :
    ∀ d : Nat, FnOk P w K mg base CX0 (3 + 2 * d + 1 + 1) f_are_rows fd_are_rows ["thing", "tries"] (spAreRows K d)
  | 0 => ok_are_rows (d := 0) F1 T ⟨_, _, ok_row_in (d := 0) F2 T D_is_bare D_are_words ⟨_, _, ⟨fun _ _ _ _ z => z.elim, fun _ _ _ _ _ _ _ _ _ _ _ _ _ z => z.elim⟩, m1, k1, b1⟩, m2, k2, b2⟩
  | d + 1 => ok_are_rows (d := d + 1) F1 T ⟨_, _, ok_row_in F2 T D_is_bare D_are_words ⟨_, _, are_rows_all F1 F2 T D_is_bare D_are_words m1 k1 b1 m2 k2 b2 d, m1, k1, b1⟩, m2, k2, b2⟩
end

def spCounted (K : PySem.W.Frag) (d : Nat) : Sp := fun vs H Q _ => ∃ (v : V) (xs : List PyData), vs = [v] ∧ Dp K H v (.tuple xs) ∧ (∀ x ∈ xs, RowG x) ∧ xs.all (isRowX d) = true ∧ Q (.int (cnts d xs : Nat)) H
def spCountedP (K : PySem.W.Frag) : Nat → Sp
  | 0 => fun _ _ _ _ => False
  | d + 1 => spCounted K d
/-- what a row is that is judged good -/
theorem row_good {d : Nat} {x : PyData} (g : RowG x) (h : isRowX d x = true) :
    (∃ z ds, x = .tuple (.str z :: ds) ∧ z ≠ "try" ∧ cntRow d x = 1) ∨
    (∃ (e : Nat) (a b : List PyData) (ws : List Str), d = e + 1 ∧ x = .tuple [.str "try", .tuple a, .tuple (ws.map .str), .tuple b] ∧ (∀ y ∈ a, RowG y) ∧ (∀ y ∈ b, RowG y) ∧ a.all (isRowX e) = true ∧ b.all (isRowX e) = true) := by
  cases g with
  | @bare z ds hz hp hl =>
    by_cases c : z = "try"
    · subst c
      cases d with
      | zero => rw [isRowX_zero] at h; cases h
      | succ d =>
        rw [isRowX_try] at h
        simp only [Bool.and_eq_true, decide_eq_true_eq] at h
        obtain ⟨h1, h2, _⟩ := h
        have m : nth ds 1 ∈ ds := by
          unfold nth
          rw [List.getD_eq_getElem?_getD, List.getElem?_eq_getElem (by omega)]
          exact List.getElem_mem _
        rw [part_words (hp _ m)] at h2
        cases h2
    · refine .inl ⟨z, ds, rfl, c, ?_⟩
      cases d with
      | zero => rfl
      | succ d => unfold cntRow; rw [isTry_w _ c]; rfl
  | @tryr a b ws ga la gw lw gb lb =>
    cases d with
    | zero => rw [isRowX_zero] at h; cases h
    | succ d =>
      rw [isRowX_try] at h
      simp only [Bool.and_eq_true] at h
      exact .inr ⟨d, a, b, ws, rfl, rfl, ga, gb, h.2.2.1, h.2.2.2⟩
section
variable {P : Program} {w : World} {K : PySem.W.Frag} {mg : Str → Option Value} {base : Heap} {C_Module C_Runs : Addr}
theorem ok_counted {d : Nat} {f : Addr} {fd : FuncData} (F : Fun K "counted" "counted" s_counted f fd)
    (D_counted : DnF P w K mg base d "counted" ["body"] (spCountedP K d)) :
    FnOk P w K mg base CX0 (d + 1) f fd ["body"] (spCounted K d) := by
  refine F.ok sc_counted (fun vs H Q E h => ?_) (fun cdv A outer s H vs Q E hr h => ?_)
  · obtain ⟨v, xs, rfl, _⟩ := h
    rfl
  · obtain ⟨f_counted, fd_counted, G_counted, m_counted, k_counted, b_counted⟩ := D_counted
    obtain ⟨v, xs, rfl, hd, hg, hb, q⟩ := h
    cases hd with
    | tup hs ha =>
      rename_i a vs
      have el : vs.length = xs.length := DpAll.len ha
      refine ⟨_, (pss_cons (ps_set (i := 1) sc_counted.nd rfl (Or.inl rfl) pe_int)
      (pss_cons (ps_for PassesOwn.never rfl (kiT (K := K) rfl (pi_tup (pv 0))) (pg_name (i := 2) sc_counted.nd rfl (Or.inl rfl)) (pss_cons (ps_set (i := 1) sc_counted.nd rfl (Or.inl rfl) (pe_op op_add (pv 1) pe_int))
      (pss_one (ps_if (pt_cmpR op_eq (pe_ix (ixTK (K := K) rfl) (pv 2) pe_int (fun _ _ => rfl)) pe_str (nomark _)) (pss_one (ps_set (i := 1) sc_counted.nd rfl (Or.inl rfl) (pe_op op_add (pe_op op_add (pv 1) (pe_call G_counted (hr.mono (by first | decide | omega)) (by rfl) m_counted k_counted b_counted .nil pass0 (pa_cons (pe_ix (ixTK (K := K) rfl) (pv 2) pe_int (fun _ _ => rfl)) pa_nil))) (pe_call G_counted (hr.mono (by first | decide | omega)) (by rfl) m_counted k_counted b_counted .nil pass0 (pa_cons (pe_ix (ixTK (K := K) rfl) (pv 2) pe_int (fun _ _ => rfl)) pa_nil))))) pss_nil))))
      (pss_one (ps_ret (pv 1))))), ?_⟩
      refine st_start (σ' := [some (.ref a), none, none]) rfl ?_
      walk_at "S"
      refine ⟨⟨_, hs⟩, ?_⟩
      refine for_go (walk_tup (K := K) (a := a) (xs := vs)) (fun i σ H2 => ∃ o : Option V, σ = [some (.ref a), some (.int (cnts d (xs.take i) : Nat)), o] ∧ H2 = H) ⟨_, rfl, rfl⟩ (fun i σ H2 hi I => by obtain ⟨o, _, rfl⟩ := I; exact hs) (fun i x σ Ha Hb hi I y => ?_) fun σ H2 I => ?_
      · obtain ⟨rfl, hx⟩ := y
        obtain ⟨o, rfl, rfl⟩ := I
        have hi2 : i < xs.length := by omega
        obtain ⟨u, eu, du, mu⟩ := dpAll_nth ha i hi2
        rw [eu] at hx
        cases hx
        have en : xs[i]? = some (nth xs i) := by
          unfold nth
          rw [List.getD_eq_getElem?_getD, List.getElem?_eq_getElem hi2]
          rfl
        have ec : cnts d (xs.take (i + 1)) = cnts d (xs.take i) + cntRow d (nth xs i) := by rw [take_put en, cnts_app, cnts_one]
        have good := row_good (hg _ mu) (List.all_eq_true.mp hb _ mu)
        generalize nth xs i = rw_ at *
        walk_at "S"
        rcases good with ⟨z, ds, rfl, hz, c1⟩ | ⟨e, ra, rb, ws, rfl, rfl, ga, gb, g1, g2⟩
        · cases du with
          | tup hs2 ha2 =>
            cases ha2 with
            | cons h0 ht =>
              cases h0
              refine s_ixT hs2 (k := ((0 : Nat) : Int)) (atI_nat rfl) ?_
              walk_at "S"
              refine s_dec (fun h => absurd (V.str.inj h) hz) (fun _ => ?_)
              walk_at "S"
              have e : (V.int (((cnts d (xs.take i) : Nat) : Int) + 1)) = V.int ((cnts d (xs.take (i + 1)) : Nat) : Int) := by rw [ec, c1]; rfl
              rw [e]
              exact ⟨_, rfl, rfl⟩
        · cases du with
          | tup hs2 ha2 =>
            obtain _ | ⟨h0, _ | ⟨d1, _ | ⟨d2, _ | ⟨d3, h4⟩⟩⟩⟩ := ha2
            cases h4
            cases h0
            walk_at "S"
            refine s_dec (fun _ => ?_) (fun h => absurd rfl h)
            walk_at "S"
            refine ⟨_, ra, rfl, d1, ga, g1, ?_⟩
            walk_at "S"
            refine ⟨_, rb, rfl, d3, gb, g2, ?_⟩
            walk_at "S"
            have en2 : (V.int (((cnts (e + 1) (xs.take i) : Nat) : Int) + 1 + ((cnts e ra : Nat) : Int) + ((cnts e rb : Nat) : Int))) = V.int ((cnts (e + 1) (xs.take (i + 1)) : Nat) : Int) := by
              rw [ec, cntRow_try]
              congr 1
              omega
            rw [en2]
            exact ⟨_, rfl, rfl⟩
      · obtain ⟨o, rfl, rfl⟩ := I
        rw [List.take_of_length_le (by omega)]
        walk_at "S"
        exact q
theorem counted_all {f_counted : Addr} {fd_counted : FuncData} (F : Fun K "counted" "counted" s_counted f_counted fd_counted)
    (m1 : mg "counted" = some (.ref f_counted)) (k1 : PySem.W.keepIn K (.ref f_counted) = true) (b1 : Binds K fd_counted ["body"] []) :
    ∀ d : Nat, FnOk P w K mg base CX0 (d + 1) f_counted fd_counted ["body"] (spCounted K d)
  | 0 => ok_counted (d := 0) F ⟨_, _, ⟨fun _ _ _ _ z => z.elim, fun _ _ _ _ _ _ _ _ _ _ _ _ _ z => z.elim⟩, m1, k1, b1⟩
  | d + 1 => ok_counted (d := d + 1) F ⟨_, _, counted_all F m1 k1 b1 d, m1, k1, b1⟩
def spIsBody (K : PySem.W.Frag) : Sp := fun vs H Q _ =>
  (∃ (v : V) (xs : List PyData), vs = [v] ∧ Dp K H v (.tuple xs) ∧ (∀ x ∈ xs, RowG x) ∧ xs.length ≤ 100000 ∧ ∀ H', Kp [] H H' → Q (.bl (xs.all (isRowX 3) && decide (cnts 3 xs ≤ 40))) H') ∨
  (∃ (x : V) (t : String), vs = [x] ∧ TyX K H x (.type t) ∧ kitB t "tuple" = some false ∧ ∀ H', Kp [] H H' → Q (.bl false) H')
theorem ok_is_body {f : Addr} {fd : FuncData} (F : Fun K "is_body" "is_body" s_is_body f fd) (T : Txt K mg C_Module C_Runs)
    (D_are_rows : DnF P w K mg base 11 "are_rows" ["thing", "tries"] (spAreRows K 3)) (D_counted : DnF P w K mg base 4 "counted" ["body"] (spCounted K 3)) :
    FnOk P w K mg base CX0 12 f fd ["thing"] (spIsBody K) := by
  refine F.ok sc_is_body (fun vs H Q E h => ?_) (fun cdv A outer s H vs Q E hr h => ?_)
  · rcases h with ⟨v, xs, rfl, _⟩ | ⟨x, t, rfl, _⟩ <;> rfl
  · obtain ⟨f_counted, fd_counted, G_counted, m_counted, k_counted, b_counted⟩ := D_counted; obtain ⟨f_are_rows, fd_are_rows, G_are_rows, m_are_rows, k_are_rows, b_are_rows⟩ := D_are_rows; obtain ⟨t_MOST_ROWS, hc_MOST_ROWS⟩ := T.c_MOST_ROWS; obtain ⟨t_MOST_TRIES, hc_MOST_TRIES⟩ := T.c_MOST_TRIES
    rcases h with ⟨v, xs, rfl, hd, hg, hl, q⟩ | ⟨x, t, rfl, ht, hk, q⟩
    · refine ⟨_, (pss_one (ps_ret (pe_and (pe_call G_are_rows (hr.mono (by first | decide | omega)) (by rfl) m_are_rows k_are_rows b_are_rows .nil pass0 (pa_cons (pv 0) (pa_cons (pe_glob (v := .int 3) rfl hc_MOST_TRIES ⟨_, rfl⟩) pa_nil))) (pe_one (pe_cmpR op_le (pe_call G_counted (hr.mono (by first | decide | omega)) (by rfl) m_counted k_counted b_counted .nil pass0 (pa_cons (pv 0) pa_nil)) (pe_glob (v := .int 40) rfl hc_MOST_ROWS ⟨_, rfl⟩) (nomark _)))))), ?_⟩
      refine st_start (σ' := [some v]) rfl ?_
      walk_at "S"
      refine .inl ⟨v, xs, rfl, hd, hg, hl, fun H1 k1 => ?_⟩
      have q1 := q H1 k1
      walk_at "S"
      refine s_bool (fun h => ?_) (fun h => ?_)
      · rw [h, Bool.true_and] at q1
        walk_at "S"
        refine ⟨v, xs, rfl, Dp.same k1 _ _ hd, hg, h, ?_⟩
        walk_at "S"
        rw [show decide (((cnts 3 xs : Nat) : Int) ≤ 40) = decide (cnts 3 xs ≤ 40) from decide_eq_decide.mpr (by omega)]
        exact q1
      · rw [h, Bool.false_and] at q1
        exact q1
    · refine ⟨_, (pss_one (ps_ret (pe_and (pe_call G_are_rows (hr.mono (by first | decide | omega)) (by rfl) m_are_rows k_are_rows b_are_rows .nil pass0 (pa_cons (pv 0) (pa_cons (pe_glob (v := .int 3) rfl hc_MOST_TRIES ⟨_, rfl⟩) pa_nil))) (pe_one (pe_cmpR op_le (pe_call G_counted (hr.mono (by first | decide | omega)) (by rfl) m_counted k_counted b_counted .nil pass0 (pa_cons (pv 0) pa_nil)) (pe_glob (v := .int 40) rfl hc_MOST_ROWS ⟨_, rfl⟩) (nomark _)))))), ?_⟩
      refine st_start (σ' := [some x]) rfl ?_
      walk_at "S"
      refine .inr ⟨x, t, rfl, ht, hk, ?_⟩
      walk_at "S"
      exact q _ Kp.refl
end

/-! plain: what is done as a path is taken -/
noncomputable def srt (ks : List Str) : List Str := open Classical in if h : ∃ ys : List Str, ys.Perm ks ∧ sortedS ys = true then h.choose else ks
theorem srt_eq {ys ks : List Str} (p : ys.Perm ks) (s : sortedS ys = true) : ys = srt ks := by
  have h : ∃ ys : List Str, ys.Perm ks ∧ sortedS ys = true := ⟨ys, p, s⟩
  unfold srt
  rw [dif_pos h]
  exact sorted_eq p s h.choose_spec.1 h.choose_spec.2
structure Ab where
  qs : List Str
  nm : List (List Str)
  log : List PyData
  pap : List PyData
  line : List (Nat × Nat)
def putN (xs : List Str) (z : Str) : List Str := if z ∈ xs then xs else xs ++ [z]
def Ab.bind (a : Ab) (k : Nat) (z : Str) : Ab := { a with nm := a.nm.set k (putN (a.nm.getD k []) z) }
def setR (l : List (Nat × Nat)) (r : Nat) : List (Nat × Nat) := l.dropLast ++ (l.getLast?.map fun x => (x.1, r)).toList
def Ab.row (a : Ab) (r : Nat) : Ab := { a with line := setR a.line r }
abbrev numD (k : Nat) : PyData := .int ((k + 1 : Nat) : Int)
def Ab.ix (a : Ab) (p : Str) : Option Nat := a.qs.findIdx? fun q => decide (q = p)
noncomputable def Ab.names (a : Ab) (p : Str) : PyData := match a.ix p with
  | none => .none
  | some k => .tuple ((srt (a.nm.getD k [])).map .str)
def Ab.put (a : Ab) (e : PyData) : Ab := { a with log := a.log ++ [e] }
def papE (k : Nat) (l : List (Nat × Nat)) : PyData := match l.getLast? with
  | none => .tuple [numD k, .none, .none]
  | some x => .tuple [numD k, numD x.1, .int (x.2 : Nat)]
abbrev haveE (k : Nat) : PyData := .tuple [.str "have", numD k]
abbrev beginE (k : Nat) (p : Str) : PyData := .tuple [.str "begin", numD k, .str p]
abbrev endE (k : Nat) : PyData := .tuple [.str "end", numD k]
abbrev noteE (k : Nat) (d : PyData) : PyData := .tuple [.str "note", numD k, d]
def Ab.begin (a : Ab) (p : Str) : Ab := ⟨a.qs ++ [p], a.nm ++ [[]], a.log ++ [beginE a.qs.length p], a.pap ++ [papE a.qs.length a.line], a.line ++ [(a.qs.length, 0)]⟩
def Ab.fin (a : Ab) (k : Nat) : Ab := { a with line := a.line.dropLast, log := a.log ++ [endE k] }
noncomputable def rowF (tk : Ab → Str → Ab × Nat) (k : Nat) (x : PyData) (a : Ab) : Ab := match x with
  | .tuple [.str _, .str z, .int _] => a.bind k z
  | .tuple [.str _, .str z, .str p] => (tk a p).1.bind k z
  | .tuple [.str _, .str p] => a.put (noteE k (a.names p))
  | _ => a
noncomputable def rowsF (tk : Ab → Str → Ab × Nat) (k : Nat) : Nat → List PyData → Ab → Ab
  | _, [], a => a
  | i, x :: r, a => rowsF tk k (i + 1) r (rowF tk k x (a.row i))
noncomputable def takeF (body : Str → List PyData) : Nat → Ab → Str → Ab × Nat
  | 0, a, _ => (a, 0)
  | f + 1, a, p => match a.ix p with
    | some k => (a.put (haveE k), k)
    | none => ((rowsF (takeF body f) a.qs.length 0 (body p) (a.begin p)).fin a.qs.length, a.qs.length)
/-- how many paths are not begun yet -/
def rem (ps : List Str) (a : Ab) : Nat := (ps.filter fun p => !decide (p ∈ a.qs)).length
theorem rem_mono {ps : List Str} {a b : Ab} (h : ∀ q ∈ a.qs, q ∈ b.qs) : rem ps b ≤ rem ps a := by
  unfold rem
  rw [← List.countP_eq_length_filter, ← List.countP_eq_length_filter]
  refine List.countP_mono_left fun p _ hp => ?_
  simp only [Bool.not_eq_true', decide_eq_false_iff_not] at hp ⊢
  exact fun m => hp (h p m)
theorem rem_lt {ps : List Str} {a : Ab} {p : Str} (hp : p ∈ ps) (n : p ∉ a.qs) {b : Ab} (e : b.qs = a.qs ++ [p]) : rem ps b + 1 ≤ rem ps a := by
  unfold rem
  have h1 : (ps.filter fun x => !decide (x ∈ b.qs)) = (ps.filter fun x => !decide (x ∈ a.qs)).filter fun x => !decide (x = p) := by
    rw [List.filter_filter]
    refine List.filter_congr fun x _ => ?_
    rw [e]
    by_cases c1 : x ∈ a.qs <;> by_cases c2 : x = p <;> simp [c1, c2]
  rw [h1]
  have m : p ∈ ps.filter fun x => !decide (x ∈ a.qs) := List.mem_filter.mpr ⟨hp, by simpa using n⟩
  generalize (ps.filter fun x => !decide (x ∈ a.qs)) = l at m
  induction l with
  | nil => cases m
  | cons x r ih =>
    by_cases c : x = p
    · subst c
      rw [List.filter_cons_of_neg (by simp)]
      have := List.length_filter_le (fun y => !decide (y = x)) r
      rw [List.length_cons]
      omega
    · rw [List.filter_cons_of_pos (by simpa using c)]
      have := ih ((List.mem_cons.mp m).resolve_left fun e => c e.symm)
      rw [List.length_cons, List.length_cons]
      omega
theorem ix_some {a : Ab} {p : Str} {k : Nat} (h : a.ix p = some k) : a.qs[k]? = some p := by
  unfold Ab.ix at h
  rw [List.findIdx?_eq_some_iff_getElem] at h
  obtain ⟨hk, e, _⟩ := h
  rw [List.getElem?_eq_getElem hk, of_decide_eq_true e]
theorem ix_none {a : Ab} {p : Str} (h : a.ix p = none) : p ∉ a.qs := fun m => by
  unfold Ab.ix at h
  rw [List.findIdx?_eq_none_iff] at h
  have := h p m
  simp at this
theorem ix_of {a : Ab} {p : Str} {k : Nat} (nd : a.qs.Nodup) (h : a.qs[k]? = some p) : a.ix p = some k := by
  unfold Ab.ix
  obtain ⟨hk, e⟩ := List.getElem?_eq_some_iff.mp h
  rw [List.findIdx?_eq_some_iff_getElem]
  refine ⟨hk, by rw [e]; simp, fun j hj => ?_⟩
  simp only [decide_eq_true_eq]
  intro q
  exact List.pairwise_iff_getElem.mp nd j k (by omega) hk hj (q.trans e.symm)
/-- the log, and what may come to it yet -/
def Ab.lot (ps : List Str) (a : Ab) : Nat := a.log.length + 43 * rem ps a
theorem take_qs {body : Str → List PyData} : ∀ (f : Nat) (a : Ab) (p : Str), ∃ more, (takeF body f a p).1.qs = a.qs ++ more := by
  intro f
  induction f with
  | zero => exact fun a p => ⟨[], by simp [takeF]⟩
  | succ f ih =>
    intro a p
    simp only [takeF]
    cases h : a.ix p with
    | some k => exact ⟨[], by simp [Ab.put]⟩
    | none =>
      have rows : ∀ (k : Nat) (xs : List PyData) (i : Nat) (b : Ab), ∃ more, (rowsF (takeF body f) k i xs b).qs = b.qs ++ more := by
        intro k xs
        induction xs with
        | nil => exact fun i b => ⟨[], by simp [rowsF]⟩
        | cons x r ihr =>
          intro i b
          obtain ⟨m2, e2⟩ := ihr (i + 1) (rowF (takeF body f) k x (b.row i))
          have one : ∃ m1, (rowF (takeF body f) k x (b.row i)).qs = b.qs ++ m1 := by
            unfold rowF
            split
            · exact ⟨[], by simp [Ab.bind, Ab.row]⟩
            · obtain ⟨m, e⟩ := ih (b.row i) ‹Str›
              rename_i p'
              obtain ⟨m, e⟩ := ih (b.row i) p'
              exact ⟨m, e⟩
            · exact ⟨[], by simp [Ab.put, Ab.row]⟩
            · exact ⟨[], by simp [Ab.row]⟩
          obtain ⟨m1, e1⟩ := one
          refine ⟨m1 ++ m2, ?_⟩
          show (rowsF (takeF body f) k (i + 1) r (rowF (takeF body f) k x (b.row i))).qs = _
          rw [e2, e1, List.append_assoc]
      obtain ⟨m, e⟩ := rows a.qs.length (body p) 0 (a.begin p)
      exact ⟨p :: m, by show (rowsF (takeF body f) a.qs.length 0 (body p) (a.begin p)).qs = _; rw [e]; simp [Ab.begin]⟩
theorem rows_qs {body : Str → List PyData} {f : Nat} (k : Nat) (x : PyData) (b : Ab) : ∃ more, (rowF (takeF body f) k x b).qs = b.qs ++ more := by
  unfold rowF
  split
  · exact ⟨[], by simp [Ab.bind]⟩
  · rename_i p'
    obtain ⟨m, e⟩ := take_qs (body := body) f b p'
    exact ⟨m, e⟩
  · exact ⟨[], by simp [Ab.put]⟩
  · exact ⟨[], by simp⟩
theorem rem_more {ps : List Str} {a b : Ab} {more : List Str} (e : b.qs = a.qs ++ more) : rem ps b ≤ rem ps a := rem_mono fun q hq => by rw [e]; exact List.mem_append_left _ hq
theorem take_lot {ps : List Str} {body : Str → List PyData} (hb : ∀ p ∈ ps, (body p).length ≤ 40) (hr : ∀ p ∈ ps, ∀ x ∈ body p, RowK ps x) : ∀ (f : Nat) (a : Ab) (p : Str), p ∈ ps → (takeF body f a p).1.lot ps ≤ a.lot ps + 1 := by
  intro f
  induction f with
  | zero => exact fun a p _ => Nat.le_succ _
  | succ f ih =>
    intro a p hp
    simp only [takeF]
    cases h : a.ix p with
    | some k =>
      show (a.log ++ [haveE k]).length + 43 * rem ps a ≤ _
      rw [List.length_append, List.length_singleton]
      unfold Ab.lot
      omega
    | none =>
      have rows : ∀ (k : Nat) (xs : List PyData) (i : Nat) (b : Ab), (∀ x ∈ xs, RowK ps x) → (rowsF (takeF body f) k i xs b).lot ps ≤ b.lot ps + xs.length := by
        intro k xs
        induction xs with
        | nil => exact fun i b _ => Nat.le_refl _
        | cons x r ihr =>
          intro i b hx
          have h2 := ihr (i + 1) (rowF (takeF body f) k x (b.row i)) fun y hy => hx y (List.mem_cons_of_mem _ hy)
          have h1 : (rowF (takeF body f) k x (b.row i)).lot ps ≤ b.lot ps + 1 := by
            cases hx x List.mem_cons_self with
            | set => exact Nat.le_succ _
            | take _ hq => exact ih (b.row i) _ hq
            | note =>
              show ((b.row i).log ++ [_]).length + 43 * rem ps (b.row i) ≤ _
              rw [List.length_append, List.length_singleton]
              show b.log.length + 1 + 43 * rem ps b ≤ _
              unfold Ab.lot
              omega
          show (rowsF (takeF body f) k (i + 1) r (rowF (takeF body f) k x (b.row i))).lot ps ≤ _
          rw [List.length_cons]
          omega
      have h1 := rows a.qs.length (body p) 0 (a.begin p) (hr p hp)
      have h2 := hb p hp
      have h3 := rem_lt hp (ix_none h) (b := a.begin p) rfl
      have h4 : (a.begin p).lot ps + 42 ≤ a.lot ps := by
        unfold Ab.lot
        show (a.log ++ [_]).length + 43 * rem ps (a.begin p) + 42 ≤ _
        rw [List.length_append, List.length_singleton]
        omega
      show ((rowsF (takeF body f) a.qs.length 0 (body p) (a.begin p)).log ++ [_]).length + 43 * rem ps (rowsF (takeF body f) a.qs.length 0 (body p) (a.begin p)) ≤ _
      rw [List.length_append, List.length_singleton]
      unfold Ab.lot at h1 h4 ⊢
      omega
/-- few names each -/
def Few (a : Ab) : Prop := a.nm.length = a.qs.length ∧ ∀ j, (a.nm.getD j []).length ≤ 40
theorem putN_len (xs : List Str) (z : Str) : (putN xs z).length ≤ xs.length + 1 := by
  unfold putN
  split
  · omega
  · rw [List.length_append, List.length_singleton]
    exact Nat.le_refl _
theorem getD_set {α : Type} (xs : List α) (k j : Nat) (y d : α) : (xs.set k y).getD j d = if k = j ∧ k < xs.length then y else xs.getD j d := by
  rw [List.getD_eq_getElem?_getD, List.getElem?_set, List.getD_eq_getElem?_getD]
  by_cases c : k = j
  · subst c
    by_cases l : k < xs.length
    · simp [l]
    · simp [l]
  · simp [c]
/-- what a row does: the running module gets a name at the most, the others that were there none -/
structure RowOk (k : Nat) (a b : Ab) : Prop where
  len : b.nm.length = b.qs.length
  ge : a.nm.length ≤ b.nm.length
  same : ∀ j, j < a.nm.length → j ≠ k → b.nm.getD j [] = a.nm.getD j []
  own : (b.nm.getD k []).length ≤ (a.nm.getD k []).length + 1
  new : ∀ j, a.nm.length ≤ j → (b.nm.getD j []).length ≤ 40
theorem bind_ok {k : Nat} {a b : Ab} {z : Str} (hk : k < a.nm.length) (len : b.nm.length = b.qs.length) (ge : a.nm.length ≤ b.nm.length) (same : ∀ j, j < a.nm.length → b.nm.getD j [] = a.nm.getD j []) (new : ∀ j, a.nm.length ≤ j → (b.nm.getD j []).length ≤ 40) : RowOk k a (b.bind k z) := by
  refine ⟨by show (b.nm.set k _).length = b.qs.length; rw [List.length_set]; exact len, by show _ ≤ (b.nm.set k _).length; rw [List.length_set]; exact ge, fun j hj ne => ?_, ?_, fun j hj => ?_⟩
  · show (b.nm.set k _).getD j [] = _
    rw [getD_set, if_neg fun e => ne e.1.symm]
    exact same j hj
  · show ((b.nm.set k _).getD k []).length ≤ _
    rw [getD_set, if_pos ⟨rfl, by omega⟩, ← same k hk]
    exact putN_len _ _
  · show ((b.nm.set k _).getD j []).length ≤ 40
    rw [getD_set, if_neg fun e => by omega]
    exact new j hj
theorem take_few {ps : List Str} {body : Str → List PyData} (hb : ∀ p ∈ ps, (body p).length ≤ 40) (hr : ∀ p ∈ ps, ∀ x ∈ body p, RowK ps x) : ∀ (f : Nat) (a : Ab) (p : Str), p ∈ ps → Few a → Few (takeF body f a p).1 ∧ a.nm.length ≤ (takeF body f a p).1.nm.length ∧ ∀ j, j < a.nm.length → (takeF body f a p).1.nm.getD j [] = a.nm.getD j [] := by
  intro f
  induction f with
  | zero => exact fun a p _ h => ⟨h, Nat.le_refl _, fun _ _ => rfl⟩
  | succ f ih =>
    intro a p hp fw
    simp only [takeF]
    cases h : a.ix p with
    | some k => exact ⟨fw, Nat.le_refl _, fun _ _ => rfl⟩
    | none =>
      have one : ∀ (k : Nat) (x : PyData) (b : Ab), RowK ps x → k < b.nm.length → Few b → RowOk k b (rowF (takeF body f) k x b) := by
        intro k x b hx hk fb
        have past : ∀ j, b.nm.length ≤ j → (b.nm.getD j []).length ≤ 40 := fun j _ => fb.2 j
        cases hx with
        | set => exact bind_ok hk fb.1 (Nat.le_refl _) (fun _ _ => rfl) past
        | take _ hq =>
          obtain ⟨f1, f2, f3⟩ := ih b _ hq fb
          exact bind_ok hk f1.1 f2 f3 fun j _ => f1.2 j
        | note => exact ⟨fb.1, Nat.le_refl _, fun _ _ _ => rfl, Nat.le_succ _, past⟩
      have rows : ∀ (k : Nat) (xs : List PyData) (i : Nat) (b : Ab), (∀ x ∈ xs, RowK ps x) → k < b.nm.length → Few b → (b.nm.getD k []).length ≤ i → i + xs.length ≤ 40 →
          Few (rowsF (takeF body f) k i xs b) ∧ b.nm.length ≤ (rowsF (takeF body f) k i xs b).nm.length ∧ ∀ j, j < b.nm.length → j ≠ k → (rowsF (takeF body f) k i xs b).nm.getD j [] = b.nm.getD j [] := by
        intro k xs
        induction xs with
        | nil => exact fun i b _ _ fb _ _ => ⟨fb, Nat.le_refl _, fun _ _ _ => rfl⟩
        | cons x r ihr =>
          intro i b hx hk fb hi hl
          rw [List.length_cons] at hl
          have r1 := one k x (b.row i) (hx x List.mem_cons_self) hk fb
          have fb1 : Few (rowF (takeF body f) k x (b.row i)) := ⟨r1.len, fun j => by
            by_cases c : j = k
            · subst c
              have := r1.own
              have e : (b.row i).nm.getD j [] = b.nm.getD j [] := rfl
              rw [e] at this
              omega
            · by_cases l : j < (b.row i).nm.length
              · rw [r1.same j l c]; exact fb.2 j
              · exact r1.new j (by omega)⟩
          have ge : b.nm.length ≤ (rowF (takeF body f) k x (b.row i)).nm.length := r1.ge
          obtain ⟨g1, g2, g3⟩ := ihr (i + 1) (rowF (takeF body f) k x (b.row i)) (fun y hy => hx y (List.mem_cons_of_mem _ hy)) (by omega) fb1 (Nat.le_trans r1.own (by show (b.nm.getD k []).length + 1 ≤ i + 1; omega)) (by omega)
          refine ⟨g1, Nat.le_trans ge g2, fun j hj ne => ?_⟩
          show (rowsF (takeF body f) k (i + 1) r (rowF (takeF body f) k x (b.row i))).nm.getD j [] = _
          rw [g3 j (by omega) ne]
          exact r1.same j hj ne
      have fbeg : Few (a.begin p) := ⟨by show (a.nm ++ [[]]).length = (a.qs ++ [p]).length; rw [List.length_append, List.length_append, fw.1]; rfl, fun j => by
        show ((a.nm ++ [[]]).getD j []).length ≤ 40
        rw [List.getD_eq_getElem?_getD, List.getElem?_append]
        split
        · have := fw.2 j
          rwa [List.getD_eq_getElem?_getD] at this
        · rcases Nat.eq_zero_or_pos (j - a.nm.length) with e | e
          · rw [e]; simp
          · rw [List.getElem?_eq_none (by rw [List.length_singleton]; exact e)]; simp⟩
      have hk : a.qs.length < (a.begin p).nm.length := by
        show _ < (a.nm ++ [[]]).length
        rw [List.length_append, fw.1]
        simp
      have e0 : ((a.begin p).nm.getD a.qs.length []).length ≤ 0 := by
        show ((a.nm ++ [[]]).getD a.qs.length []).length ≤ 0
        rw [← fw.1, List.getD_eq_getElem?_getD, List.getElem?_append_right (Nat.le_refl _), Nat.sub_self]
        exact Nat.le_refl _
      obtain ⟨g1, g2, g3⟩ := rows a.qs.length (body p) 0 (a.begin p) (hr p hp) hk fbeg e0 (by have := hb p hp; omega)
      refine ⟨g1, ?_, fun j hj => ?_⟩
      · refine Nat.le_trans ?_ g2
        show _ ≤ (a.nm ++ [[]]).length
        rw [List.length_append]
        omega
      · show (rowsF (takeF body f) a.qs.length 0 (body p) (a.begin p)).nm.getD j [] = _
        rw [g3 j (by show j < (a.nm ++ [[]]).length; rw [List.length_append]; omega) (by rw [← fw.1]; omega)]
        show (a.nm ++ [[]]).getD j [] = _
        rw [List.getD_eq_getElem?_getD, List.getElem?_append_left hj, List.getD_eq_getElem?_getD]

/-! a house in the heap -/
structure HA where
  self : Addr
  dx : Addr
  sh : Addr
  st : Addr
  md : Addr
  ln : Addr
  br : Addr
  mt : Addr
  ft : Addr
  nt : Addr
  wt : Addr
  shs : List Sf
abbrev runF (h : HA) : List (Str × V) := [("shelves", .ref h.sh), ("standing", .ref h.st), ("made", .ref h.md), ("line", .ref h.ln), ("broken", .ref h.br), ("met", .ref h.mt), ("fates", .ref h.ft), ("notes", .ref h.nt), ("waits", .ref h.wt)]
structure Mo where
  m : Addr
  d : Addr
  q : Str
  ks : List (Str × V)
abbrev Mo.kvs (o : Mo) : List (Key × V) := o.ks.map fun b => (Sum.inr b.1, b.2)
structure Lc where
  a : Addr
  k : Nat
  r : Nat
structure Hs where
  ms : List Mo
  line : List Lc
  notes : List PyData
  waits : List PyData
def mAt (ms : List Mo) (k : Nat) : Addr := ((ms[k]?).map (·.m)).getD 0
theorem mAt_of {ms : List Mo} {k : Nat} {o : Mo} (h : ms[k]? = some o) : mAt ms k = o.m := by unfold mAt; rw [h]; rfl
def Hs.ab (s : Hs) : Ab := ⟨s.ms.map (·.q), s.ms.map fun o => o.ks.map (·.1), s.notes, s.waits, s.line.map fun c => (c.k, c.r)⟩
abbrev HA.nine (h : HA) : List Addr := [h.self, h.st, h.md, h.ln, h.br, h.mt, h.ft, h.nt, h.wt]
abbrev Hs.cells (s : Hs) : List Addr := s.line.map (·.a)
abbrev Hs.dicts (s : Hs) : List Addr := s.ms.map (·.d)
def own (h : HA) (s : Hs) : List Addr := h.nine ++ (s.cells ++ s.dicts)
def DLst (K : PySem.W.Frag) (H : Hp) (a : Addr) (ds : List PyData) : Prop := ∃ vs, H a = some (.lst vs) ∧ DpAll K H vs ds
structure HouseAt (K : PySem.W.Frag) (CR CM : Addr) (ps : List Str) (body : Str → List PyData) (H : Hp) (h : HA) (s : Hs) : Prop where
  ob : H h.self = some (.ins CR h.dx (runF h))
  sh : H h.sh = some (.lst (h.shs.map fun x => V.ref x.a))
  shk : ∀ x ∈ h.shs, H x.a = some (.dK x.kvs)
  fnd : ∀ p ∈ ps, ∃ v, FAt h.shs p v ∧ Dp K H v (.tuple (body p))
  st : H h.st = some (.dK (s.ms.map fun o => (Sum.inr o.q, V.ref o.m)))
  md : H h.md = some (.lst (s.ms.map fun o => V.ref o.m))
  ln : H h.ln = some (.lst (s.line.map fun c => V.ref c.a))
  lc : ∀ c ∈ s.line, c.k < s.ms.length ∧ H c.a = some (.lst [.ref (mAt s.ms c.k), .int (c.r : Nat)])
  br : H h.br = some (.dK [])
  mt : H h.mt = some (.lst [])
  ft : H h.ft = some (.dK [])
  nt : DLst K H h.nt s.notes
  wt : DLst K H h.wt s.waits
  nf : flatAll s.notes = true
  wf : flatAll s.waits = true
  mo : ∀ (k : Nat) (o : Mo), s.ms[k]? = some o → (∃ dx, H o.m = some (.ins CM dx (modF ((k + 1 : Nat) : Int) o.q o.d))) ∧ H o.d = some (.dK o.kvs)
  nd : (own h s).Nodup
  sa : ∀ x ∈ h.sh :: h.shs.map (·.a), x ∉ own h s
  qn : (s.ms.map (·.q)).Nodup
  qp : ∀ o ∈ s.ms, o.q ∈ ps
  lm : s.line.length ≤ s.ms.length
  wm : s.waits.length ≤ s.ms.length
theorem body_flat {ps : List Str} {body : Str → List PyData} (hr : ∀ p ∈ ps, ∀ x ∈ body p, RowK ps x) {p : Str} (hp : p ∈ ps) : flatD (.tuple (body p)) = true := flat_rows (hr p hp)
theorem DLst.tup {K : PySem.W.Frag} {H H' : Hp} {a : Addr} {ds : List PyData} (h : DLst K H a ds) (f : flatAll ds = true) (e : ∀ o, H a = some o → H' a = some o) (t : TupK H H') : DLst K H' a ds := by
  obtain ⟨vs, g, d⟩ := h
  exact ⟨vs, e _ g, Dp.tupsAll t _ _ f d⟩
/-- what is no tuple: the house's own -/
theorem HouseAt.notup {K : PySem.W.Frag} {CR CM : Addr} {ps : List Str} {body : Str → List PyData} {H : Hp} {h : HA} {s : Hs} (I : HouseAt K CR CM ps body H h s) : ∀ x ∈ own h s, NoTup H x ∧ ∃ o, H x = some o := fun x hx => by
  have lst : ∀ {a : Addr} {xs : List V}, H a = some (.lst xs) → NoTup H a ∧ ∃ o, H a = some o := fun e => ⟨.lst e, _, e⟩
  have dic : ∀ {a : Addr} {kvs : List (Key × V)}, H a = some (.dK kvs) → NoTup H a ∧ ∃ o, H a = some o := fun e => ⟨notup_dK e, _, e⟩
  unfold own at hx
  rcases List.mem_append.mp hx with hx | hx
  · simp only [HA.nine, List.mem_cons, List.not_mem_nil, or_false] at hx
    rcases hx with rfl | rfl | rfl | rfl | rfl | rfl | rfl | rfl | rfl
    · refine ⟨fun xs r => ?_, _, I.ob⟩
      rcases r with r | ⟨o, r⟩ <;> rw [I.ob] at r <;> cases r
    · exact dic I.st
    · exact lst I.md
    · exact lst I.ln
    · exact dic I.br
    · exact lst I.mt
    · exact dic I.ft
    · obtain ⟨_, e, _⟩ := I.nt; exact lst e
    · obtain ⟨_, e, _⟩ := I.wt; exact lst e
  · rcases List.mem_append.mp hx with hx | hx
    · obtain ⟨c, hc, rfl⟩ := List.mem_map.mp hx
      exact lst (I.lc c hc).2
    · obtain ⟨o, ho, rfl⟩ := List.mem_map.mp hx
      obtain ⟨k, hk⟩ := List.mem_iff_getElem?.mp ho
      exact dic (I.mo k o hk).2
/-- what others do -/
theorem HouseAt.kp {K : PySem.W.Frag} {CR CM : Addr} {ps : List Str} {body : Str → List PyData} (hr : ∀ p ∈ ps, ∀ x ∈ body p, RowK ps x) {H H' : Hp} {h : HA} {s : Hs} {W : List Addr} (I : HouseAt K CR CM ps body H h s) (k : Kp W H H') (t : TIK H H') (tk : TupK H H')
    (n : ∀ x ∈ own h s, Nin x W) (n2 : ∀ x ∈ h.sh :: h.shs.map (·.a), Nin x W) : HouseAt K CR CM ps body H' h s := by
  have m : ∀ {x : Addr} {o : HO}, x ∈ own h s → H x = some o → H' x = some o := fun hx e => k.get (n _ hx) e
  have m9 : ∀ {x : Addr} {o : HO}, x ∈ h.nine → H x = some o → H' x = some o := fun hx e => m (List.mem_append_left _ hx) e
  refine ⟨m9 (by simp) I.ob, k.get (n2 _ List.mem_cons_self) I.sh, fun x hx => k.get (n2 _ (List.mem_cons_of_mem _ (List.mem_map.mpr ⟨x, hx, rfl⟩))) (I.shk x hx), fun p hp => ?_, m9 (by simp) I.st, m9 (by simp) I.md, m9 (by simp) I.ln, fun c hc => ⟨(I.lc c hc).1, ?_⟩, m9 (by simp) I.br, m9 (by simp) I.mt, m9 (by simp) I.ft,
    I.nt.tup I.nf (fun o e => m9 (by simp) e) tk, I.wt.tup I.wf (fun o e => m9 (by simp) e) tk, I.nf, I.wf, fun j o e => ?_, I.nd, I.sa, I.qn, I.qp, I.lm, I.wm⟩
  · obtain ⟨v, f, d⟩ := I.fnd p hp
    exact ⟨v, f, Dp.tups tk _ _ (body_flat hr hp) d⟩
  · exact m (List.mem_append_right _ (List.mem_append_left _ (List.mem_map.mpr ⟨c, hc, rfl⟩))) (I.lc c hc).2
  · obtain ⟨⟨dx, e1⟩, e2⟩ := I.mo j o e
    exact ⟨⟨dx, t.ins e1⟩, m (List.mem_append_right _ (List.mem_append_right _ (List.mem_map.mpr ⟨o, List.mem_of_getElem? e, rfl⟩))) e2⟩
theorem HouseAt.same {K : PySem.W.Frag} {CR CM : Addr} {ps : List Str} {body : Str → List PyData} (hr : ∀ p ∈ ps, ∀ x ∈ body p, RowK ps x) {H H' : Hp} {h : HA} {s : Hs} (I : HouseAt K CR CM ps body H h s) (k : Kp [] H H') : HouseAt K CR CM ps body H' h s :=
  I.kp hr k (.same k) (TupK.same k) (fun _ _ => trivial) fun _ _ => trivial
/-- what the house's own doing leaves -/
structure Stp (K : PySem.W.Frag) (CR CM : Addr) (ps : List Str) (body : Str → List PyData) (h : HA) (H : Hp) (s : Hs) (H' : Hp) (s' : Hs) : Prop where
  at_ : HouseAt K CR CM ps body H' h s'
  kp : Kp (own h s) H H'
  ti : TIK H H'
  new : ∀ x ∈ own h s', x ∈ own h s ∨ H x = none
  ext : ∀ (k : Nat) (o : Mo), s.ms[k]? = some o → ∃ o', s'.ms[k]? = some o' ∧ o'.m = o.m ∧ o'.d = o.d ∧ o'.q = o.q
theorem Stp.refl {K : PySem.W.Frag} {CR CM : Addr} {ps : List Str} {body : Str → List PyData} {h : HA} {H : Hp} {s : Hs} (I : HouseAt K CR CM ps body H h s) : Stp K CR CM ps body h H s H s :=
  ⟨I, Kp.refl, .same Kp.refl, fun x hx => .inl hx, fun k o e => ⟨o, e, rfl, rfl, rfl⟩⟩
theorem Stp.tr {K : PySem.W.Frag} {CR CM : Addr} {ps : List Str} {body : Str → List PyData} {h : HA} {H H1 H2 : Hp} {s s1 s2 : Hs} (a : Stp K CR CM ps body h H s H1 s1) (b : Stp K CR CM ps body h H1 s1 H2 s2) : Stp K CR CM ps body h H s H2 s2 := by
  refine ⟨b.at_, a.kp.step b.kp a.new, a.ti.tr b.ti, fun x hx => ?_, fun k o e => ?_⟩
  · rcases b.new x hx with h1 | h1
    · exact a.new x h1
    · by_cases c : x ∈ own h s
      · exact .inl c
      · exact .inr (a.kp.free (Nin.intro fun y hy e => c (e ▸ hy)) h1)
  · obtain ⟨o1, e1, a1, a2, a3⟩ := a.ext k o e
    obtain ⟨o2, e2, b1, b2, b3⟩ := b.ext k o1 e1
    exact ⟨o2, e2, b1.trans a1, b2.trans a2, b3.trans a3⟩
theorem Stp.same {K : PySem.W.Frag} {CR CM : Addr} {ps : List Str} {body : Str → List PyData} (hr : ∀ p ∈ ps, ∀ x ∈ body p, RowK ps x) {h : HA} {H H' : Hp} {s : Hs} (I : HouseAt K CR CM ps body H h s) (k : Kp [] H H') : Stp K CR CM ps body h H s H' s :=
  ⟨I.same hr k, Kp.nil_W k, .same k, fun x hx => .inl hx, fun k o e => ⟨o, e, rfl, rfl, rfl⟩⟩

section
variable {K : PySem.W.Frag} {CR CM : Addr} {ps : List Str} {body : Str → List PyData} {H : Hp} {h : HA} {s : Hs}
theorem HouseAt.n9 (I : HouseAt K CR CM ps body H h s) : h.nine.Nodup := (List.nodup_append.mp I.nd).1
theorem HouseAt.c9 (I : HouseAt K CR CM ps body H h s) {x : Addr} (hx : x ∈ h.nine) {c : Lc} (hc : c ∈ s.line) : x ≠ c.a :=
  (List.nodup_append.mp I.nd).2.2 x hx c.a (List.mem_append_left _ (List.mem_map.mpr ⟨c, hc, rfl⟩))
theorem HouseAt.d9 (I : HouseAt K CR CM ps body H h s) {x : Addr} (hx : x ∈ h.nine) {o : Mo} (ho : o ∈ s.ms) : x ≠ o.d :=
  (List.nodup_append.mp I.nd).2.2 x hx o.d (List.mem_append_right _ (List.mem_map.mpr ⟨o, ho, rfl⟩))
theorem HouseAt.cd (I : HouseAt K CR CM ps body H h s) {c : Lc} (hc : c ∈ s.line) {o : Mo} (ho : o ∈ s.ms) : c.a ≠ o.d :=
  (List.nodup_append.mp (List.nodup_append.mp I.nd).2.1).2.2 c.a (List.mem_map.mpr ⟨c, hc, rfl⟩) o.d (List.mem_map.mpr ⟨o, ho, rfl⟩)
theorem HouseAt.cc (I : HouseAt K CR CM ps body H h s) : s.cells.Nodup := (List.nodup_append.mp (List.nodup_append.mp I.nd).2.1).1
theorem HouseAt.dd (I : HouseAt K CR CM ps body H h s) : s.dicts.Nodup := (List.nodup_append.mp (List.nodup_append.mp I.nd).2.1).2.1
theorem HouseAt.sne (I : HouseAt K CR CM ps body H h s) {x y : Addr} (hx : x ∈ own h s) (hy : y ∈ h.sh :: h.shs.map (·.a)) : y ≠ x := fun e => I.sa y hy (e ▸ hx)
theorem own9 {x : Addr} (hx : x ∈ h.nine) : x ∈ own h s := List.mem_append_left _ hx
theorem ownC {c : Lc} (hc : c ∈ s.line) : c.a ∈ own h s := List.mem_append_right _ (List.mem_append_left _ (List.mem_map.mpr ⟨c, hc, rfl⟩))
theorem ownD {o : Mo} (ho : o ∈ s.ms) : o.d ∈ own h s := List.mem_append_right _ (List.mem_append_right _ (List.mem_map.mpr ⟨o, ho, rfl⟩))
theorem tik_lst {x : Addr} {xs : List V} {o : HO} (e : H x = some (.lst xs)) : TIK H (upd H x o) := .of (W := [x]) (Kp.refl.upd_mem List.mem_cons_self) fun y hy => by rw [List.mem_singleton.mp hy]; exact .inl ⟨_, e⟩
theorem tik_dic {x : Addr} {kvs : List (Key × V)} {o : HO} (e : H x = some (.dK kvs)) : TIK H (upd H x o) := .of (W := [x]) (Kp.refl.upd_mem List.mem_cons_self) fun y hy => by rw [List.mem_singleton.mp hy]; exact .inr ⟨_, e⟩
/-- the shelves and what they have, behind a change of the house's own -/
theorem HouseAt.shelves (I : HouseAt K CR CM ps body H h s) (hr : ∀ p ∈ ps, ∀ x ∈ body p, RowK ps x) {x : Addr} {o : HO} (hx : x ∈ own h s) (tk : TupK H (upd H x o)) :
    upd H x o h.sh = some (.lst (h.shs.map fun x => V.ref x.a)) ∧ (∀ y ∈ h.shs, upd H x o y.a = some (.dK y.kvs)) ∧ ∀ p ∈ ps, ∃ v, FAt h.shs p v ∧ Dp K (upd H x o) v (.tuple (body p)) :=
  ⟨(upd_ne (I.sne hx List.mem_cons_self)).trans I.sh, fun y hy => (upd_ne (I.sne hx (List.mem_cons_of_mem _ (List.mem_map.mpr ⟨y, hy, rfl⟩)))).trans (I.shk y hy), fun p hp => by
    obtain ⟨v, f, d⟩ := I.fnd p hp
    exact ⟨v, f, Dp.tups tk _ _ (body_flat hr hp) d⟩⟩
/-- an entry of the log -/
theorem HouseAt.note (I : HouseAt K CR CM ps body H h s) (hr : ∀ p ∈ ps, ∀ x ∈ body p, RowK ps x) {vs : List V} {v : V} {x : PyData} (e : H h.nt = some (.lst vs)) (dv : DpAll K H vs s.notes) (d : Dp K H v x) (f : flatD x = true) :
    Stp K CR CM ps body h H s (upd H h.nt (.lst (vs ++ [v]))) { s with notes := s.notes ++ [x] } := by
  have n9 := I.n9
  have t := tik_lst (o := .lst (vs ++ [v])) e
  have tk := TupK.lst (o := .lst (vs ++ [v])) e
  obtain ⟨s1, s2, s3⟩ := I.shelves hr (own9 (x := h.nt) (by simp)) tk
  have up : ∀ {y : Addr} {u : HO}, y ≠ h.nt → H y = some u → upd H h.nt (.lst (vs ++ [v])) y = some u := fun n g => (upd_ne n).trans g
  refine ⟨⟨up (fun q => by simp [q] at n9) I.ob, s1, s2, s3, up (fun q => by simp [q] at n9) I.st, up (fun q => by simp [q] at n9) I.md, up (fun q => by simp [q] at n9) I.ln, fun c hc => ⟨(I.lc c hc).1, up (I.c9 (by simp) hc).symm (I.lc c hc).2⟩,
    up (fun q => by simp [q] at n9) I.br, up (fun q => by simp [q] at n9) I.mt, up (fun q => by simp [q] at n9) I.ft, ⟨_, upd_same, DpAll.snoc (Dp.tupsAll tk _ _ I.nf dv) (Dp.tups tk _ _ f d)⟩, I.wt.tup I.wf (fun o g => up (fun q => by simp [q] at n9) g) tk, ?_, I.wf,
    fun k o g => ?_, I.nd, I.sa, I.qn, I.qp, I.lm, I.wm⟩, Kp.refl.upd_mem (own9 (by simp)), t, fun y hy => .inl hy, fun k o g => ⟨o, g, rfl, rfl, rfl⟩⟩
  · refine flatAll_of fun y hy => ?_
    rcases List.mem_append.mp hy with hy | hy
    · have := I.nf
      clear dv
      generalize s.notes = l at this hy
      induction l with
      | nil => cases hy
      | cons z r ih =>
        simp only [flatAll, Bool.and_eq_true] at this
        rcases List.mem_cons.mp hy with rfl | hy
        · exact this.1
        · exact ih this.2 hy
    · rw [List.mem_singleton.mp hy]; exact f
  · obtain ⟨⟨dx, e1⟩, e2⟩ := I.mo k o g
    exact ⟨⟨dx, t.ins e1⟩, up (I.d9 (by simp) (List.mem_of_getElem? g)).symm e2⟩
/-- a row's number -/
theorem HouseAt.row (I : HouseAt K CR CM ps body H h s) (hr : ∀ p ∈ ps, ∀ x ∈ body p, RowK ps x) {pre : List Lc} {c : Lc} (e : s.line = pre ++ [c]) (r : Nat) :
    Stp K CR CM ps body h H s (upd H c.a (.lst [.ref (mAt s.ms c.k), .int (r : Nat)])) { s with line := pre ++ [⟨c.a, c.k, r⟩] } := by
  have mc : c ∈ s.line := by rw [e]; simp
  obtain ⟨lk, ec⟩ := I.lc c mc
  have t := tik_lst (o := .lst [.ref (mAt s.ms c.k), .int (r : Nat)]) ec
  have tk := TupK.lst (o := .lst [.ref (mAt s.ms c.k), .int (r : Nat)]) ec
  obtain ⟨s1, s2, s3⟩ := I.shelves hr (ownC (h := h) mc) tk
  have up : ∀ {y : Addr} {u : HO}, y ≠ c.a → H y = some u → upd H c.a (.lst [.ref (mAt s.ms c.k), .int (r : Nat)]) y = some u := fun n g => (upd_ne n).trans g
  have ec' : ({ s with line := pre ++ [⟨c.a, c.k, r⟩] } : Hs).cells = s.cells := by
    show (pre ++ [(⟨c.a, c.k, r⟩ : Lc)]).map (·.a) = s.line.map (·.a)
    rw [e, List.map_append, List.map_append]
    rfl
  have eo : own h { s with line := pre ++ [⟨c.a, c.k, r⟩] } = own h s := by unfold own; rw [ec']
  have n9 : ∀ {y : Addr}, y ∈ h.nine → y ≠ c.a := fun hy => I.c9 hy mc
  refine ⟨⟨up (n9 (by simp)) I.ob, s1, s2, s3, up (n9 (by simp)) I.st, up (n9 (by simp)) I.md, ?_, fun c' hc => ?_, up (n9 (by simp)) I.br, up (n9 (by simp)) I.mt, up (n9 (by simp)) I.ft, I.nt.tup I.nf (fun o g => up (n9 (by simp)) g) tk, I.wt.tup I.wf (fun o g => up (n9 (by simp)) g) tk, I.nf, I.wf,
    fun k o g => ?_, by rw [eo]; exact I.nd, by rw [eo]; exact I.sa, I.qn, I.qp, ?_, I.wm⟩, Kp.refl.upd_mem (ownC mc), t, fun y hy => .inl (by rw [eo] at hy; exact hy), fun k o g => ⟨o, g, rfl, rfl, rfl⟩⟩
  · refine up (n9 (by simp)) ?_
    have : (pre ++ [(⟨c.a, c.k, r⟩ : Lc)]).map (fun c => V.ref c.a) = s.line.map fun c => V.ref c.a := by rw [e, List.map_append, List.map_append]; rfl
    show _ = some (HO.lst ((pre ++ [(⟨c.a, c.k, r⟩ : Lc)]).map fun c => V.ref c.a))
    rw [this]
    exact I.ln
  · rcases List.mem_append.mp hc with hc | hc
    · have mc' : c' ∈ s.line := by rw [e]; exact List.mem_append_left _ hc
      refine ⟨(I.lc c' mc').1, up (fun q => ?_) (I.lc c' mc').2⟩
      have := I.cc
      unfold Hs.cells at this
      rw [e, List.map_append] at this
      exact (List.nodup_append.mp this).2.2 c'.a (List.mem_map.mpr ⟨c', hc, rfl⟩) c.a (by simp) q
    · rw [List.mem_singleton.mp hc]
      exact ⟨lk, upd_same⟩
  · obtain ⟨⟨dx, e1⟩, e2⟩ := I.mo k o g
    exact ⟨⟨dx, t.ins e1⟩, up (I.cd mc (List.mem_of_getElem? g)).symm e2⟩
  · have := I.lm
    rw [e, List.length_append] at this
    show (pre ++ [_]).length ≤ _
    rw [List.length_append]
    exact this
/-- the last one under way ends -/
theorem HouseAt.pop (I : HouseAt K CR CM ps body H h s) (hr : ∀ p ∈ ps, ∀ x ∈ body p, RowK ps x) {pre : List Lc} {c : Lc} (e : s.line = pre ++ [c]) :
    Stp K CR CM ps body h H s (upd H h.ln (.lst (pre.map fun c => V.ref c.a))) { s with line := pre } := by
  have n9 := I.n9
  have t := tik_lst (o := .lst (pre.map fun c => V.ref c.a)) I.ln
  have tk := TupK.lst (o := .lst (pre.map fun c => V.ref c.a)) I.ln
  obtain ⟨s1, s2, s3⟩ := I.shelves hr (own9 (x := h.ln) (by simp)) tk
  have up : ∀ {y : Addr} {u : HO}, y ≠ h.ln → H y = some u → upd H h.ln (.lst (pre.map fun c => V.ref c.a)) y = some u := fun n g => (upd_ne n).trans g
  have sub : ∀ x ∈ own h { s with line := pre }, x ∈ own h s := fun x hx => by
    unfold own at hx ⊢
    rcases List.mem_append.mp hx with hx | hx
    · exact List.mem_append_left _ hx
    · refine List.mem_append_right _ ?_
      rcases List.mem_append.mp hx with hx | hx
      · refine List.mem_append_left _ ?_
        show x ∈ s.line.map (·.a)
        rw [e, List.map_append]
        exact List.mem_append_left _ hx
      · exact List.mem_append_right _ hx
  refine ⟨⟨up (fun q => by simp [q] at n9) I.ob, s1, s2, s3, up (fun q => by simp [q] at n9) I.st, up (fun q => by simp [q] at n9) I.md, upd_same, fun c' hc => ?_, up (fun q => by simp [q] at n9) I.br, up (fun q => by simp [q] at n9) I.mt, up (fun q => by simp [q] at n9) I.ft,
    I.nt.tup I.nf (fun o g => up (fun q => by simp [q] at n9) g) tk, I.wt.tup I.wf (fun o g => up (fun q => by simp [q] at n9) g) tk, I.nf, I.wf, fun k o g => ?_, ?_, fun x hx m => I.sa x hx (sub x m), I.qn, I.qp, ?_, I.wm⟩, Kp.refl.upd_mem (own9 (by simp)), t, fun y hy => .inl (sub y hy), fun k o g => ⟨o, g, rfl, rfl, rfl⟩⟩
  · have mc' : c' ∈ s.line := by rw [e]; exact List.mem_append_left _ hc
    exact ⟨(I.lc c' mc').1, up (I.c9 (by simp) mc').symm (I.lc c' mc').2⟩
  · obtain ⟨⟨dx, e1⟩, e2⟩ := I.mo k o g
    exact ⟨⟨dx, t.ins e1⟩, up (I.d9 (by simp) (List.mem_of_getElem? g)).symm e2⟩
  · have nd := I.nd
    unfold own Hs.cells at nd ⊢
    rw [e, List.map_append, List.append_assoc] at nd
    refine List.Nodup.sublist ?_ nd
    exact (List.Sublist.refl _).append ((List.Sublist.refl _).append (List.sublist_append_right _ _))
  · have := I.lm
    rw [e, List.length_append] at this
    show pre.length ≤ s.ms.length
    omega
/-- a name bound -/
theorem HouseAt.bind (I : HouseAt K CR CM ps body H h s) (hr : ∀ p ∈ ps, ∀ x ∈ body p, RowK ps x) {k : Nat} {o : Mo} (ek : s.ms[k]? = some o) (z : Str) (v : V) :
    ∃ ks', putK o.kvs (.inr z) v = (⟨o.m, o.d, o.q, ks'⟩ : Mo).kvs ∧ ks'.map (·.1) = putN (o.ks.map (·.1)) z ∧
    Stp K CR CM ps body h H s (upd H o.d (.dK (putK o.kvs (.inr z) v))) { s with ms := s.ms.set k ⟨o.m, o.d, o.q, ks'⟩ } := by
  have mo := List.mem_of_getElem? ek
  obtain ⟨⟨dx, em⟩, ed⟩ := I.mo k o ek
  have keyed : ∃ ks', putK o.kvs (.inr z) v = (⟨o.m, o.d, o.q, ks'⟩ : Mo).kvs ∧ ks'.map (·.1) = putN (o.ks.map (·.1)) z := by
    have ea : (o.kvs.any fun kv => decide (kv.1 = (Sum.inr z : Key))) = decide (z ∈ o.ks.map (·.1)) := by
      rw [List.any_map]
      rw [show (fun kv : Key × V => decide (kv.1 = Sum.inr z)) ∘ (fun b : Str × V => ((Sum.inr b.1 : Key), b.2)) = fun b => decide (b.1 = z) from funext fun b => decide_eq_decide.mpr ⟨fun q => Sum.inr.inj q, fun q => by show Sum.inr b.1 = _; rw [q]⟩]
      by_cases c : z ∈ o.ks.map (·.1)
      · rw [decide_eq_true c, List.any_eq_true]
        obtain ⟨b, hb, e⟩ := List.mem_map.mp c
        exact ⟨b, hb, decide_eq_true e⟩
      · rw [decide_eq_false c, List.any_eq_false]
        exact fun b hb q => c (List.mem_map.mpr ⟨b, hb, of_decide_eq_true q⟩)
    unfold putK putN
    rw [ea]
    by_cases c : z ∈ o.ks.map (·.1)
    · rw [if_pos (decide_eq_true c), if_pos c]
      refine ⟨o.ks.map fun b => if b.1 = z then (b.1, v) else b, ?_, ?_⟩
      · unfold Mo.kvs
        rw [List.map_map, List.map_map]
        refine List.map_congr_left fun b _ => ?_
        show (if (Sum.inr b.1 : Key) = Sum.inr z then _ else _) = _
        by_cases q : b.1 = z
        · simp [q]
        · simp [q]
      · rw [List.map_map]
        refine List.map_congr_left fun b _ => ?_
        show (if b.1 = z then (b.1, v) else b).1 = b.1
        split <;> rfl
    · rw [if_neg (by simpa using c), if_neg c]
      exact ⟨o.ks ++ [(z, v)], by unfold Mo.kvs; rw [List.map_append]; rfl, by rw [List.map_append]; rfl⟩
  obtain ⟨ks', e1, e2⟩ := keyed
  refine ⟨ks', e1, e2, ?_⟩
  rw [e1]
  have t := tik_dic (o := .dK (⟨o.m, o.d, o.q, ks'⟩ : Mo).kvs) ed
  have tk := TupK.dic (o := .dK (⟨o.m, o.d, o.q, ks'⟩ : Mo).kvs) ed
  obtain ⟨s1, s2, s3⟩ := I.shelves hr (ownD (h := h) mo) tk
  have up : ∀ {y : Addr} {u : HO}, y ≠ o.d → H y = some u → upd H o.d (.dK (⟨o.m, o.d, o.q, ks'⟩ : Mo).kvs) y = some u := fun n g => (upd_ne n).trans g
  have n9 : ∀ {y : Addr}, y ∈ h.nine → y ≠ o.d := fun hy => I.d9 hy mo
  have mapS : ∀ {β : Type} (f : Mo → β), f ⟨o.m, o.d, o.q, ks'⟩ = f o → (s.ms.set k ⟨o.m, o.d, o.q, ks'⟩).map f = s.ms.map f := fun f q => by
    rw [List.map_set, q]
    refine List.ext_getElem? fun j => ?_
    rw [List.getElem?_set]
    split
    · rename_i c
      subst c
      split
      · rw [List.getElem?_map, ek]; rfl
      · rename_i c
        rw [List.getElem?_eq_none (by omega)]
    · rfl
  have eo : own h { s with ms := s.ms.set k ⟨o.m, o.d, o.q, ks'⟩ } = own h s := by
    unfold own Hs.dicts
    rw [mapS (·.d) rfl]
  have eA : ∀ j, mAt (s.ms.set k ⟨o.m, o.d, o.q, ks'⟩) j = mAt s.ms j := fun j => by
    unfold mAt
    have := congrArg (fun l : List Addr => l[j]?.getD 0) (mapS (·.m) rfl)
    simp only [List.getElem?_map] at this
    exact this
  refine ⟨⟨up (n9 (by simp)) I.ob, s1, s2, s3, up (n9 (by simp)) ?_, up (n9 (by simp)) ?_, up (n9 (by simp)) I.ln, fun c hc => ⟨by show c.k < (s.ms.set k _).length; rw [List.length_set]; exact (I.lc c hc).1, by show _ = some (HO.lst [.ref (mAt (s.ms.set k _) c.k), _]); rw [eA]; exact up (I.cd hc mo) (I.lc c hc).2⟩,
    up (n9 (by simp)) I.br, up (n9 (by simp)) I.mt, up (n9 (by simp)) I.ft, I.nt.tup I.nf (fun o g => up (n9 (by simp)) g) tk, I.wt.tup I.wf (fun o g => up (n9 (by simp)) g) tk, I.nf, I.wf, fun j o' g => ?_, by rw [eo]; exact I.nd, by rw [eo]; exact I.sa, ?_, fun o' ho => ?_, ?_, ?_⟩,
    Kp.refl.upd_mem (ownD mo), t, fun y hy => .inl (by rw [eo] at hy; exact hy), fun j o' g => ?_⟩
  · show _ = some (HO.dK ((s.ms.set k _).map fun o => (Sum.inr o.q, V.ref o.m)))
    rw [mapS (fun o : Mo => ((Sum.inr o.q : Key), V.ref o.m)) rfl]
    exact I.st
  · show _ = some (HO.lst ((s.ms.set k _).map fun o => V.ref o.m))
    rw [mapS (fun o : Mo => V.ref o.m) rfl]
    exact I.md
  · rcases set_at ek g with ⟨rfl, rfl⟩ | ⟨ne, g⟩
    · exact ⟨⟨dx, t.ins em⟩, upd_same⟩
    · obtain ⟨⟨dx', e3⟩, e4⟩ := I.mo j o' g
      refine ⟨⟨dx', t.ins e3⟩, up (fun q => ?_) e4⟩
      have pw := List.pairwise_iff_getElem.mp I.dd
      obtain ⟨h1, a1⟩ := List.getElem?_eq_some_iff.mp g
      obtain ⟨h2, a2⟩ := List.getElem?_eq_some_iff.mp ek
      rcases Nat.lt_or_gt_of_ne ne with l | l
      · have := pw k j (by simpa using h2) (by simpa using h1) l
        simp only [List.getElem_map, a1, a2] at this
        exact this q.symm
      · have := pw j k (by simpa using h1) (by simpa using h2) l
        simp only [List.getElem_map, a1, a2] at this
        exact this q
  · show ((s.ms.set k _).map (·.q)).Nodup
    rw [mapS (·.q) rfl]
    exact I.qn
  · rcases List.mem_or_eq_of_mem_set ho with h | h
    · exact I.qp o' h
    · rw [h]; exact I.qp o mo
  · show _ ≤ (s.ms.set k _).length
    rw [List.length_set]
    exact I.lm
  · show _ ≤ (s.ms.set k _).length
    rw [List.length_set]
    exact I.wm
  · by_cases c : k = j
    · subst c
      rw [ek] at g
      cases g
      exact ⟨_, set_get ek, rfl, rfl, rfl⟩
    · exact ⟨o', by show (s.ms.set k _)[j]? = _; rw [List.getElem?_set, if_neg c]; exact g, rfl, rfl, rfl⟩
end

section
variable {K : PySem.W.Frag} {CR CM : Addr} {ps : List Str} {body : Str → List PyData} {H : Hp} {h : HA} {s : Hs}
theorem flat_snoc {xs : List PyData} {x : PyData} (h : flatAll xs = true) (g : flatD x = true) : flatAll (xs ++ [x]) = true := by
  induction xs with
  | nil =>
    show (flatD x && true) = true
    rw [g]
    rfl
  | cons y r ih =>
    simp only [flatAll, Bool.and_eq_true] at h
    show (flatD y && flatAll (r ++ [x])) = true
    rw [h.1, ih h.2]
    rfl
/-- who waits -/
theorem HouseAt.wait (I : HouseAt K CR CM ps body H h s) (hr : ∀ p ∈ ps, ∀ x ∈ body p, RowK ps x) {vs : List V} {v : V} {x : PyData} (e : H h.wt = some (.lst vs)) (dv : DpAll K H vs s.waits) (d : Dp K H v x) (f : flatD x = true) (lt : s.waits.length < s.ms.length) :
    Stp K CR CM ps body h H s (upd H h.wt (.lst (vs ++ [v]))) { s with waits := s.waits ++ [x] } := by
  have n9 := I.n9
  have t := tik_lst (o := .lst (vs ++ [v])) e
  have tk := TupK.lst (o := .lst (vs ++ [v])) e
  obtain ⟨s1, s2, s3⟩ := I.shelves hr (own9 (x := h.wt) (by simp)) tk
  have up : ∀ {y : Addr} {u : HO}, y ≠ h.wt → H y = some u → upd H h.wt (.lst (vs ++ [v])) y = some u := fun n g => (upd_ne n).trans g
  refine ⟨⟨up (fun q => by simp [q] at n9) I.ob, s1, s2, s3, up (fun q => by simp [q] at n9) I.st, up (fun q => by simp [q] at n9) I.md, up (fun q => by simp [q] at n9) I.ln, fun c hc => ⟨(I.lc c hc).1, up (I.c9 (by simp) hc).symm (I.lc c hc).2⟩,
    up (fun q => by simp [q] at n9) I.br, up (fun q => by simp [q] at n9) I.mt, up (fun q => by simp [q] at n9) I.ft, I.nt.tup I.nf (fun o g => up (fun q => by simp [q] at n9) g) tk, ⟨_, upd_same, DpAll.snoc (Dp.tupsAll tk _ _ I.wf dv) (Dp.tups tk _ _ f d)⟩, I.nf, flat_snoc I.wf f,
    fun k o g => ?_, I.nd, I.sa, I.qn, I.qp, I.lm, by show (s.waits ++ [x]).length ≤ _; rw [List.length_append, List.length_singleton]; exact lt⟩, Kp.refl.upd_mem (own9 (by simp)), t, fun y hy => .inl hy, fun k o g => ⟨o, g, rfl, rfl, rfl⟩⟩
  obtain ⟨⟨dx, e1⟩, e2⟩ := I.mo k o g
  exact ⟨⟨dx, t.ins e1⟩, up (I.d9 (by simp) (List.mem_of_getElem? g)).symm e2⟩
/-- a body comes under way -/
theorem HouseAt.push (I : HouseAt K CR CM ps body H h s) (hr : ∀ p ∈ ps, ∀ x ∈ body p, RowK ps x) {c : Addr} {k : Nat} (nc : H c = none) (lk : k < s.ms.length) (lt : s.line.length < s.ms.length) :
    Stp K CR CM ps body h H s (upd (upd H c (.lst [.ref (mAt s.ms k), .int ((0 : Nat) : Int)])) h.ln (.lst (s.line.map (fun c => V.ref c.a) ++ [.ref c]))) { s with line := s.line ++ [⟨c, k, 0⟩] } := by
  have k0 : Kp [] H (upd H c (.lst [.ref (mAt s.ms k), .int ((0 : Nat) : Int)])) := Kp.refl.upd_new nc
  have J := I.same hr k0
  have own0 : ∀ {x : Addr}, x ∈ own h s → x ≠ c := fun hx q => by
    obtain ⟨_, o, e⟩ := I.notup _ hx
    rw [q, nc] at e
    cases e
  have ec : upd H c (.lst [.ref (mAt s.ms k), .int ((0 : Nat) : Int)]) c = some (.lst [.ref (mAt s.ms k), .int ((0 : Nat) : Int)]) := upd_same
  have nS : ∀ x ∈ h.sh :: h.shs.map (·.a), x ≠ c := fun x hx q => by
    rcases List.mem_cons.mp hx with rfl | hx
    · have := I.sh; rw [q, nc] at this; cases this
    · obtain ⟨y, hy, rfl⟩ := List.mem_map.mp hx
      have := I.shk y hy; rw [q, nc] at this; cases this
  have tk0 := TupK.same k0
  have t0 := TIK.same k0
  generalize upd H c (.lst [.ref (mAt s.ms k), .int ((0 : Nat) : Int)]) = Hm at *
  have n9 := J.n9
  have t := tik_lst (o := .lst (s.line.map (fun c => V.ref c.a) ++ [.ref c])) J.ln
  have tk := TupK.lst (o := .lst (s.line.map (fun c => V.ref c.a) ++ [.ref c])) J.ln
  obtain ⟨s1, s2, s3⟩ := J.shelves hr (own9 (x := h.ln) (by simp)) tk
  have up : ∀ {y : Addr} {u : HO}, y ≠ h.ln → Hm y = some u → upd Hm h.ln (.lst (s.line.map (fun c => V.ref c.a) ++ [.ref c])) y = some u := fun n g => (upd_ne n).trans g
  have cl : ({ s with line := s.line ++ [⟨c, k, 0⟩] } : Hs).cells = s.cells ++ [c] := by
    show (s.line ++ [(⟨c, k, 0⟩ : Lc)]).map (·.a) = _
    rw [List.map_append]
    rfl
  have mem : ∀ x ∈ own h { s with line := s.line ++ [⟨c, k, 0⟩] }, x ∈ own h s ∨ x = c := fun x hx => by
    unfold own at hx ⊢
    rw [cl] at hx
    simp only [List.mem_append, List.mem_singleton] at hx ⊢
    rcases hx with hx | (hx | hx) | hx
    · exact .inl (.inl hx)
    · exact .inl (.inr (.inl hx))
    · exact .inr hx
    · exact .inl (.inr (.inr hx))
  refine ⟨⟨up (fun q => by simp [q] at n9) J.ob, s1, s2, s3, up (fun q => by simp [q] at n9) J.st, up (fun q => by simp [q] at n9) J.md, ?_, fun c' hc => ?_, up (fun q => by simp [q] at n9) J.br, up (fun q => by simp [q] at n9) J.mt, up (fun q => by simp [q] at n9) J.ft,
    J.nt.tup J.nf (fun o g => up (fun q => by simp [q] at n9) g) tk, J.wt.tup J.wf (fun o g => up (fun q => by simp [q] at n9) g) tk, J.nf, J.wf, fun k o g => ?_, ?_, fun x hx m => ?_, J.qn, J.qp, ?_, J.wm⟩, (Kp.nil_W k0).upd_mem (own9 (by simp)), t0.tr t, fun y hy => ?_, fun k o g => ⟨o, g, rfl, rfl, rfl⟩⟩
  · rw [upd_same]
    show _ = some (HO.lst ((s.line ++ [(⟨c, k, 0⟩ : Lc)]).map fun c => V.ref c.a))
    rw [List.map_append]
    rfl
  · rcases List.mem_append.mp hc with hc | hc
    · exact ⟨(J.lc c' hc).1, up (J.c9 (by simp) hc).symm (J.lc c' hc).2⟩
    · rw [List.mem_singleton.mp hc]
      exact ⟨lk, up (own0 (own9 (by simp))).symm ec⟩
  · obtain ⟨⟨dx, e1⟩, e2⟩ := J.mo k o g
    exact ⟨⟨dx, t.ins e1⟩, up (J.d9 (by simp) (List.mem_of_getElem? g)).symm e2⟩
  · have nd := J.nd
    unfold own at nd ⊢
    rw [cl]
    have nc' : ∀ x ∈ h.nine ++ (s.cells ++ s.dicts), x ≠ c := fun x hx => own0 hx
    rw [List.append_assoc s.cells]
    have p : (h.nine ++ (s.cells ++ ([c] ++ s.dicts))).Perm (c :: (h.nine ++ (s.cells ++ s.dicts))) := by
      rw [← List.append_assoc, ← List.append_assoc, List.append_assoc _ [c], ← List.append_assoc h.nine s.cells s.dicts]
      exact List.perm_middle
    rw [List.Perm.nodup_iff p, List.nodup_cons]
    exact ⟨fun m => nc' c m rfl, nd⟩
  · rcases mem x m with m | m
    · exact J.sa x hx m
    · exact nS x hx m
  · show (s.line ++ [(⟨c, k, 0⟩ : Lc)]).length ≤ _
    rw [List.length_append, List.length_singleton]
    exact lt
  · rcases mem y hy with m | rfl
    · exact .inl m
    · exact .inr nc
/-- a new module comes into the table -/
theorem HouseAt.newM (I : HouseAt K CR CM ps body H h s) (hr : ∀ p ∈ ps, ∀ x ∈ body p, RowK ps x) {Hm : Hp} {m d : Addr} {p : Str} (k0 : Kp [] H Hm) (nd0 : H d = none) (M : ModAt CM Hm m ((s.ms.length + 1 : Nat) : Int) p d []) (np : p ∉ s.ms.map (·.q)) (hp : p ∈ ps) :
    Stp K CR CM ps body h H s (upd (upd Hm h.md (.lst (s.ms.map (fun o => V.ref o.m) ++ [.ref m]))) h.st (.dK (s.ms.map (fun o => ((Sum.inr o.q : Key), V.ref o.m)) ++ [(Sum.inr p, .ref m)]))) { s with ms := s.ms ++ [⟨m, d, p, []⟩] } := by
  have J := I.same hr k0
  have own0 : ∀ {x : Addr}, x ∈ own h s → x ≠ d := fun hx q => by
    obtain ⟨_, o, e⟩ := I.notup _ hx
    rw [q, nd0] at e
    cases e
  have nS : ∀ x ∈ h.sh :: h.shs.map (·.a), x ≠ d := fun x hx q => by
    rcases List.mem_cons.mp hx with rfl | hx
    · have := I.sh; rw [q, nd0] at this; cases this
    · obtain ⟨y, hy, rfl⟩ := List.mem_map.mp hx
      have := I.shk y hy; rw [q, nd0] at this; cases this
  have n9 := J.n9
  have t1 := tik_lst (o := .lst (s.ms.map (fun o => V.ref o.m) ++ [.ref m])) J.md
  have tk1 := TupK.lst (o := .lst (s.ms.map (fun o => V.ref o.m) ++ [.ref m])) J.md
  have eSt : upd Hm h.md (.lst (s.ms.map (fun o => V.ref o.m) ++ [.ref m])) h.st = some (.dK (s.ms.map fun o => (Sum.inr o.q, V.ref o.m))) := (upd_ne (fun q => by simp [q] at n9)).trans J.st
  have t2 := tik_dic (o := .dK (s.ms.map (fun o => ((Sum.inr o.q : Key), V.ref o.m)) ++ [(Sum.inr p, .ref m)])) eSt
  have tk2 := TupK.dic (o := .dK (s.ms.map (fun o => ((Sum.inr o.q : Key), V.ref o.m)) ++ [(Sum.inr p, .ref m)])) eSt
  have t := t1.tr t2
  have tk := tk1.trans tk2
  have up : ∀ {y : Addr} {u : HO}, y ≠ h.md → y ≠ h.st → Hm y = some u → upd (upd Hm h.md (.lst (s.ms.map (fun o => V.ref o.m) ++ [.ref m]))) h.st (.dK (s.ms.map (fun o => ((Sum.inr o.q : Key), V.ref o.m)) ++ [(Sum.inr p, .ref m)])) y = some u := fun n n' g => (upd_ne n').trans ((upd_ne n).trans g)
  have eMd : upd (upd Hm h.md (.lst (s.ms.map (fun o => V.ref o.m) ++ [.ref m]))) h.st (.dK (s.ms.map (fun o => ((Sum.inr o.q : Key), V.ref o.m)) ++ [(Sum.inr p, .ref m)])) h.md = some (.lst (s.ms.map (fun o => V.ref o.m) ++ [.ref m])) := (upd_ne (fun q => by simp [q] at n9)).trans upd_same
  have eS2 : upd (upd Hm h.md (.lst (s.ms.map (fun o => V.ref o.m) ++ [.ref m]))) h.st (.dK (s.ms.map (fun o => ((Sum.inr o.q : Key), V.ref o.m)) ++ [(Sum.inr p, .ref m)])) h.st = some (.dK (s.ms.map (fun o => ((Sum.inr o.q : Key), V.ref o.m)) ++ [(Sum.inr p, .ref m)])) := upd_same
  have kp2 : Kp (own h s) H (upd (upd Hm h.md (.lst (s.ms.map (fun o => V.ref o.m) ++ [.ref m]))) h.st (.dK (s.ms.map (fun o => ((Sum.inr o.q : Key), V.ref o.m)) ++ [(Sum.inr p, .ref m)]))) := ((Kp.nil_W k0).upd_mem (own9 (by simp))).upd_mem (own9 (by simp))
  generalize upd (upd Hm h.md (.lst (s.ms.map (fun o => V.ref o.m) ++ [.ref m]))) h.st (.dK (s.ms.map (fun o => ((Sum.inr o.q : Key), V.ref o.m)) ++ [(Sum.inr p, .ref m)])) = H2 at *
  have dc : ({ s with ms := s.ms ++ [⟨m, d, p, []⟩] } : Hs).dicts = s.dicts ++ [d] := by
    show (s.ms ++ [(⟨m, d, p, []⟩ : Mo)]).map (·.d) = _
    rw [List.map_append]
    rfl
  have mem : ∀ x ∈ own h { s with ms := s.ms ++ [⟨m, d, p, []⟩] }, x ∈ own h s ∨ x = d := fun x hx => by
    unfold own at hx ⊢
    rw [dc] at hx
    simp only [List.mem_append, List.mem_singleton] at hx ⊢
    rcases hx with hx | hx | hx | hx
    · exact .inl (.inl hx)
    · exact .inl (.inr (.inl hx))
    · exact .inl (.inr (.inr hx))
    · exact .inr hx
  have eA : ∀ j, j < s.ms.length → mAt (s.ms ++ [⟨m, d, p, []⟩]) j = mAt s.ms j := fun j hj => by
    unfold mAt
    rw [List.getElem?_append_left hj]
  refine ⟨⟨up (fun q => by simp [q] at n9) (fun q => by simp [q] at n9) J.ob, up (J.sne (own9 (by simp)) List.mem_cons_self) (J.sne (own9 (by simp)) List.mem_cons_self) J.sh, fun y hy => up (J.sne (own9 (by simp)) (List.mem_cons_of_mem _ (List.mem_map.mpr ⟨y, hy, rfl⟩))) (J.sne (own9 (by simp)) (List.mem_cons_of_mem _ (List.mem_map.mpr ⟨y, hy, rfl⟩))) (J.shk y hy), fun p' hp' => ?_,
    ?_, ?_, up (fun q => by simp [q] at n9) (fun q => by simp [q] at n9) J.ln, fun c hc => ?_, up (fun q => by simp [q] at n9) (fun q => by simp [q] at n9) J.br, up (fun q => by simp [q] at n9) (fun q => by simp [q] at n9) J.mt, up (fun q => by simp [q] at n9) (fun q => by simp [q] at n9) J.ft,
    J.nt.tup J.nf (fun o g => up (fun q => by simp [q] at n9) (fun q => by simp [q] at n9) g) tk, J.wt.tup J.wf (fun o g => up (fun q => by simp [q] at n9) (fun q => by simp [q] at n9) g) tk, J.nf, J.wf, fun j o g => ?_, ?_, fun x hx m' => ?_, ?_, fun o ho => ?_, ?_, ?_⟩, kp2, (TIK.same k0).tr t, fun y hy => ?_, fun j o g => ⟨o, by show (s.ms ++ [_])[j]? = _; rw [List.getElem?_append_left (List.getElem?_eq_some_iff.mp g).1]; exact g, rfl, rfl, rfl⟩⟩
  · obtain ⟨v, f, dv⟩ := J.fnd p' hp'
    exact ⟨v, f, Dp.tups tk _ _ (body_flat hr hp') dv⟩
  · rw [eS2]
    show _ = some (HO.dK ((s.ms ++ [(⟨m, d, p, []⟩ : Mo)]).map fun o => (Sum.inr o.q, V.ref o.m)))
    rw [List.map_append]
    rfl
  · rw [eMd]
    show _ = some (HO.lst ((s.ms ++ [(⟨m, d, p, []⟩ : Mo)]).map fun o => V.ref o.m))
    rw [List.map_append]
    rfl
  · have l := (J.lc c hc).1
    refine ⟨by show c.k < (s.ms ++ [_]).length; rw [List.length_append]; omega, ?_⟩
    show _ = some (HO.lst [.ref (mAt (s.ms ++ [_]) c.k), _])
    rw [eA _ l]
    exact up (J.c9 (by simp) hc).symm (J.c9 (by simp) hc).symm (J.lc c hc).2
  · have g : (s.ms ++ [(⟨m, d, p, []⟩ : Mo)])[j]? = some o := g
    rw [List.getElem?_append] at g
    split at g
    · obtain ⟨⟨dx, e1⟩, e2⟩ := J.mo j o g
      exact ⟨⟨dx, t.ins e1⟩, up (J.d9 (by simp) (List.mem_of_getElem? g)).symm (J.d9 (by simp) (List.mem_of_getElem? g)).symm e2⟩
    · rename_i hj
      have ej : j = s.ms.length := by
        have := (List.getElem?_eq_some_iff.mp g).1
        rw [List.length_singleton] at this
        omega
      subst ej
      rw [Nat.sub_self] at g
      cases g
      obtain ⟨dx, e1⟩ := M.ob
      exact ⟨⟨dx, t.ins e1⟩, up (own0 (own9 (by simp))).symm (own0 (own9 (by simp))).symm M.dc⟩
  · have nd := J.nd
    unfold own at nd ⊢
    rw [dc]
    have nc' : ∀ x ∈ h.nine ++ (s.cells ++ s.dicts), x ≠ d := fun x hx => own0 hx
    have p : (h.nine ++ (s.cells ++ (s.dicts ++ [d]))).Perm (d :: (h.nine ++ (s.cells ++ s.dicts))) := by
      rw [← List.append_assoc, ← List.append_assoc]
      exact (List.perm_append_singleton d _).trans (by rw [List.append_assoc])
    rw [List.Perm.nodup_iff p, List.nodup_cons]
    exact ⟨fun m => nc' d m rfl, nd⟩
  · rcases mem x m' with m' | m'
    · exact J.sa x hx m'
    · exact nS x hx m'
  · show ((s.ms ++ [(⟨m, d, p, []⟩ : Mo)]).map (·.q)).Nodup
    rw [List.map_append]
    exact List.nodup_append.mpr ⟨J.qn, List.pairwise_singleton _ _, fun a ha b hb e => np (by have : b = p := List.mem_singleton.mp hb; rw [← this, ← e]; exact ha)⟩
  · rcases List.mem_append.mp ho with ho | ho
    · exact J.qp o ho
    · rw [List.mem_singleton.mp ho]; exact hp
  · have := J.lm
    show s.line.length ≤ (s.ms ++ [_]).length
    rw [List.length_append]
    omega
  · have := J.wm
    show s.waits.length ≤ (s.ms ++ [_]).length
    rw [List.length_append]
    omega
  · rcases mem y hy with m' | rfl
    · exact .inl m'
    · exact .inr nd0
end

/-! plain: the chain -/
theorem setR_last (pre : List (Nat × Nat)) (x : Nat × Nat) (r : Nat) : setR (pre ++ [x]) r = pre ++ [(x.1, r)] := by
  unfold setR
  rw [List.dropLast_concat, List.getLast?_concat]
  rfl
theorem take_line {body : Str → List PyData} : ∀ (f : Nat) (a : Ab) (p : Str), (takeF body f a p).1.line = a.line := by
  intro f
  induction f with
  | zero => exact fun a p => rfl
  | succ f ih =>
    intro a p
    simp only [takeF]
    cases h : a.ix p with
    | some k => rfl
    | none =>
      have rows : ∀ (k : Nat) (xs : List PyData) (i : Nat) (b : Ab) (pre : List (Nat × Nat)) (x : Nat × Nat), b.line = pre ++ [x] → ∃ r, (rowsF (takeF body f) k i xs b).line = pre ++ [(x.1, r)] := by
        intro k xs
        induction xs with
        | nil => exact fun i b pre x e => ⟨x.2, e⟩
        | cons y r ihr =>
          intro i b pre x e
          have e1 : (rowF (takeF body f) k y (b.row i)).line = pre ++ [(x.1, i)] := by
            have e2 : (b.row i).line = pre ++ [(x.1, i)] := by show setR b.line i = _; rw [e, setR_last]
            unfold rowF
            split
            · exact e2
            · rename_i p'
              exact (ih (b.row i) p').trans e2
            · exact e2
            · exact e2
          exact ihr (i + 1) _ pre (x.1, i) e1
      obtain ⟨r, e⟩ := rows a.qs.length (body p) 0 (a.begin p) a.line (a.qs.length, 0) rfl
      show (rowsF (takeF body f) a.qs.length 0 (body p) (a.begin p)).line.dropLast = a.line
      rw [e, List.dropLast_concat]
theorem row_line {body : Str → List PyData} {f k : Nat} {y : PyData} {b : Ab} : (rowF (takeF body f) k y b).line = b.line := by
  unfold rowF
  split
  · rfl
  · rename_i p'
    exact take_line f b p'
  · rfl
  · rfl
theorem line_last {s : Hs} {pre : List (Nat × Nat)} {x : Nat × Nat} (e : s.ab.line = pre ++ [x]) : ∃ preL c, s.line = preL ++ [c] ∧ c.k = x.1 ∧ c.r = x.2 ∧ preL.map (fun c => (c.k, c.r)) = pre := by
  have e : s.line.map (fun c => (c.k, c.r)) = pre ++ [x] := e
  rcases List.eq_nil_or_concat s.line with h | ⟨preL, c, h⟩
  · rw [h] at e; simp at e
  · rw [List.concat_eq_append] at h
    rw [h, List.map_append] at e
    obtain ⟨a, b⟩ := List.append_inj' e rfl
    have b := List.singleton_inj.mp b
    exact ⟨preL, c, h, congrArg (·.1) b, congrArg (·.2) b, a⟩
structure BodyOk (ps : List Str) (body : Str → List PyData) : Prop where
  row : ∀ p ∈ ps, ∀ x ∈ body p, RowK ps x
  len : ∀ p ∈ ps, (body p).length ≤ 40
  nm : ∀ p ∈ ps, OkN p
  few : ps.length ≤ 8
/-! fields of a house -/
section
variable (h : HA)
theorem lkR_sh : (runF h).lookup ("shelves" : Str) = some (.ref h.sh) := look_hit
theorem lkR_st : (runF h).lookup ("standing" : Str) = some (.ref h.st) := (look_cons (by decide +kernel)).trans look_hit
theorem lkR_md : (runF h).lookup ("made" : Str) = some (.ref h.md) := (look_cons (by decide +kernel)).trans ((look_cons (by decide +kernel)).trans look_hit)
theorem lkR_ln : (runF h).lookup ("line" : Str) = some (.ref h.ln) := (look_cons (by decide +kernel)).trans ((look_cons (by decide +kernel)).trans ((look_cons (by decide +kernel)).trans look_hit))
theorem lkR_br : (runF h).lookup ("broken" : Str) = some (.ref h.br) := (look_cons (by decide +kernel)).trans ((look_cons (by decide +kernel)).trans ((look_cons (by decide +kernel)).trans ((look_cons (by decide +kernel)).trans look_hit)))
theorem lkR_nt : (runF h).lookup ("notes" : Str) = some (.ref h.nt) := (look_cons (by decide +kernel)).trans ((look_cons (by decide +kernel)).trans ((look_cons (by decide +kernel)).trans ((look_cons (by decide +kernel)).trans ((look_cons (by decide +kernel)).trans ((look_cons (by decide +kernel)).trans ((look_cons (by decide +kernel)).trans look_hit))))))
theorem lkR_wt : (runF h).lookup ("waits" : Str) = some (.ref h.wt) := (look_cons (by decide +kernel)).trans ((look_cons (by decide +kernel)).trans ((look_cons (by decide +kernel)).trans ((look_cons (by decide +kernel)).trans ((look_cons (by decide +kernel)).trans ((look_cons (by decide +kernel)).trans ((look_cons (by decide +kernel)).trans ((look_cons (by decide +kernel)).trans look_hit)))))))
theorem lkR_none {m : Str} (n : (["shelves", "standing", "made", "line", "broken", "met", "fates", "notes", "waits"] : List Str).all (fun x => !decide (m = x)) = true) : (runF h).lookup m = none := by
  have e : ∀ x ∈ (["shelves", "standing", "made", "line", "broken", "met", "fates", "notes", "waits"] : List Str), decide (m = x) = false := fun x hx => by
    have := List.all_eq_true.mp n x hx
    simpa using this
  simp only [runF]
  refine (look_cons (e _ (by simp))).trans ((look_cons (e _ (by simp))).trans ((look_cons (e _ (by simp))).trans ((look_cons (e _ (by simp))).trans ((look_cons (e _ (by simp))).trans ((look_cons (e _ (by simp))).trans ((look_cons (e _ (by simp))).trans ((look_cons (e _ (by simp))).trans ((look_cons (e _ (by simp))).trans look_nil))))))))
end
theorem st_val {ms : List Mo} {p : Str} : (((ms.map (·.q)).findIdx? fun q => decide (q = p)) = none ∧ valV (ms.map fun o => ((Sum.inr o.q : Key), V.ref o.m)) (.inr p) = none) ∨
    ∃ (k : Nat) (o : Mo), ((ms.map (·.q)).findIdx? fun q => decide (q = p)) = some k ∧ ms[k]? = some o ∧ o.q = p ∧ valV (ms.map fun o => ((Sum.inr o.q : Key), V.ref o.m)) (.inr p) = some (.ref o.m) := by
  induction ms with
  | nil => exact .inl ⟨rfl, rfl⟩
  | cons o r ih =>
    by_cases c : o.q = p
    · exact .inr ⟨0, o, by rw [List.map_cons, List.findIdx?_cons, decide_eq_true c]; rfl, rfl, c, valV_pos (p := ((Sum.inr o.q : Key), V.ref o.m)) (by rw [c])⟩
    · have e1 : valV ((o :: r).map fun o => ((Sum.inr o.q : Key), V.ref o.m)) (.inr p) = valV (r.map fun o => ((Sum.inr o.q : Key), V.ref o.m)) (.inr p) := valV_neg (p := ((Sum.inr o.q : Key), V.ref o.m)) fun e => c (Sum.inr.inj e)
      rw [e1, List.map_cons, List.findIdx?_cons, decide_eq_false c]
      rcases ih with ⟨h1, h2⟩ | ⟨k, o', h1, h2, h3, h4⟩
      · exact .inl ⟨by simp [h1], h2⟩
      · exact .inr ⟨k + 1, o', by simp [h1], h2, h3, h4⟩
theorem HouseAt.ixOf {K : PySem.W.Frag} {CR CM : Addr} {ps : List Str} {body : Str → List PyData} {H : Hp} {h : HA} {s : Hs} (_ : HouseAt K CR CM ps body H h s) (p : Str) : (s.ab.ix p = none ∧ valV (s.ms.map fun o => ((Sum.inr o.q : Key), V.ref o.m)) (.inr p) = none) ∨
    ∃ (k : Nat) (o : Mo), s.ab.ix p = some k ∧ s.ms[k]? = some o ∧ o.q = p ∧ valV (s.ms.map fun o => ((Sum.inr o.q : Key), V.ref o.m)) (.inr p) = some (.ref o.m) := st_val
def spFound (K : PySem.W.Frag) (CR CM : Addr) : Sp := fun vs H Q _ => ∃ (h : HA) (s : Hs) (ps : List Str) (body : Str → List PyData) (p : Str), vs = [.ref h.self, .str p] ∧ HouseAt K CR CM ps body H h s ∧ p ∈ ps ∧ ∀ v, Dp K H v (.tuple (body p)) → Q v H
def spNoteR (K : PySem.W.Frag) (CR CM : Addr) : Sp := fun vs H Q _ => ∃ (h : HA) (s : Hs) (ps : List Str) (body : Str → List PyData) (p : Str) (pre : List Lc) (c : Lc), vs = [.ref h.self, .str p] ∧ BodyOk ps body ∧ HouseAt K CR CM ps body H h s ∧ s.line = pre ++ [c] ∧ Few s.ab ∧ s.notes.length ≤ 100000 ∧
  ∀ H' s', Stp K CR CM ps body h H s H' s' → s'.ab = s.ab.put (noteE c.k (s.ab.names p)) → Q .non H'
def spWholeR (CR : Addr) : Sp := fun vs H Q _ => ∃ (x y : V), vs = [x, y] ∧ Q .non H
section
variable {P : Program} {w : World} {K : PySem.W.Frag} {mg : Str → Option Value} {base : Heap} {C_Module C_Runs : Addr}
theorem ok_Runs_found {f : Addr} {fd : FuncData} (F : Fun K "found" "Runs.found" s_Runs_found f fd) (T : Txt K mg C_Module C_Runs)
     :
    FnOk P w K mg base CX0 1 f fd ["self", "path"] (spFound K C_Runs C_Module) := by
  refine F.ok sc_Runs_found (fun vs H Q E h => ?_) (fun cdv A outer s H vs Q E hr h => ?_)
  · obtain ⟨h, s, ps, body, p, rfl, _⟩ := h
    rfl
  · skip
    obtain ⟨h, s, ps, body, p, rfl, I, hp, q⟩ := h
    have hu := hu_of hr
    obtain ⟨v, ⟨j, x, ej, ev, lt⟩, dv⟩ := I.fnd p hp
    refine ⟨_, (pss_cons (ps_for PassesOwn.never rfl (kiL (K := K) rfl (pi_list (kFld (K := K) rfl (pe_fld (pv 0) rfl)))) (pg_name (i := 2) sc_Runs_found.nd rfl (Or.inl rfl)) (pss_one (ps_if (pt_cmp (pc_din hu (pv 1) (pv 2))) (pss_one (ps_ret (pe_dget hu (pv 2) (pv 1) (fun _ _ => rfl)))) pss_nil)))
      (pss_one (ps_ret pe_non))), ?_⟩
    refine st_start (σ' := [some (.ref h.self), some (.str p), none]) rfl ?_
    walk_at "S"
    refine s_ins I.ob T.cl_Runs T.n_Runs_shelves (lkR_sh h) ?_
    walk_at "S"
    refine ⟨⟨_, sq_l I.sh⟩, ?_⟩
    refine for_go (walk_list (K := K) (a := h.sh) (xs := h.shs.map fun x => V.ref x.a)) (fun i σ H1 => ∃ o2 : Option V, σ = [some (.ref h.self), some (.str p), o2] ∧ H1 = H ∧ i ≤ j)
      ⟨_, rfl, rfl, Nat.zero_le _⟩ (fun i σ H1 _ I1 => by obtain ⟨_, _, rfl, _⟩ := I1; exact sq_l I.sh) (fun i x' σ Ha Hb hi I1 y => ?_) fun σ H1 I1 => ?_
    · obtain ⟨rfl, hx⟩ := y
      obtain ⟨o2, rfl, rfl, le⟩ := I1
      rw [List.getElem?_map] at hx
      obtain ⟨y, ey, rfl⟩ : ∃ y, h.shs[i]? = some y ∧ x' = V.ref y.a := by
        cases e : h.shs[i]? with
        | none => rw [e] at hx; cases hx
        | some y => rw [e] at hx; exact ⟨y, rfl, (Option.some.inj hx).symm⟩
      have eD := I.shk y (List.mem_of_getElem? ey)
      walk_at "S"
      refine s_inS eD ?_
      walk_at "S"
      by_cases c : i = j
      · subst c
        rw [ej] at ey
        cases ey
        rw [ev]
        refine s_bool (fun _ => ?_) (fun h => nomatch h)
        walk_at "S"
        refine s_getS eD ev ?_
        walk_at "S"
        exact q v dv
      · rw [lt i y (by omega) ey]
        refine s_bool (fun h => nomatch h) (fun _ => ?_)
        walk_at "S"
        exact ⟨_, rfl, rfl, by omega⟩
    · obtain ⟨o2, rfl, rfl, le⟩ := I1
      have := (List.getElem?_eq_some_iff.mp ej).1
      rw [List.length_map] at le
      omega
theorem ok_Runs_came_whole {f : Addr} {fd : FuncData} (F : Fun K "came_whole" "Runs.came_whole" s_Runs_came_whole f fd) (T : Txt K mg C_Module C_Runs)
     :
    FnOk P w K mg base CX0 1 f fd ["self", "module"] (spWholeR C_Runs) := by
  refine F.ok sc_Runs_came_whole (fun vs H Q E h => ?_) (fun cdv A outer s H vs Q E hr h => ?_)
  · obtain ⟨x, y, rfl, _⟩ := h
    rfl
  · skip
    obtain ⟨x, y, rfl, q⟩ := h
    refine ⟨_, (pss_one ps_pass), ?_⟩
    refine st_start (σ' := [some x, some y]) rfl ?_
    walk_at "S"
    exact q
theorem ok_Runs_do_note {f : Addr} {fd : FuncData} (F : Fun K "do_note" "Runs.do_note" s_Runs_do_note f fd) (T : Txt K mg C_Module C_Runs)
    (D_Module_bound : DmF P w K mg base 1 C_Module "bound" ["self"] (spBound C_Module)) :
    FnOk P w K mg base CX0 2 f fd ["self", "path"] (spNoteR K C_Runs C_Module) := by
  refine F.ok sc_Runs_do_note (fun vs H Q E h => ?_) (fun cdv A outer s H vs Q E hr h => ?_)
  · obtain ⟨h, s, ps, body, p, pre, c, rfl, _⟩ := h
    rfl
  · obtain ⟨f_Module_bound, fd_Module_bound, G_Module_bound, mt_Module_bound, b_Module_bound⟩ := D_Module_bound
    obtain ⟨h, s, ps, body, p, pre, c, rfl, B, I, el, fw, ln, q⟩ := h
    have hu := hu_of hr
    have mc : c ∈ s.line := by rw [el]; simp
    refine ⟨_, (pss_cons (ps_set (i := 2) sc_Runs_do_note.nd rfl (Or.inl rfl) pe_non)
      (pss_cut2 (ps_if (pt_cmp (pc_din hu (pv 1) (kFld (K := K) rfl (pe_fld (pv 0) rfl)))) (pss_one (ps_set (i := 2) sc_Runs_do_note.nd rfl (Or.inl rfl) (pe_callTy (tupleK (K := K) rfl) (by rfl) T.n_tuple (by decide +kernel) (pa_cons (pe_meth0 (pe_dget hu (kFld (K := K) rfl (pe_fld (pv 0) rfl)) (pv 1) (fun _ _ => rfl)) T.cl_Module mt_Module_bound G_Module_bound (hr.mono (by first | decide | omega)) b_Module_bound .nil pass0) pa_nil)))) pss_nil)
      (pss_one (ps_expr (kBM (K := K) rfl (pe_bm PySem.F.plainAttrs_list PySem.F.slot_list_append PySem.F.type_list_append mt_append (kFld (K := K) rfl (pe_fld (pv 0) rfl)) (pa_cons (pe_tup (pa_cons pe_str (pa_cons (kFld (K := K) rfl (pe_fld (pe_ix (ixLK (K := K) rfl) (pe_ix (ixLK (K := K) rfl) (kFld (K := K) rfl (pe_fld (pv 0) rfl)) (pe_un un_neg pe_int) (fun _ _ => rfl)) pe_int (fun _ _ => rfl)) rfl)) (pa_cons (pv 2) pa_nil)))) pa_nil))))))), ?_⟩
    refine st_start (σ' := [some (.ref h.self), some (.str p), none]) rfl ?_
    walk_at "S"
    refine s_cut (fun σ H1 => ∃ nv : V, σ = [some (.ref h.self), some (.str p), some nv] ∧ Kp [] H H1 ∧ Dp K H1 nv (s.ab.names p) ∧ flatD (s.ab.names p) = true) (fun J hJ => ?_) ?_
    · walk_at "S"
      refine s_ins I.ob T.cl_Runs T.n_Runs_standing (lkR_st h) ?_
      refine s_inS I.st ?_
      walk_at "S"
      rcases I.ixOf p with ⟨e1, e2⟩ | ⟨k, o, e1, ek, eq, e2⟩
      · rw [e2]
        refine s_bool (fun h => nomatch h) (fun _ => ?_)
        walk_at "S"
        refine hJ _ _ ⟨_, rfl, Kp.refl, ?_, ?_⟩
        · unfold Ab.names
          rw [e1]
          exact .non
        · unfold Ab.names
          rw [e1]
          rfl
      · rw [e2]
        refine s_bool (fun _ => ?_) (fun h => nomatch h)
        obtain ⟨⟨dx, em⟩, ed⟩ := I.mo k o ek
        have lk : (o.ks.map (·.1)).length ≤ 40 := by
          have := fw.2 k
          rwa [show s.ab.nm.getD k [] = o.ks.map (·.1) from by show (s.ms.map fun o => o.ks.map (·.1)).getD k [] = _; rw [List.getD_eq_getElem?_getD, List.getElem?_map, ek]; rfl] at this
        walk_at "S"
        refine s_ins I.ob T.cl_Runs T.n_Runs_standing (lkR_st h) ?_
        walk_at "S"
        refine s_getS I.st e2 ?_
        refine s_insM em (lk_meth (m := "bound") _ _ _ (by decide +kernel)) ?_
        walk_at "S"
        refine ⟨o.m, o.d, _, o.q, o.kvs, o.ks.map (·.1), rfl, ⟨⟨dx, em⟩, ed⟩, by unfold Mo.kvs; rw [List.map_map, List.map_map]; rfl, by omega, fun ys l py sy hl => ?_⟩
        walk_at "S"
        refine s_tupL (sq_l upd_same) fun t ht => ?_
        walk_at "S"
        have en : s.ab.names p = .tuple (ys.map .str) := by
          unfold Ab.names
          rw [e1]
          show PyData.tuple ((srt (s.ab.nm.getD k [])).map .str) = _
          rw [show s.ab.nm.getD k [] = o.ks.map (·.1) from by show (s.ms.map fun o => o.ks.map (·.1)).getD k [] = _; rw [List.getD_eq_getElem?_getD, List.getElem?_map, ek]; rfl, ← srt_eq py sy]
        refine hJ _ _ ⟨_, rfl, (Kp.refl.upd_new hl).upd_new ht, ?_, ?_⟩
        · rw [en]
          exact .tup (sq_t upd_same) (dpAll_strs ys)
        · rw [en]
          exact flat_strs ys
    · rintro σ H1 ⟨nv, rfl, k1, dn, fn⟩
      have I1 := I.same B.row k1
      obtain ⟨lk, ec⟩ := I1.lc c mc
      have ok : ∃ o, s.ms[c.k]? = some o := ⟨_, List.getElem?_eq_getElem lk⟩
      obtain ⟨o, ek⟩ := ok
      obtain ⟨⟨dx, em⟩, ed⟩ := I1.mo c.k o ek
      rw [mAt_of ek] at ec
      obtain ⟨vs, en, dvs⟩ := I1.nt
      have ll : atI (s.line.map fun c => V.ref c.a) (-1) = some (.ref c.a) := by rw [el, List.map_append]; exact atI_last _ _
      walk_at "S"
      refine s_ins I1.ob T.cl_Runs T.n_Runs_notes (lkR_nt h) ?_
      walk_at "S"
      refine s_ins I1.ob T.cl_Runs T.n_Runs_line (lkR_ln h) ?_
      walk_at "S"
      refine s_ixL (sq_l I1.ln) ll ?_
      walk_at "S"
      refine s_ins em T.cl_Module T.n_Module_number (lk_num _ _ _) ?_
      walk_at "S"
      refine ⟨small_le (by simp), fun t ht => ?_⟩
      have k2 : Kp [] H1 (upd H1 t (.tup [.str "note", .int ((c.k + 1 : Nat) : Int), nv])) := Kp.refl.upd_new ht
      have I2 := I1.same B.row k2
      have en2 := k2.get trivial en
      have dt : Dp K (upd H1 t (.tup [.str "note", .int ((c.k + 1 : Nat) : Int), nv])) (.ref t) (noteE c.k (s.ab.names p)) := .tup (sq_t upd_same) (.cons (.str _) (.cons (.int _) (.cons (Dp.same k2 _ _ dn) .nil)))
      have lv : vs.length = s.notes.length := DpAll.len dvs
      have dvs2 := Dp.sameAll k2 _ _ dvs
      generalize upd H1 t (.tup [.str "note", .int ((c.k + 1 : Nat) : Int), nv]) = H2 at *
      walk_at "S"
      refine s_append en2 (small_lt (by omega)) ?_
      have st := I2.note B.row en2 dvs2 dt (by show (true && (true && (flatD _ && true))) = true; rw [fn]; rfl)
      exact q _ _ ((Stp.same B.row I (k1.tr k2)).tr st) rfl
end

/-! plain: one row -/
section
variable {ps : List Str} {body : Str → List PyData} {n : Nat}
theorem row_ok (B : BodyOk ps body) {k : Nat} {x : PyData} {b : Ab} (hx : RowK ps x) (hk : k < b.nm.length) (fb : Few b) : RowOk k b (rowF (takeF body n) k x b) := by
  have past : ∀ j, b.nm.length ≤ j → (b.nm.getD j []).length ≤ 40 := fun j _ => fb.2 j
  cases hx with
  | set => exact bind_ok hk fb.1 (Nat.le_refl _) (fun _ _ => rfl) past
  | take _ hq =>
    obtain ⟨f1, f2, f3⟩ := take_few B.len B.row n b _ hq fb
    exact bind_ok hk f1.1 f2 f3 fun j _ => f1.2 j
  | note => exact ⟨fb.1, Nat.le_refl _, fun _ _ _ => rfl, Nat.le_succ _, past⟩
theorem row_lot (B : BodyOk ps body) {k : Nat} {x : PyData} {b : Ab} (hx : RowK ps x) : (rowF (takeF body n) k x b).lot ps ≤ b.lot ps + 1 := by
  cases hx with
  | set => exact Nat.le_succ _
  | take _ hq => exact take_lot B.len B.row n b _ hq
  | note =>
    show (b.log ++ [_]).length + 43 * rem ps b ≤ _
    rw [List.length_append, List.length_singleton]
    unfold Ab.lot
    omega
theorem rows_snoc (tk : Ab → Str → Ab × Nat) (k : Nat) (x : PyData) : ∀ (xs : List PyData) (i : Nat) (a : Ab), rowsF tk k i (xs ++ [x]) a = rowF tk k x ((rowsF tk k i xs a).row (i + xs.length))
  | [], i, a => rfl
  | y :: r, i, a => by
    show rowsF tk k (i + 1) (r ++ [x]) _ = _
    rw [rows_snoc tk k x r (i + 1), List.length_cons, show i + 1 + r.length = i + (r.length + 1) by omega]
    rfl
/-- what is known while a body runs -/
structure RunOk (ps : List Str) (k i : Nat) (pre : List (Nat × Nat)) (a0 a : Ab) : Prop where
  few : Few a
  ge : a0.nm.length ≤ a.nm.length
  own : (a.nm.getD k []).length ≤ i
  rem : rem ps a ≤ rem ps a0
  lot : a.lot ps ≤ a0.lot ps + i
  line : ∃ r, a.line = pre ++ [(k, r)]
theorem RunOk.start {k : Nat} {pre : List (Nat × Nat)} {a : Ab} {r : Nat} (f : Few a) (e : a.nm.getD k [] = []) (l : a.line = pre ++ [(k, r)]) : RunOk ps k 0 pre a a :=
  ⟨f, Nat.le_refl _, by rw [e]; exact Nat.le_refl _, Nat.le_refl _, Nat.le_refl _, r, l⟩
theorem RunOk.row {k i : Nat} {pre : List (Nat × Nat)} {a0 a : Ab} (R : RunOk ps k i pre a0 a) (j : Nat) : RunOk ps k i pre a0 (a.row j) ∧ (a.row j).line = pre ++ [(k, j)] := by
  obtain ⟨r, e⟩ := R.line
  have e2 : (a.row j).line = pre ++ [(k, j)] := by show setR a.line j = _; rw [e, setR_last]
  exact ⟨⟨R.few, R.ge, R.own, R.rem, R.lot, j, e2⟩, e2⟩
theorem RunOk.step (B : BodyOk ps body) {k i : Nat} {pre : List (Nat × Nat)} {a0 a : Ab} (R : RunOk ps k i pre a0 a) {x : PyData} (hx : RowK ps x) (hk : k < a.nm.length) (hi : i < 40) : RunOk ps k (i + 1) pre a0 (rowF (takeF body n) k x a) := by
  have r1 := row_ok B (n := n) hx hk R.few
  obtain ⟨more, em⟩ := rows_qs (body := body) (f := n) k x a
  refine ⟨⟨r1.len, fun j => ?_⟩, Nat.le_trans R.ge r1.ge, Nat.le_trans r1.own (by have := R.own; omega), Nat.le_trans (rem_more em) R.rem, Nat.le_trans (row_lot B hx) (by have := R.lot; omega), ?_⟩
  · by_cases c : j = k
    · subst c
      have := r1.own
      have := R.own
      omega
    · by_cases l : j < a.nm.length
      · rw [r1.same j l c]; exact R.few.2 j
      · exact r1.new j (by omega)
  · rw [row_line]
    exact R.line
end
theorem Stp.tup {K : PySem.W.Frag} {CR CM : Addr} {ps : List Str} {body : Str → List PyData} {h : HA} {H H1 : Hp} {s s1 : Hs} (I : HouseAt K CR CM ps body H h s) (a : Stp K CR CM ps body h H s H1 s1) : TupK H H1 := .of a.kp fun x hx => (I.notup x hx).1
theorem few_at {s : Hs} (fw : Few s.ab) {k : Nat} {o : Mo} (ek : s.ms[k]? = some o) : o.ks.length ≤ 40 := by
  have := fw.2 k
  rwa [show s.ab.nm.getD k [] = o.ks.map (·.1) from by show (s.ms.map fun o => o.ks.map (·.1)).getD k [] = _; rw [List.getD_eq_getElem?_getD, List.getElem?_map, ek]; rfl, List.length_map] at this
theorem ab_bind {s : Hs} {k : Nat} {o : Mo} (ek : s.ms[k]? = some o) {z : Str} {ks' : List (Str × V)} (e2 : ks'.map (·.1) = putN (o.ks.map (·.1)) z) : ({ s with ms := s.ms.set k ⟨o.m, o.d, o.q, ks'⟩ } : Hs).ab = s.ab.bind k z := by
  have a1 : (s.ms.set k ⟨o.m, o.d, o.q, ks'⟩).map (·.q) = s.ms.map (·.q) := by
    rw [List.map_set]
    refine List.ext_getElem? fun j => ?_
    rw [List.getElem?_set]
    split
    · rename_i c
      subst c
      split
      · rw [List.getElem?_map, ek]; rfl
      · rename_i c
        rw [List.getElem?_eq_none (by omega)]
    · rfl
  have a2 : (s.ms.map fun o => o.ks.map (·.1)).getD k [] = o.ks.map (·.1) := by rw [List.getD_eq_getElem?_getD, List.getElem?_map, ek]; rfl
  unfold Hs.ab Ab.bind
  dsimp only
  rw [a1, a2, List.map_set, e2]
theorem seqT_tups {K : PySem.W.Frag} {H H' : Hp} {a : Addr} {xs : List V} (k : TupK H H') (h : SqT K H a xs) : SqT K H' a xs := h.elim (fun h => .inl (k _ _ h)) .inr
theorem ab_row {s : Hs} {pre : List Lc} {c : Lc} (e : s.line = pre ++ [c]) (r : Nat) : ({ s with line := pre ++ [⟨c.a, c.k, r⟩] } : Hs).ab = s.ab.row r := by
  unfold Hs.ab Ab.row
  dsimp only
  rw [e, List.map_append, List.map_append]
  show _ = Ab.mk _ _ _ _ (setR (_ ++ [(c.k, c.r)]) r)
  rw [setR_last]
  rfl
def spTakenR (K : PySem.W.Frag) (CR CM : Addr) (n : Nat) : Sp := fun vs H Q _ => ∃ (h : HA) (s : Hs) (ps : List Str) (body : Str → List PyData) (p : Str), vs = [.ref h.self, .str p] ∧ BodyOk ps body ∧ HouseAt K CR CM ps body H h s ∧ p ∈ ps ∧ Few s.ab ∧ rem ps s.ab < n ∧ s.ab.lot ps ≤ 5000 ∧
  ∀ H' s' o, Stp K CR CM ps body h H s H' s' → s'.ab = (takeF body n s.ab p).1 → s'.ms[(takeF body n s.ab p).2]? = some o → Q (.ref o.m) H'
def spDoR (K : PySem.W.Frag) (CR CM : Addr) (n : Nat) : Sp := fun vs H Q _ => ∃ (h : HA) (s : Hs) (ps : List Str) (body : Str → List PyData) (v : V) (x : PyData) (pre : List Lc) (c : Lc), vs = [.ref h.self, v] ∧ BodyOk ps body ∧ HouseAt K CR CM ps body H h s ∧ s.line = pre ++ [c] ∧ Dp K H v x ∧ RowK ps x ∧ Few s.ab ∧ rem ps s.ab < n ∧ s.ab.lot ps ≤ 5000 ∧
  ∀ H' s', Stp K CR CM ps body h H s H' s' → s'.ab = rowF (takeF body n) c.k x s.ab → Q .non H'
def spDoBodyR (K : PySem.W.Frag) (CR CM : Addr) (n : Nat) : Sp := fun vs H Q _ => ∃ (h : HA) (s : Hs) (ps : List Str) (body : Str → List PyData) (p : Str) (v : V) (pre : List Lc) (c : Lc), vs = [.ref h.self, v] ∧ BodyOk ps body ∧ HouseAt K CR CM ps body H h s ∧ s.line = pre ++ [c] ∧ p ∈ ps ∧ Dp K H v (.tuple (body p)) ∧ Few s.ab ∧ s.ab.nm.getD c.k [] = [] ∧ rem ps s.ab < n ∧ s.ab.lot ps ≤ 4958 ∧
  ∀ H' s', Stp K CR CM ps body h H s H' s' → s'.ab = rowsF (takeF body n) c.k 0 (body p) s.ab → Q .non H'
section
variable {P : Program} {w : World} {K : PySem.W.Frag} {mg : Str → Option Value} {base : Heap} {C_Module C_Runs : Addr} {n : Nat}
theorem ok_Runs_do {f : Addr} {fd : FuncData} (F : Fun K "do" "Runs.do" s_Runs_do f fd) (T : Txt K mg C_Module C_Runs)
    (D_Module_bind : DmF P w K mg base 1 C_Module "bind" ["self", "name", "thing"] (spBind C_Module)) (D_Runs_taken : DmF P w K mg base (6 * n + 10) C_Runs "taken" ["self", "path"] (spTakenR K C_Runs C_Module n)) (D_Runs_do_note : DmF P w K mg base 2 C_Runs "do_note" ["self", "path"] (spNoteR K C_Runs C_Module)) :
    FnOk P w K mg base CX0 (6 * n + 11) f fd ["self", "row"] (spDoR K C_Runs C_Module n) := by
  refine F.ok sc_Runs_do (fun vs H Q E h => ?_) (fun cdv A outer s H vs Q E hr h => ?_)
  · obtain ⟨h, s, ps, body, v, x, pre, c, rfl, _⟩ := h
    rfl
  · obtain ⟨f_Module_bind, fd_Module_bind, G_Module_bind, mt_Module_bind, b_Module_bind⟩ := D_Module_bind; obtain ⟨f_Runs_taken, fd_Runs_taken, G_Runs_taken, mt_Runs_taken, b_Runs_taken⟩ := D_Runs_taken; obtain ⟨f_Runs_do_note, fd_Runs_do_note, G_Runs_do_note, mt_Runs_do_note, b_Runs_do_note⟩ := D_Runs_do_note
    obtain ⟨h, s, ps, body, v, x, pre, c, rfl, B, I, el, dx, hx, fw, rm, lt, q⟩ := h
    have hu := hu_of hr
    refine ⟨_, (pss_cons (ps_set (i := 2) sc_Runs_do.nd rfl (Or.inl rfl) (pe_ix (ixLK (K := K) rfl) (pe_ix (ixLK (K := K) rfl) (kFld (K := K) rfl (pe_fld (pv 0) rfl)) (pe_un un_neg pe_int) (fun _ _ => rfl)) pe_int (fun _ _ => rfl)))
      (pss_one (ps_if (pt_cmpR op_eq (pe_ix (ixTK (K := K) rfl) (pv 1) pe_int (fun _ _ => rfl)) pe_str (nomark _)) (pss_one (ps_expr (pe_meth (pv 2) T.cl_Module mt_Module_bind G_Module_bind (hr.mono (by first | decide | omega)) b_Module_bind .nil pass0 (pa_cons (pe_ix (ixTK (K := K) rfl) (pv 1) pe_int (fun _ _ => rfl)) (pa_cons (pe_ix (ixTK (K := K) rfl) (pv 1) pe_int (fun _ _ => rfl)) pa_nil))))) (pss_one (ps_if (pt_cmpR op_eq (pe_ix (ixTK (K := K) rfl) (pv 1) pe_int (fun _ _ => rfl)) pe_str (nomark _)) (pss_one (ps_expr (pe_meth (pv 2) T.cl_Module mt_Module_bind G_Module_bind (hr.mono (by first | decide | omega)) b_Module_bind .nil pass0 (pa_cons (pe_ix (ixTK (K := K) rfl) (pv 1) pe_int (fun _ _ => rfl)) (pa_cons (pe_meth (pv 0) T.cl_Runs mt_Runs_taken G_Runs_taken (hr.mono (by first | decide | omega)) b_Runs_taken .nil pass0 (pa_cons (pe_ix (ixTK (K := K) rfl) (pv 1) pe_int (fun _ _ => rfl)) pa_nil)) pa_nil))))) (pss_one (ps_if (pt_cmpR op_eq (pe_ix (ixTK (K := K) rfl) (pv 1) pe_int (fun _ _ => rfl)) pe_str (nomark _)) (pss_one (ps_expr (pe_meth (pv 0) T.cl_Runs mt_Runs_do_note G_Runs_do_note (hr.mono (by first | decide | omega)) b_Runs_do_note .nil pass0 (pa_cons (pe_ix (ixTK (K := K) rfl) (pv 1) pe_int (fun _ _ => rfl)) pa_nil)))) (pss_one (ps_expr pe_never))))))))), ?_⟩
    refine st_start (σ' := [some (.ref h.self), some v, none]) rfl ?_
    have mc : c ∈ s.line := by rw [el]; simp
    obtain ⟨lk, ec⟩ := I.lc c mc
    obtain ⟨o, ek⟩ : ∃ o, s.ms[c.k]? = some o := ⟨_, List.getElem?_eq_getElem lk⟩
    obtain ⟨⟨ox, em⟩, ed⟩ := I.mo c.k o ek
    rw [mAt_of ek] at ec
    have ll : atI (s.line.map fun c => V.ref c.a) (-1) = some (.ref c.a) := by rw [el, List.map_append]; exact atI_last _ _
    walk_at "S"
    refine s_ins I.ob T.cl_Runs T.n_Runs_line (lkR_ln h) ?_
    walk_at "S"
    refine s_ixL (sq_l I.ln) ll ?_
    walk_at "S"
    cases hx with
    | @set z m hz hm =>
      cases dx with
      | tup hs ha =>
        obtain _ | ⟨h0, _ | ⟨h1, _ | ⟨h2, h3⟩⟩⟩ := ha
        cases h3
        cases h0
        cases h1
        cases h2
        obtain ⟨ks', e1, e2, st⟩ := I.bind B.row ek z (.int m)
        walk_at "S"
        refine s_dec (fun _ => ?_) (fun h => absurd rfl h)
        walk_at "S"
        refine s_insM em (lk_meth (m := "bind") _ _ _ (by decide +kernel)) ?_
        walk_at "S"
        refine ⟨o.m, o.d, _, o.q, z, .int m, o.kvs, rfl, ⟨⟨ox, em⟩, ed⟩, by rw [List.length_map]; have := few_at fw ek; omega, ?_⟩
        walk_at "S"
        exact q _ _ st (ab_bind ek e2)
    | @take z p hz hp =>
      cases dx with
      | tup hs ha =>
        obtain _ | ⟨h0, _ | ⟨h1, _ | ⟨h2, h3⟩⟩⟩ := ha
        cases h3
        cases h0
        cases h1
        cases h2
        walk_at "S"
        refine s_dec (fun h => absurd (V.str.inj h) (by decide +kernel)) (fun _ => ?_)
        walk_at "S"
        refine s_dec (fun _ => ?_) (fun h => absurd rfl h)
        walk_at "S"
        refine s_insM em (lk_meth (m := "bind") _ _ _ (by decide +kernel)) ?_
        walk_at "S"
        refine s_insM I.ob (lkR_none h (m := "taken") (by decide +kernel)) ?_
        walk_at "S"
        refine ⟨h, s, ps, body, p, rfl, B, I, hp, fw, rm, lt, fun H1 s1 o1 st1 ea1 eo1 => ?_⟩
        walk_at "S"
        obtain ⟨o', ek', q1, q2, q3⟩ := st1.ext c.k o ek
        obtain ⟨⟨ox', em'⟩, ed'⟩ := st1.at_.mo c.k o' ek'
        obtain ⟨ks', e1, e2, st⟩ := st1.at_.bind B.row ek' z (.ref o1.m)
        have fw1 : Few s1.ab := by rw [ea1]; exact (take_few B.len B.row n _ p hp fw).1
        rw [← q1]
        refine ⟨o'.m, o'.d, _, o'.q, z, .ref o1.m, o'.kvs, rfl, ⟨⟨ox', em'⟩, ed'⟩, by rw [List.length_map]; have := few_at fw1 ek'; omega, ?_⟩
        walk_at "S"
        refine q _ _ (st1.tr st) ((ab_bind ek' e2).trans ?_)
        rw [ea1]
        rfl
    | @note p hp =>
      cases dx with
      | tup hs ha =>
        obtain _ | ⟨h0, _ | ⟨h1, h2⟩⟩ := ha
        cases h2
        cases h0
        cases h1
        walk_at "S"
        refine s_dec (fun h => absurd (V.str.inj h) (by decide +kernel)) (fun _ => ?_)
        walk_at "S"
        refine s_dec (fun h => absurd (V.str.inj h) (by decide +kernel)) (fun _ => ?_)
        walk_at "S"
        refine s_dec (fun _ => ?_) (fun h => absurd rfl h)
        walk_at "S"
        refine s_insM I.ob (lkR_none h (m := "do_note") (by decide +kernel)) ?_
        walk_at "S"
        refine ⟨h, s, ps, body, p, pre, c, rfl, B, I, el, fw, ?_, fun H1 s1 st ea => ?_⟩
        · have : s.notes.length + 43 * rem ps s.ab ≤ 5000 := lt
          omega
        · walk_at "S"
          exact q _ _ st ea
theorem ok_Runs_do_body {f : Addr} {fd : FuncData} (F : Fun K "do_body" "Runs.do_body" s_Runs_do_body f fd) (T : Txt K mg C_Module C_Runs)
    (D_Runs_do : DmF P w K mg base (6 * n + 11) C_Runs "do" ["self", "row"] (spDoR K C_Runs C_Module n)) :
    FnOk P w K mg base CX0 (6 * n + 12) f fd ["self", "body"] (spDoBodyR K C_Runs C_Module n) := by
  refine F.ok sc_Runs_do_body (fun vs H Q E h => ?_) (fun cdv A outer s H vs Q E hr h => ?_)
  · obtain ⟨h, s, ps, body, p, v, pre, c, rfl, _⟩ := h
    rfl
  · obtain ⟨f_Runs_do, fd_Runs_do, G_Runs_do, mt_Runs_do, b_Runs_do⟩ := D_Runs_do
    obtain ⟨h, s, ps, body, p, v, pre, c, rfl, B, I, el, hp, dv, fw, e0, rm, lt, q⟩ := h
    have hu := hu_of hr
    refine ⟨_, (pss_one (ps_for PassesOwn.never rfl (pi_enumT (K := K) rfl (by rfl) T.n_enumerate (pa_cons (pv 1) pa_nil)) (kgT (K := K) rfl (pg_tup rfl (pgs_cons (pg_name (i := 2) sc_Runs_do_body.nd rfl (Or.inl rfl)) (pgs_cons (pg_name (i := 3) sc_Runs_do_body.nd rfl (Or.inl rfl)) pgs_nil)))) (pss_cons (ps_asg (pv 2) (pg_sub (pe_ix (ixLK (K := K) rfl) (kFld (K := K) rfl (pe_fld (pv 0) rfl)) (pe_un un_neg pe_int) (fun _ _ => rfl)) pe_int set_list))
      (pss_one (ps_expr (pe_meth (pv 0) T.cl_Runs mt_Runs_do G_Runs_do (hr.mono (by first | decide | omega)) b_Runs_do .nil pass0 (pa_cons (pv 3) pa_nil))))))), ?_⟩
    refine st_start (σ' := [some (.ref h.self), some v, none, none]) rfl ?_
    walk_at "S"
    cases dv with
    | tup hs ha =>
      rename_i a vs
      have el2 : vs.length = (body p).length := DpAll.len ha
      have fl := body_flat B.row hp
      refine s_iEnumT ?_
      walk_at "S"
      refine ⟨a, vs, rfl, hs, ?_⟩
      refine for_go (walk_enumT (K := K) (a := a) (xs := vs)) (fun i σ Hi => ∃ (si : Hs) (o2 o3 : Option V), σ = [some (.ref h.self), some (.ref a), o2, o3] ∧ Stp K C_Runs C_Module ps body h H s Hi si ∧ si.ab = rowsF (takeF body n) c.k 0 ((body p).take i) s.ab ∧ RunOk ps c.k i (pre.map fun c => (c.k, c.r)) s.ab si.ab)
        ⟨s, _, _, rfl, .refl I, by rw [List.take_zero]; rfl, .start (r := c.r) fw e0 (by show s.line.map _ = _; rw [el, List.map_append]; rfl)⟩ (fun i σ Hi _ Ii => ?_) (fun i x σ Ha Hb hi Ii y => ?_) fun σ Hi Ii => ?_
      · obtain ⟨si, o2, o3, rfl, st, _⟩ := Ii
        exact seqT_tups (st.tup I) hs
      · obtain ⟨si, o2, o3, rfl, st, ea, R⟩ := Ii
        obtain ⟨t, b, u, rfl, ht, rfl, eb, ex⟩ := y
        cases eb
        have hi2 : i < (body p).length := by omega
        obtain ⟨u', eu, du, mu⟩ := dpAll_nth ha i hi2
        have ex := (Option.some.inj (eu.symm.trans ex)).symm
        subst ex
        have en : (body p)[i]? = some (nth (body p) i) := by
          unfold nth
          rw [List.getD_eq_getElem?_getD, List.getElem?_eq_getElem hi2]
          rfl
        have l40 := B.len p hp
        have k1 : Kp [] Ha (upd Ha t (.tup [.int (i : Nat), u])) := Kp.refl.upd_new ht
        have st1 := st.tr (Stp.same B.row st.at_ k1)
        obtain ⟨r0, er⟩ := R.line
        obtain ⟨preL, ci, eli, eci, _, epr⟩ := line_last er
        have eci : ci.k = c.k := eci
        have hx := B.row p hp _ mu
        have I2 := st1.at_
        have ee : upd Ha t (.tup [.int (i : Nat), u]) t = some (.tup [.int (i : Nat), u]) := upd_same
        have tk1 := st1.tup I
        generalize upd Ha t (.tup [.int (i : Nat), u]) = Hb at *
        have mci : ci ∈ si.line := by rw [eli]; simp
        obtain ⟨lki, eci2⟩ := I2.lc ci mci
        have ll : atI (si.line.map fun c => V.ref c.a) (-1) = some (.ref ci.a) := by rw [eli, List.map_append]; exact atI_last _ _
        refine s_gtup (sq_t ee) rfl ?_
        walk_at "S"
        refine s_ins I2.ob T.cl_Runs T.n_Runs_line (lkR_ln h) ?_
        walk_at "S"
        refine s_ixL (sq_l I2.ln) ll ?_
        walk_at "S"
        rw [show ([V.ref (mAt si.ms ci.k), V.int ((ci.r : Nat) : Int)].set (Int.toNat 1) (V.int (i : Nat))) = [V.ref (mAt si.ms ci.k), V.int (i : Nat)] from rfl]
        have st2 := st1.tr (I2.row B.row eli i)
        have ea2 := ab_row eli i
        have R2 := (R.row i).1
        rw [← ea2] at R2
        have I3 := st2.at_
        have tk2 := st2.tup I
        generalize upd Hb ci.a (.lst [.ref (mAt si.ms ci.k), .int (i : Nat)]) = Hc at *
        refine s_insM I3.ob (lkR_none h (m := "do") (by decide +kernel)) ?_
        walk_at "S"
        have hk : c.k < ({ si with line := preL ++ [⟨ci.a, ci.k, i⟩] } : Hs).ab.nm.length := by
          show c.k < (si.ms.map _).length
          rw [List.length_map, ← eci]
          exact lki
        refine ⟨h, _, ps, body, u, _, preL, ⟨ci.a, ci.k, i⟩, rfl, B, I3, rfl, Dp.tups tk2 _ _ hx.flatD du, hx, R2.few, Nat.lt_of_le_of_lt R2.rem rm, by have := R2.lot; omega, fun H4 s4 st4 ea4 => ?_⟩
        walk_at "S"
        refine ⟨s4, _, _, rfl, st2.tr st4, ?_, ?_⟩
        · rw [ea4, take_put en, rows_snoc, ea2, ea]
          show rowF (takeF body n) ci.k _ _ = _
          rw [eci, List.length_take, Nat.zero_add, Nat.min_eq_left (by omega)]
        · rw [ea4]
          have := R2.step B (n := n) hx hk (by omega)
          rw [← eci] at this ⊢
          exact this
      · obtain ⟨si, o2, o3, rfl, st, ea, R⟩ := Ii
        rw [List.take_of_length_le (by omega)] at ea
        walk_at "S"
        exact q _ _ st ea
end

def Ab.open_ (a : Ab) (k : Nat) : Ab := { a with pap := a.pap ++ [papE k a.line], line := a.line ++ [(k, 0)] }
theorem pap_shape (k : Nat) (l : List (Nat × Nat)) : flatD (papE k l) = true := by
  unfold papE
  split <;> rfl
/-- what a whole body leaves -/
theorem rows_run {ps : List Str} {body : Str → List PyData} {n : Nat} (B : BodyOk ps body) {k : Nat} {pre : List (Nat × Nat)} {a0 : Ab} : ∀ (xs : List PyData) (i : Nat) (a : Ab), (∀ x ∈ xs, RowK ps x) → RunOk ps k i pre a0 a → k < a.nm.length → i + xs.length ≤ 40 → RunOk ps k (i + xs.length) pre a0 (rowsF (takeF body n) k i xs a)
  | [], i, a, _, R, _, _ => R
  | x :: r, i, a, hx, R, hk, hl => by
    rw [List.length_cons] at hl
    have R1 := (R.row i).1
    have R2 := R1.step B (n := n) (hx x List.mem_cons_self) hk (by omega)
    have := rows_run B (n := n) r (i + 1) _ (fun y hy => hx y (List.mem_cons_of_mem _ hy)) R2 (Nat.lt_of_lt_of_le hk (row_ok B (n := n) (b := a.row i) (hx x List.mem_cons_self) hk R1.few).ge) (by omega)
    rw [List.length_cons, show i + (r.length + 1) = i + 1 + r.length by omega]
    exact this
theorem few_begin {a : Ab} {p : Str} (fw : Few a) : Few (a.begin p) := ⟨by show (a.nm ++ [[]]).length = (a.qs ++ [p]).length; rw [List.length_append, List.length_append, fw.1]; rfl, fun j => by
  show ((a.nm ++ [[]]).getD j []).length ≤ 40
  rw [List.getD_eq_getElem?_getD, List.getElem?_append]
  split
  · have := fw.2 j
    rwa [List.getD_eq_getElem?_getD] at this
  · rcases Nat.eq_zero_or_pos (j - a.nm.length) with e | e
    · rw [e]; simp
    · rw [List.getElem?_eq_none (by rw [List.length_singleton]; exact e)]; simp⟩
theorem HouseAt.ms8 {K : PySem.W.Frag} {CR CM : Addr} {ps : List Str} {body : Str → List PyData} {H : Hp} {h : HA} {s : Hs} (I : HouseAt K CR CM ps body H h s) (B : BodyOk ps body) : s.ms.length ≤ 8 := by
  have := List.Nodup.length_le_of_subset (l₂ := ps) I.qn fun x hx => by
    obtain ⟨o, ho, rfl⟩ := List.mem_map.mp hx
    exact I.qp o ho
  rw [List.length_map] at this
  have := B.few
  omega
theorem putK_new {ms : List Mo} {p : Str} {v : V} (h : p ∉ ms.map (·.q)) : putK (ms.map fun o => ((Sum.inr o.q : Key), V.ref o.m)) (.inr p) v = ms.map (fun o => ((Sum.inr o.q : Key), V.ref o.m)) ++ [(Sum.inr p, v)] := by
  unfold putK
  rw [if_neg]
  intro e
  obtain ⟨kv, hkv, e⟩ := List.any_eq_true.mp e
  obtain ⟨o, ho, rfl⟩ := List.mem_map.mp hkv
  exact h (List.mem_map.mpr ⟨o, ho, Sum.inr.inj (of_decide_eq_true e)⟩)
def spRunBodyR (K : PySem.W.Frag) (CR CM : Addr) (n : Nat) : Sp := fun vs H Q _ => ∃ (h : HA) (s : Hs) (ps : List Str) (body : Str → List PyData) (p : Str) (v : V) (k : Nat) (o : Mo), vs = [.ref h.self, .ref o.m, v] ∧ BodyOk ps body ∧ HouseAt K CR CM ps body H h s ∧ s.ms[k]? = some o ∧ p ∈ ps ∧ Dp K H v (.tuple (body p)) ∧ Few s.ab ∧ s.ab.nm.getD k [] = [] ∧ rem ps s.ab < n ∧ s.ab.lot ps ≤ 4958 ∧ s.line.length < s.ms.length ∧ s.waits.length < s.ms.length ∧ s.ms.length ≤ 100 ∧
  ∀ H' s', Stp K CR CM ps body h H s H' s' → s'.ab = (rowsF (takeF body n) k 0 (body p) (s.ab.open_ k)).fin k → Q .non H'
section
variable {P : Program} {w : World} {K : PySem.W.Frag} {mg : Str → Option Value} {base : Heap} {C_Module C_Runs : Addr} {n : Nat}
theorem ok_Runs_run_body {f : Addr} {fd : FuncData} (F : Fun K "run_body" "Runs.run_body" s_Runs_run_body f fd) (T : Txt K mg C_Module C_Runs)
    (D_Runs_do_body : DmF P w K mg base (6 * n + 12) C_Runs "do_body" ["self", "body"] (spDoBodyR K C_Runs C_Module n)) :
    FnOk P w K mg base CX0 (6 * n + 13) f fd ["self", "module", "body"] (spRunBodyR K C_Runs C_Module n) := by
  refine F.ok sc_Runs_run_body (fun vs H Q E h => ?_) (fun cdv A outer s H vs Q E hr h => ?_)
  · obtain ⟨h, s, ps, body, p, v, k, o, rfl, _⟩ := h
    rfl
  · obtain ⟨f_Runs_do_body, fd_Runs_do_body, G_Runs_do_body, mt_Runs_do_body, b_Runs_do_body⟩ := D_Runs_do_body
    obtain ⟨h, s, ps, body, p, v, k, o, rfl, B, I, ek, hp, dv, fw, e0, rm, lt, ll, lw, lm, q⟩ := h
    have hu := hu_of hr
    refine ⟨_, (pss_cons (ps_set (i := 3) sc_Runs_run_body.nd rfl (Or.inl rfl) pe_non)
      (pss_cons (ps_set (i := 4) sc_Runs_run_body.nd rfl (Or.inl rfl) pe_non)
      (pss_cut2 (ps_if (pt_cmpR (neNilK (K := K) rfl hr.units) (kFld (K := K) rfl (pe_fld (pv 0) rfl)) (pe_lst pa_nil) (nomark _)) (pss_cons (ps_set (i := 3) sc_Runs_run_body.nd rfl (Or.inl rfl) (kFld (K := K) rfl (pe_fld (pe_ix (ixLK (K := K) rfl) (pe_ix (ixLK (K := K) rfl) (kFld (K := K) rfl (pe_fld (pv 0) rfl)) (pe_un un_neg pe_int) (fun _ _ => rfl)) pe_int (fun _ _ => rfl)) rfl)))
      (pss_one (ps_set (i := 4) sc_Runs_run_body.nd rfl (Or.inl rfl) (pe_ix (ixLK (K := K) rfl) (pe_ix (ixLK (K := K) rfl) (kFld (K := K) rfl (pe_fld (pv 0) rfl)) (pe_un un_neg pe_int) (fun _ _ => rfl)) pe_int (fun _ _ => rfl))))) pss_nil)
      (pss_cons (ps_expr (kBM (K := K) rfl (pe_bm PySem.F.plainAttrs_list PySem.F.slot_list_append PySem.F.type_list_append mt_append (kFld (K := K) rfl (pe_fld (pv 0) rfl)) (pa_cons (pe_tup (pa_cons (kFld (K := K) rfl (pe_fld (pv 1) rfl)) (pa_cons (pv 3) (pa_cons (pv 4) pa_nil)))) pa_nil))))
      (pss_cons (ps_expr (kBM (K := K) rfl (pe_bm PySem.F.plainAttrs_list PySem.F.slot_list_append PySem.F.type_list_append mt_append (kFld (K := K) rfl (pe_fld (pv 0) rfl)) (pa_cons (pe_lst (pa_cons (pv 1) (pa_cons pe_int pa_nil))) pa_nil))))
      (pss_cons (ps_try_thru0 (pss_one (ps_expr (pe_meth (pv 0) T.cl_Runs mt_Runs_do_body G_Runs_do_body (hr.mono (by first | decide | omega)) b_Runs_do_body .nil pass0 (pa_cons (pv 2) pa_nil)))))
      (pss_cons (ps_expr (kBM0 (K := K) rfl (pe_bm0 PySem.F.plainAttrs_list PySem.F.slot_list_pop PySem.F.type_list_pop mt_pop (kFld (K := K) rfl (pe_fld (pv 0) rfl)))))
      (pss_one (ps_expr (kBM (K := K) rfl (pe_bm PySem.F.plainAttrs_list PySem.F.slot_list_append PySem.F.type_list_append mt_append (kFld (K := K) rfl (pe_fld (pv 0) rfl)) (pa_cons (pe_tup (pa_cons pe_str (pa_cons (kFld (K := K) rfl (pe_fld (pv 1) rfl)) pa_nil))) pa_nil)))))))))))), ?_⟩
    refine st_start (σ' := [some (.ref h.self), some (.ref o.m), some v, none, none, none]) rfl ?_
    have hk := (List.getElem?_eq_some_iff.mp ek).1
    walk_at "S"
    refine s_cut (fun σ H1 => ∃ (bv av : V) (x y : PyData), σ = [some (.ref h.self), some (.ref o.m), some v, some bv, some av, none] ∧ Kp [] H H1 ∧ papE k s.ab.line = .tuple [numD k, x, y] ∧ (∀ H, Dp K H bv x) ∧ ∀ H, Dp K H av y) (fun J hJ => ?_) ?_
    · walk_at "S"
      refine s_ins I.ob T.cl_Runs T.n_Runs_line (lkR_ln h) ?_
      refine ⟨small_le (by simp), fun l hl => ?_⟩
      have k1 : Kp [] H (upd H l (.lst [])) := Kp.refl.upd_new hl
      have I1 := I.same B.row k1
      refine s_nil0 (sq_l I1.ln) (sq_l upd_same) ?_
      walk_at "S"
      rcases List.eq_nil_or_concat s.line with e | ⟨preL, c, e⟩
      · rw [e]
        refine s_bool (fun h => nomatch h) (fun _ => ?_)
        walk_at "S"
        refine hJ _ _ ⟨_, _, .none, .none, rfl, k1, ?_, fun _ => .non, fun _ => .non⟩
        unfold papE
        rw [show s.ab.line = [] from by show s.line.map _ = _; rw [e]; rfl]
        rfl
      · rw [List.concat_eq_append] at e
        rw [show (!(s.line.map fun c => V.ref c.a).isEmpty) = true from by rw [e]; simp]
        refine s_bool (fun _ => ?_) (fun h => nomatch h)
        generalize upd H l (.lst []) = H1 at *
        have mc : c ∈ s.line := by rw [e]; simp
        obtain ⟨lk, ec⟩ := I1.lc c mc
        obtain ⟨oc, eoc⟩ : ∃ o, s.ms[c.k]? = some o := ⟨_, List.getElem?_eq_getElem lk⟩
        obtain ⟨⟨ox, em⟩, ed⟩ := I1.mo c.k oc eoc
        rw [mAt_of eoc] at ec
        have lla : atI (s.line.map fun c => V.ref c.a) (-1) = some (.ref c.a) := by rw [e, List.map_append]; exact atI_last _ _
        walk_at "S"
        refine s_ins I1.ob T.cl_Runs T.n_Runs_line (lkR_ln h) ?_
        walk_at "S"
        refine s_ixL (sq_l I1.ln) lla ?_
        walk_at "S"
        refine s_ins em T.cl_Module T.n_Module_number (lk_num _ _ _) ?_
        walk_at "S"
        refine s_ins I1.ob T.cl_Runs T.n_Runs_line (lkR_ln h) ?_
        walk_at "S"
        refine s_ixL (sq_l I1.ln) lla ?_
        walk_at "S"
        refine hJ _ _ ⟨_, _, numD c.k, .int (c.r : Nat), rfl, k1, ?_, fun _ => .int _, fun _ => .int _⟩
        unfold papE
        rw [show s.ab.line.getLast? = some (c.k, c.r) from by show (s.line.map _).getLast? = _; rw [e, List.map_append]; simp]
    · rintro σ H1 ⟨bv, av, x, y, rfl, k1, ep, db, da⟩
      have I1 := I.same B.row k1
      obtain ⟨⟨ox, em⟩, ed⟩ := I1.mo k o ek
      obtain ⟨ws, ew, dw⟩ := I1.wt
      have lw2 := DpAll.len dw
      walk_at "S"
      refine s_ins I1.ob T.cl_Runs T.n_Runs_waits (lkR_wt h) ?_
      walk_at "S"
      refine s_ins em T.cl_Module T.n_Module_number (lk_num _ _ _) ?_
      walk_at "S"
      refine ⟨small_le (by simp), fun t ht => ?_⟩
      have k2 : Kp [] H1 (upd H1 t (.tup [.int ((k + 1 : Nat) : Int), bv, av])) := Kp.refl.upd_new ht
      have I2 := I1.same B.row k2
      have ew2 := k2.get trivial ew
      have dw2 := Dp.sameAll k2 _ _ dw
      have dt : Dp K (upd H1 t (.tup [.int ((k + 1 : Nat) : Int), bv, av])) (.ref t) (papE k s.ab.line) := by
        rw [ep]
        exact .tup (sq_t upd_same) (.cons (.int _) (.cons (db _) (.cons (da _) .nil)))
      generalize upd H1 t (.tup [.int ((k + 1 : Nat) : Int), bv, av]) = H2 at *
      walk_at "S"
      refine s_append ew2 (small_lt (by omega)) ?_
      have st3 := (Stp.same B.row I (k1.tr k2)).tr (I2.wait B.row ew2 dw2 dt (pap_shape _ _) lw)
      generalize upd H2 h.wt (.lst (ws ++ [.ref t])) = H3 at *
      have I3 := st3.at_
      walk_at "S"
      refine s_ins I3.ob T.cl_Runs T.n_Runs_line (lkR_ln h) ?_
      have eln := I3.ln
      walk_at "S"
      refine ⟨small_le (by simp), fun c nc => ?_⟩
      rw [show (HO.lst [V.ref o.m, V.int 0]) = HO.lst [.ref (mAt s.ms k), .int ((0 : Nat) : Int)] from by rw [mAt_of ek]; rfl]
      have st5 := st3.tr (I3.push B.row nc hk ll)
      have I5 := st5.at_
      have ln : upd H3 c (.lst [.ref (mAt s.ms k), .int ((0 : Nat) : Int)]) h.ln = some (.lst (s.line.map fun c => V.ref c.a)) := (upd_ne (ne_of_none eln nc)).trans eln
      walk_at "S"
      refine s_append ln (small_lt (by rw [List.length_map]; omega)) ?_
      have tk5 := st5.tup I
      show tSeq _ _ _ _ (upd (upd H3 c (.lst [.ref (mAt s.ms k), .int ((0 : Nat) : Int)])) h.ln (.lst (s.line.map (fun c => V.ref c.a) ++ [.ref c])))
      generalize upd (upd H3 c (.lst [.ref (mAt s.ms k), .int ((0 : Nat) : Int)])) h.ln (.lst (s.line.map (fun c => V.ref c.a) ++ [.ref c])) = H5 at *
      walk_at "S"
      refine s_insM I5.ob (lkR_none h (m := "do_body") (by decide +kernel)) ?_
      walk_at "S"
      refine ⟨h, _, ps, body, p, v, s.line, ⟨c, k, 0⟩, rfl, B, I5, rfl, hp, Dp.tups tk5 _ _ (body_flat B.row hp) dv, fw, e0, rm, lt, fun H6 s6 st6 ea6 => ?_⟩
      walk_at "S"
      have R6 := rows_run B (n := n) (body p) 0 (s.ab.open_ k) (B.row p hp) (.start (ps := ps) (pre := s.ab.line) (r := 0) fw e0 rfl) (by show k < (s.ms.map _).length; rw [List.length_map]; exact hk) (by have := B.len p hp; omega)
      have st6 := st5.tr st6
      have ea6 : s6.ab = rowsF (takeF body n) k 0 (body p) (s.ab.open_ k) := by
        rw [ea6]
        show rowsF _ k 0 (body p) (Hs.ab _) = _
        congr 1
        unfold Hs.ab Ab.open_
        dsimp only
        rw [List.map_append]
        rfl
      rw [← ea6] at R6
      obtain ⟨r6, e6⟩ := R6.line
      obtain ⟨preL, c6, el6, _, _, epr⟩ := line_last e6
      have I6 := st6.at_
      have eln6 := I6.ln
      walk_at "S"
      refine s_ins I6.ob T.cl_Runs T.n_Runs_line (lkR_ln h) ?_
      walk_at "S"
      refine s_pop eln6 (y := .ref c6.a) (by rw [el6, List.map_append, List.length_append]; simp) ?_
      rw [show (s6.line.map fun c => V.ref c.a).dropLast = preL.map fun c => V.ref c.a from by rw [el6, List.map_append]; simp]
      have st7 := st6.tr (I6.pop B.row el6)
      have I7 := st7.at_
      generalize upd H6 h.ln (.lst (preL.map fun c => V.ref c.a)) = H7 at *
      obtain ⟨o7, ek7, q1, _, _⟩ := st7.ext k o ek
      obtain ⟨⟨ox7, em7⟩, _⟩ := I7.mo k o7 ek7
      rw [q1] at em7
      obtain ⟨vs, en, dvs⟩ := I7.nt
      walk_at "S"
      refine s_ins I7.ob T.cl_Runs T.n_Runs_notes (lkR_nt h) ?_
      walk_at "S"
      refine s_ins em7 T.cl_Module T.n_Module_number (lk_num _ _ _) ?_
      walk_at "S"
      refine ⟨small_le (by simp), fun t8 ht8 => ?_⟩
      have k8 : Kp [] H7 (upd H7 t8 (.tup [.str "end", .int ((k + 1 : Nat) : Int)])) := Kp.refl.upd_new ht8
      have I8 := I7.same B.row k8
      have en8 := k8.get trivial en
      have dt8 : Dp K (upd H7 t8 (.tup [.str "end", .int ((k + 1 : Nat) : Int)])) (.ref t8) (endE k) := .tup (sq_t upd_same) (.cons (.str _) (.cons (.int _) .nil))
      have dvs8 := Dp.sameAll k8 _ _ dvs
      have lv : vs.length = s6.notes.length := DpAll.len dvs
      have lt6 : s6.notes.length + 43 * rem ps s6.ab ≤ s.ab.lot ps + (0 + (body p).length) := R6.lot
      have := B.len p hp
      generalize upd H7 t8 (.tup [.str "end", .int ((k + 1 : Nat) : Int)]) = H8 at *
      walk_at "S"
      refine s_append en8 (small_lt (by omega)) ?_
      refine q _ _ ((st7.tr (Stp.same B.row I7 k8)).tr (I8.note B.row en8 dvs8 dt8 rfl)) ?_
      rw [← ea6]
      unfold Hs.ab Ab.fin
      dsimp only
      rw [el6, List.map_append]
      simp
def spBeginR (K : PySem.W.Frag) (CR CM : Addr) (n : Nat) : Sp := fun vs H Q _ => ∃ (h : HA) (s : Hs) (ps : List Str) (body : Str → List PyData) (p : Str) (v : V), vs = [.ref h.self, .str p, v] ∧ BodyOk ps body ∧ HouseAt K CR CM ps body H h s ∧ s.ab.ix p = none ∧ p ∈ ps ∧ Dp K H v (.tuple (body p)) ∧ Few s.ab ∧ rem ps s.ab < n + 1 ∧ s.ab.lot ps ≤ 5000 ∧
  ∀ H' s' o, Stp K CR CM ps body h H s H' s' → s'.ab = ((rowsF (takeF body n) s.ab.qs.length 0 (body p) (s.ab.begin p)).fin s.ab.qs.length) → s'.ms[s.ab.qs.length]? = some o → Q (.ref o.m) H'
theorem ok_Runs_begin {f : Addr} {fd : FuncData} (F : Fun K "begin" "Runs.begin" s_Runs_begin f fd) (T : Txt K mg C_Module C_Runs)
    (D_Module_init : DkF P w K mg base 1 C_Module ["self", "number", "path"] (spMInit C_Module)) (D_Runs_run_body : DmF P w K mg base (6 * n + 13) C_Runs "run_body" ["self", "module", "body"] (spRunBodyR K C_Runs C_Module n)) (D_Runs_came_whole : DmF P w K mg base 1 C_Runs "came_whole" ["self", "module"] (spWholeR C_Runs)) :
    FnOk P w K mg base CX0 (6 * n + 14) f fd ["self", "path", "body"] (spBeginR K C_Runs C_Module n) := by
  refine F.ok sc_Runs_begin (fun vs H Q E h => ?_) (fun cdv A outer s H vs Q E hr h => ?_)
  · obtain ⟨h, s, ps, body, p, v, rfl, _⟩ := h
    rfl
  · obtain ⟨f_Module_init, fd_Module_init, G_Module_init, M_Module, b_Module_init⟩ := D_Module_init; obtain ⟨f_Runs_run_body, fd_Runs_run_body, G_Runs_run_body, mt_Runs_run_body, b_Runs_run_body⟩ := D_Runs_run_body; obtain ⟨f_Runs_came_whole, fd_Runs_came_whole, G_Runs_came_whole, mt_Runs_came_whole, b_Runs_came_whole⟩ := D_Runs_came_whole
    obtain ⟨h, s, ps, body, p, v, rfl, B, I, ei, hp, dv, fw, rm, lt, q⟩ := h
    have hu := hu_of hr
    refine ⟨_, (pss_cons (ps_set (i := 3) sc_Runs_begin.nd rfl (Or.inl rfl) (pe_make M_Module G_Module_init (hr.mono (by first | decide | omega)) (by rfl) T.mg_Module b_Module_init .nil pass0 (pa_cons (pe_op op_add (pe_callB (lenK (K := K) rfl) (by rfl) T.n_len (by decide +kernel) (pa_cons (kFld (K := K) rfl (pe_fld (pv 0) rfl)) pa_nil)) pe_int) (pa_cons (pv 1) pa_nil))))
      (pss_cons (ps_expr (kBM (K := K) rfl (pe_bm PySem.F.plainAttrs_list PySem.F.slot_list_append PySem.F.type_list_append mt_append (kFld (K := K) rfl (pe_fld (pv 0) rfl)) (pa_cons (pv 3) pa_nil))))
      (pss_cons (ps_dput hu (kFld (K := K) rfl (pe_fld (pv 0) rfl)) (pv 1) (pv 3) rfl)
      (pss_cons (ps_expr (kBM (K := K) rfl (pe_bm PySem.F.plainAttrs_list PySem.F.slot_list_append PySem.F.type_list_append mt_append (kFld (K := K) rfl (pe_fld (pv 0) rfl)) (pa_cons (pe_tup (pa_cons pe_str (pa_cons (kFld (K := K) rfl (pe_fld (pv 3) rfl)) (pa_cons (pv 1) pa_nil)))) pa_nil))))
      (pss_cons (ps_try_thru0 (pss_one (ps_expr (pe_meth (pv 0) T.cl_Runs mt_Runs_run_body G_Runs_run_body (hr.mono (by first | decide | omega)) b_Runs_run_body .nil pass0 (pa_cons (pv 3) (pa_cons (pv 2) pa_nil))))))
      (pss_cons (ps_expr (pe_meth (pv 0) T.cl_Runs mt_Runs_came_whole G_Runs_came_whole (hr.mono (by first | decide | omega)) b_Runs_came_whole .nil pass0 (pa_cons (pv 3) pa_nil)))
      (pss_one (ps_ret (pv 3))))))))), ?_⟩
    refine st_start (σ' := [some (.ref h.self), some (.str p), some v, none, none]) rfl ?_
    have emd := I.md
    walk_at "S"
    refine s_ins I.ob T.cl_Runs T.n_Runs_made (lkR_md h) ?_
    walk_at "S"
    intro m dx hm hdx ne
    refine ⟨m, dx, _, p, rfl, upd_same, fun H1 d k1 hd0 M => ⟨rfl, ?_⟩⟩
    have k01 : Kp [] H H1 := ((Kp.refl.upd_new hdx).upd_loc hm).step k1 fun x hx => .inr (by rw [List.mem_singleton.mp hx]; exact hm)
    have hd : H d = none := ((Kp.refl (W := []) |>.upd_new hdx).upd_loc hm).free trivial hd0
    rw [List.length_map, show ((s.ms.length : Int) + 1) = ((s.ms.length + 1 : Nat) : Int) from rfl] at M
    have I1 := I.same B.row k01
    have emd1 := I1.md
    have l8 := I.ms8 B
    have np : p ∉ s.ms.map (·.q) := ix_none ei
    have n9 := I.n9
    walk_at "S"
    refine s_ins I1.ob T.cl_Runs T.n_Runs_made (lkR_md h) ?_
    walk_at "S"
    refine s_append emd1 (small_lt (by rw [List.length_map]; omega)) ?_
    have eob : upd H1 h.md (.lst (s.ms.map (fun o => V.ref o.m) ++ [.ref m])) h.self = some (.ins C_Runs h.dx (runF h)) := (upd_ne (fun q => by simp [q] at n9)).trans I1.ob
    have est : upd H1 h.md (.lst (s.ms.map (fun o => V.ref o.m) ++ [.ref m])) h.st = some (.dK (s.ms.map fun o => (Sum.inr o.q, V.ref o.m))) := (upd_ne (fun q => by simp [q] at n9)).trans I1.st
    walk_at "S"
    refine s_ins eob T.cl_Runs T.n_Runs_standing (lkR_st h) ?_
    walk_at "S"
    refine s_putS est (small_lt (by rw [List.length_map]; omega)) ?_
    rw [putK_new np]
    have st2 := I.newM B.row k01 hd M np hp
    have I2 := st2.at_
    generalize upd (upd H1 h.md (.lst (s.ms.map (fun o => V.ref o.m) ++ [.ref m]))) h.st (.dK (s.ms.map (fun o => ((Sum.inr o.q : Key), V.ref o.m)) ++ [(Sum.inr p, .ref m)])) = H2 at *
    have ek : (s.ms ++ [(⟨m, d, p, []⟩ : Mo)])[s.ms.length]? = some ⟨m, d, p, []⟩ := by rw [List.getElem?_append_right (Nat.le_refl _), Nat.sub_self]; rfl
    obtain ⟨⟨ox, em⟩, _⟩ := I2.mo _ _ ek
    obtain ⟨vs, en, dvs⟩ := I2.nt
    walk_at "S"
    refine s_ins I2.ob T.cl_Runs T.n_Runs_notes (lkR_nt h) ?_
    walk_at "S"
    refine s_ins em T.cl_Module T.n_Module_number (lk_num _ _ _) ?_
    walk_at "S"
    refine ⟨small_le (by simp), fun t3 ht3 => ?_⟩
    have k3 : Kp [] H2 (upd H2 t3 (.tup [.str "begin", .int ((s.ms.length + 1 : Nat) : Int), .str p])) := Kp.refl.upd_new ht3
    have I3 := I2.same B.row k3
    have en3 := k3.get trivial en
    have dt3 : Dp K (upd H2 t3 (.tup [.str "begin", .int ((s.ms.length + 1 : Nat) : Int), .str p])) (.ref t3) (beginE s.ms.length p) := .tup (sq_t upd_same) (.cons (.str _) (.cons (.int _) (.cons (.str _) .nil)))
    have dvs3 := Dp.sameAll k3 _ _ dvs
    have lv : vs.length = s.notes.length := DpAll.len dvs
    have ltn : s.notes.length + 43 * rem ps s.ab ≤ 5000 := lt
    generalize upd H2 t3 (.tup [.str "begin", .int ((s.ms.length + 1 : Nat) : Int), .str p]) = H3 at *
    walk_at "S"
    refine s_append en3 (small_lt (by omega)) ?_
    have st4 := (st2.tr (Stp.same B.row I2 k3)).tr (I3.note B.row en3 dvs3 dt3 rfl)
    have I4 := st4.at_
    have tk4 := st4.tup I
    generalize upd H3 h.nt (.lst (vs ++ [.ref t3])) = H4 at *
    have ek4 : ({ s with ms := s.ms ++ [(⟨m, d, p, []⟩ : Mo)], notes := s.notes ++ [beginE s.ms.length p] } : Hs).ms[s.ms.length]? = some ⟨m, d, p, []⟩ := ek
    have eab : Ab.open_ ({ s with ms := s.ms ++ [(⟨m, d, p, []⟩ : Mo)], notes := s.notes ++ [beginE s.ms.length p] } : Hs).ab s.ms.length = s.ab.begin p := by
      unfold Hs.ab Ab.open_ Ab.begin
      dsimp only
      rw [List.map_append, List.map_append, List.length_map]
      rfl
    have lq : s.ab.qs.length = s.ms.length := List.length_map _
    have rl := rem_lt hp (ix_none ei) (b := s.ab.begin p) rfl
    have lm := I.lm
    have wm := I.wm
    walk_at "S"
    refine s_insM I4.ob (lkR_none h (m := "run_body") (by decide +kernel)) ?_
    walk_at "S"
    refine ⟨h, _, ps, body, p, v, s.ms.length, ⟨m, d, p, []⟩, rfl, B, I4, ek4, hp, Dp.tups tk4 _ _ (body_flat B.row hp) dv, ?_, ?_, ?_, ?_, ?_, ?_, ?_, fun H5 s5 st5 ea5 => ?_⟩
    · have := few_begin (p := p) fw
      rw [← eab] at this
      exact this
    · show ((s.ms ++ [(⟨m, d, p, []⟩ : Mo)]).map fun o => o.ks.map (·.1)).getD s.ms.length [] = []
      rw [List.getD_eq_getElem?_getD, List.getElem?_map, ek]
      rfl
    · have : rem ps (s.ab.begin p) < n := by omega
      rw [← eab] at this
      exact this
    · have : (s.ab.begin p).lot ps ≤ 4958 := by
        unfold Ab.lot
        show (s.notes ++ [_]).length + 43 * rem ps (s.ab.begin p) ≤ 4958
        rw [List.length_append, List.length_singleton]
        omega
      rw [← eab] at this
      exact this
    · show s.line.length < (s.ms ++ [_]).length
      rw [List.length_append, List.length_singleton]
      omega
    · show s.waits.length < (s.ms ++ [_]).length
      rw [List.length_append, List.length_singleton]
      omega
    · show (s.ms ++ [_]).length ≤ 100
      rw [List.length_append, List.length_singleton]
      omega
    obtain ⟨o5, ek5, q1, _, _⟩ := st5.ext s.ms.length _ ek4
    have st5 := st4.tr st5
    have I5 := st5.at_
    walk_at "S"
    refine s_insM I5.ob (lkR_none h (m := "came_whole") (by decide +kernel)) ?_
    walk_at "S"
    refine ⟨_, _, rfl, ?_⟩
    walk_at "S"
    have q1 : o5.m = m := q1
    rw [← q1]
    refine q _ _ o5 st5 ?_ (by rw [lq]; exact ek5)
    rw [ea5, lq]
    rw [← eab]
theorem ok_Runs_taken_one {f : Addr} {fd : FuncData} (F : Fun K "taken_one" "Runs.taken_one" s_Runs_taken_one f fd) (T : Txt K mg C_Module C_Runs)
    (D_Runs_found : DmF P w K mg base 1 C_Runs "found" ["self", "path"] (spFound K C_Runs C_Module)) (D_Runs_begin : DmF P w K mg base (6 * n + 14) C_Runs "begin" ["self", "path", "body"] (spBeginR K C_Runs C_Module n)) :
    FnOk P w K mg base CX0 (6 * n + 15) f fd ["self", "path"] (spTakenR K C_Runs C_Module (n + 1)) := by
  refine F.ok sc_Runs_taken_one (fun vs H Q E h => ?_) (fun cdv A outer s H vs Q E hr h => ?_)
  · obtain ⟨h, s, ps, body, p, rfl, _⟩ := h
    rfl
  · obtain ⟨f_Runs_found, fd_Runs_found, G_Runs_found, mt_Runs_found, b_Runs_found⟩ := D_Runs_found; obtain ⟨f_Runs_begin, fd_Runs_begin, G_Runs_begin, mt_Runs_begin, b_Runs_begin⟩ := D_Runs_begin
    obtain ⟨h, s, ps, body, p, rfl, B, I, hp, fw, rm, lt, q⟩ := h
    have hu := hu_of hr
    refine ⟨_, (pss_cons (ps_if (pt_cmp (pc_din hu (pv 1) (kFld (K := K) rfl (pe_fld (pv 0) rfl)))) (pss_cons (ps_set (i := 2) sc_Runs_taken_one.nd rfl (Or.inl rfl) (pe_dget hu (kFld (K := K) rfl (pe_fld (pv 0) rfl)) (pv 1) (fun _ _ => rfl)))
      (pss_cons (ps_expr (kBM (K := K) rfl (pe_bm PySem.F.plainAttrs_list PySem.F.slot_list_append PySem.F.type_list_append mt_append (kFld (K := K) rfl (pe_fld (pv 0) rfl)) (pa_cons (pe_tup (pa_cons pe_str (pa_cons (kFld (K := K) rfl (pe_fld (pv 2) rfl)) pa_nil))) pa_nil))))
      (pss_one (ps_ret (pv 2))))) pss_nil)
      (pss_cut2 (ps_if (pt_cmp (pc_din hu (pv 1) (kFld (K := K) rfl (pe_fld (pv 0) rfl)))) (pss_cons (ps_asg (pe_dget hu (kFld (K := K) rfl (pe_fld (pv 0) rfl)) (pv 1) (fun _ _ => rfl)) (kgT (K := K) rfl (pg_tup rfl (pgs_cons (pg_name (i := 3) sc_Runs_taken_one.nd rfl (Or.inl rfl)) (pgs_cons (pg_name (i := 4) sc_Runs_taken_one.nd rfl (Or.inl rfl)) pgs_nil)))))
      (pss_cons (ps_expr (kBM (K := K) rfl (pe_bm PySem.F.plainAttrs_list PySem.F.slot_list_append PySem.F.type_list_append mt_append (kFld (K := K) rfl (pe_fld (pv 0) rfl)) (pa_cons (pe_tup (pa_cons pe_str (pa_cons (pv 3) pa_nil))) pa_nil))))
      (pss_one (ps_expr pe_never)))) pss_nil)
      (pss_cons (ps_set (i := 5) sc_Runs_taken_one.nd rfl (Or.inl rfl) (pe_meth (pv 0) T.cl_Runs mt_Runs_found G_Runs_found (hr.mono (by first | decide | omega)) b_Runs_found .nil pass0 (pa_cons (pv 1) pa_nil)))
      (pss_cut2 (ps_if (pt_cmpR op_isN (pv 5) pe_non (nomark _)) (pss_one (ps_expr pe_never)) pss_nil)
      (pss_one (ps_ret (pe_meth (pv 0) T.cl_Runs mt_Runs_begin G_Runs_begin (hr.mono (by first | decide | omega)) b_Runs_begin .nil pass0 (pa_cons (pv 1) (pa_cons (pv 5) pa_nil))))))))), ?_⟩
    refine st_start (σ' := [some (.ref h.self), some (.str p), none, none, none, none]) rfl ?_
    walk_at "S"
    refine s_ins I.ob T.cl_Runs T.n_Runs_standing (lkR_st h) ?_
    refine s_inS I.st ?_
    walk_at "S"
    rcases I.ixOf p with ⟨e1, e2⟩ | ⟨k, o, e1, ek, eq, e2⟩
    · rw [e2]
      refine s_bool (fun h => nomatch h) (fun _ => ?_)
      walk_at "S"
      refine s_cut (fun σ H1 => σ = [some (.ref h.self), some (.str p), none, none, none, none] ∧ H1 = H) (fun J hJ => ?_) ?_
      · walk_at "S"
        refine s_ins I.ob T.cl_Runs T.n_Runs_broken (lkR_br h) ?_
        refine s_inS I.br ?_
        walk_at "S"
        exact hJ _ _ ⟨rfl, rfl⟩
      · rintro σ H1 ⟨rfl, rfl⟩
        walk_at "S"
        refine s_insM I.ob (lkR_none h (m := "found") (by decide +kernel)) ?_
        walk_at "S"
        refine ⟨h, s, ps, body, p, rfl, I, hp, fun v dv => ?_⟩
        have dv2 := dv
        cases dv2 with
        | tup hs ha =>
          rename_i av xv
          walk_at "S"
          refine s_cut (fun σ H2 => σ = [some (.ref h.self), some (.str p), none, none, none, some (.ref av)] ∧ H2 = H1) (fun J hJ => ?_) ?_
          · walk_at "S"
            refine s_dec (fun h => nomatch h) (fun _ => ?_)
            walk_at "S"
            exact hJ _ _ ⟨rfl, rfl⟩
          · rintro σ H2 ⟨rfl, rfl⟩
            walk_at "S"
            refine s_insM I.ob (lkR_none h (m := "begin") (by decide +kernel)) ?_
            walk_at "S"
            have et : takeF body (n + 1) s.ab p = ((rowsF (takeF body n) s.ab.qs.length 0 (body p) (s.ab.begin p)).fin s.ab.qs.length, s.ab.qs.length) := by
              simp only [takeF]
              rw [e1]
            refine ⟨h, s, ps, body, p, _, rfl, B, I, e1, hp, dv, fw, rm, lt, fun H3 s3 o st ea eo => ?_⟩
            walk_at "S"
            exact q _ _ o st (by rw [et]; exact ea) (by rw [et]; exact eo)
    · rw [e2]
      refine s_bool (fun _ => ?_) (fun h => nomatch h)
      obtain ⟨⟨ox, em⟩, ed⟩ := I.mo k o ek
      obtain ⟨vs, en, dvs⟩ := I.nt
      have lv : vs.length = s.notes.length := DpAll.len dvs
      have ltn : s.notes.length + 43 * rem ps s.ab ≤ 5000 := lt
      walk_at "S"
      refine s_ins I.ob T.cl_Runs T.n_Runs_standing (lkR_st h) ?_
      walk_at "S"
      refine s_getS I.st e2 ?_
      walk_at "S"
      refine s_ins I.ob T.cl_Runs T.n_Runs_notes (lkR_nt h) ?_
      walk_at "S"
      refine s_ins em T.cl_Module T.n_Module_number (lk_num _ _ _) ?_
      walk_at "S"
      refine ⟨small_le (by simp), fun t ht => ?_⟩
      have k1 : Kp [] H (upd H t (.tup [.str "have", .int ((k + 1 : Nat) : Int)])) := Kp.refl.upd_new ht
      have I1 := I.same B.row k1
      have en1 := k1.get trivial en
      have dt : Dp K (upd H t (.tup [.str "have", .int ((k + 1 : Nat) : Int)])) (.ref t) (haveE k) := .tup (sq_t upd_same) (.cons (.str _) (.cons (.int _) .nil))
      have dvs1 := Dp.sameAll k1 _ _ dvs
      generalize upd H t (.tup [.str "have", .int ((k + 1 : Nat) : Int)]) = H1 at *
      walk_at "S"
      refine s_append en1 (small_lt (by omega)) ?_
      walk_at "S"
      have et : takeF body (n + 1) s.ab p = (s.ab.put (haveE k), k) := by
        simp only [takeF]
        rw [e1]
      refine q _ _ o ((Stp.same B.row I k1).tr (I1.note B.row en1 dvs1 dt rfl)) ?_ ?_
      · rw [et]
        rfl
      · rw [et]
        exact ek
theorem ok_Runs_taken {f : Addr} {fd : FuncData} (F : Fun K "taken" "Runs.taken" s_Runs_taken f fd) (T : Txt K mg C_Module C_Runs) (D_Runs_taken_one : DmF P w K mg base (6 * n + 15) C_Runs "taken_one" ["self", "path"] (spTakenR K C_Runs C_Module (n + 1))) :
    FnOk P w K mg base CX0 (6 * n + 16) f fd ["self", "path"] (spTakenR K C_Runs C_Module (n + 1)) := by
  refine F.ok sc_Runs_taken (fun vs H Q E h => ?_) (fun cdv A outer s H vs Q E hr h => ?_)
  · obtain ⟨h, s, ps, body, p, rfl, _⟩ := h
    rfl
  · obtain ⟨f_Runs_taken_one, fd_Runs_taken_one, G_Runs_taken_one, mt_Runs_taken_one, b_Runs_taken_one⟩ := D_Runs_taken_one
    obtain ⟨h, s, ps, body, p, rfl, B, I, hp, fw, rm, lt, q⟩ := h
    refine ⟨_, (pss_one (ps_ret (pe_meth (pv 0) T.cl_Runs mt_Runs_taken_one G_Runs_taken_one (hr.mono (by first | decide | omega)) b_Runs_taken_one .nil pass0 (pa_cons (pv 1) pa_nil)))), ?_⟩
    refine st_start (σ' := [some (.ref h.self), some (.str p)]) rfl ?_
    walk_at "S"
    refine s_insM I.ob (lkR_none h (m := "taken_one") (by decide +kernel)) ?_
    walk_at "S"
    refine ⟨h, s, ps, body, p, rfl, B, I, hp, fw, rm, lt, fun H3 s3 o st ea eo => ?_⟩
    walk_at "S"
    exact q _ _ o st ea eo
end

theorem Kp.unlock {H H2 : Hp} {d : Addr} {u : HO} (e : H d = some u) (k : Kp [d] H H2) : Kp [] H (upd H2 d u) := fun a o _ h => by
  by_cases c : a = d
  · subst c
    rw [upd_same, ← h, e]
  · exact (upd_ne c).trans (k a o ⟨c, trivial⟩ h)
theorem body_good {ps : List Str} {xs : List PyData} (ok : ∀ p ∈ ps, OkN p) (h : ∀ x ∈ xs, RowK ps x) (l : xs.length ≤ 40) : (xs.all (isRowX 3) && decide (cnts 3 xs ≤ 40)) = true := by
  have e : cnts 3 xs = xs.length := by
    clear l
    induction xs with
    | nil => rfl
    | cons x r ih =>
      show ((x :: r).map (cntRow 3)).sum = _
      rw [List.map_cons, List.sum_cons, cntRow_flat ((h x List.mem_cons_self).flat ok)]
      have : (r.map (cntRow 3)).sum = r.length := ih fun y hy => h y (List.mem_cons_of_mem _ hy)
      rw [this, List.length_cons]
      omega
  rw [e, decide_eq_true l, Bool.and_true, List.all_eq_true]
  exact fun x hx => ((h x hx).flat ok).isRow 3
section
variable {P : Program} {w : World} {K : PySem.W.Frag} {mg : Str → Option Value} {base : Heap} {C_Module C_Runs : Addr} {n : Nat}
/-- taken, whatever is not begun yet -/
theorem taken_all {f_Runs_do f_Runs_do_body f_Runs_run_body f_Runs_begin f_Runs_taken_one f_Runs_taken : Addr} {fd_Runs_do fd_Runs_do_body fd_Runs_run_body fd_Runs_begin fd_Runs_taken_one fd_Runs_taken : FuncData} (T : Txt K mg C_Module C_Runs)
    (F_do : Fun K "do" "Runs.do" s_Runs_do f_Runs_do fd_Runs_do) (F_do_body : Fun K "do_body" "Runs.do_body" s_Runs_do_body f_Runs_do_body fd_Runs_do_body) (F_run_body : Fun K "run_body" "Runs.run_body" s_Runs_run_body f_Runs_run_body fd_Runs_run_body)
    (F_begin : Fun K "begin" "Runs.begin" s_Runs_begin f_Runs_begin fd_Runs_begin) (F_taken_one : Fun K "taken_one" "Runs.taken_one" s_Runs_taken_one f_Runs_taken_one fd_Runs_taken_one) (F_taken : Fun K "taken" "Runs.taken" s_Runs_taken f_Runs_taken fd_Runs_taken)
    (D_bind : DmF P w K mg base 1 C_Module "bind" ["self", "name", "thing"] (spBind C_Module)) (D_init : DkF P w K mg base 1 C_Module ["self", "number", "path"] (spMInit C_Module))
    (D_found : DmF P w K mg base 1 C_Runs "found" ["self", "path"] (spFound K C_Runs C_Module)) (D_whole : DmF P w K mg base 1 C_Runs "came_whole" ["self", "module"] (spWholeR C_Runs)) (D_note : DmF P w K mg base 2 C_Runs "do_note" ["self", "path"] (spNoteR K C_Runs C_Module))
    (M_do : Meth K C_Runs "do" f_Runs_do) (B_do : Binds K fd_Runs_do ["self", "row"] []) (M_do_body : Meth K C_Runs "do_body" f_Runs_do_body) (B_do_body : Binds K fd_Runs_do_body ["self", "body"] [])
    (M_run_body : Meth K C_Runs "run_body" f_Runs_run_body) (B_run_body : Binds K fd_Runs_run_body ["self", "module", "body"] []) (M_begin : Meth K C_Runs "begin" f_Runs_begin) (B_begin : Binds K fd_Runs_begin ["self", "path", "body"] [])
    (M_taken_one : Meth K C_Runs "taken_one" f_Runs_taken_one) (B_taken_one : Binds K fd_Runs_taken_one ["self", "path"] []) (M_taken : Meth K C_Runs "taken" f_Runs_taken) (B_taken : Binds K fd_Runs_taken ["self", "path"] []) :
    ∀ n : Nat, DmF P w K mg base (6 * n + 10) C_Runs "taken" ["self", "path"] (spTakenR K C_Runs C_Module n)
  | 0 => ⟨_, _, ⟨fun _ _ _ _ z => by obtain ⟨_, _, _, _, _, _, _, _, _, _, z, _⟩ := z; exact absurd z (Nat.not_lt_zero _), fun _ _ _ _ _ _ _ _ _ _ _ _ _ z => by obtain ⟨_, _, _, _, _, _, _, _, _, _, z, _⟩ := z; exact absurd z (Nat.not_lt_zero _)⟩, M_taken, B_taken⟩
  | n + 1 => by
    have D0 := taken_all T F_do F_do_body F_run_body F_begin F_taken_one F_taken D_bind D_init D_found D_whole D_note M_do B_do M_do_body B_do_body M_run_body B_run_body M_begin B_begin M_taken_one B_taken_one M_taken B_taken n
    have D1 : DmF P w K mg base (6 * n + 11) C_Runs "do" ["self", "row"] (spDoR K C_Runs C_Module n) := ⟨_, _, ok_Runs_do F_do T D_bind D0 D_note, M_do, B_do⟩
    have D2 : DmF P w K mg base (6 * n + 12) C_Runs "do_body" ["self", "body"] (spDoBodyR K C_Runs C_Module n) := ⟨_, _, ok_Runs_do_body F_do_body T D1, M_do_body, B_do_body⟩
    have D3 : DmF P w K mg base (6 * n + 13) C_Runs "run_body" ["self", "module", "body"] (spRunBodyR K C_Runs C_Module n) := ⟨_, _, ok_Runs_run_body F_run_body T D2, M_run_body, B_run_body⟩
    have D4 : DmF P w K mg base (6 * n + 14) C_Runs "begin" ["self", "path", "body"] (spBeginR K C_Runs C_Module n) := ⟨_, _, ok_Runs_begin F_begin T D_init D3 D_whole, M_begin, B_begin⟩
    have D5 : DmF P w K mg base (6 * n + 15) C_Runs "taken_one" ["self", "path"] (spTakenR K C_Runs C_Module (n + 1)) := ⟨_, _, ok_Runs_taken_one F_taken_one T D_found D4, M_taken_one, B_taken_one⟩
    exact ⟨_, _, ok_Runs_taken F_taken T D5, M_taken, B_taken⟩
def spWantPath (K : PySem.W.Frag) : Sp := fun vs H Q _ => ∃ z : Str, vs = [.str z] ∧ OkN z ∧ ∀ H', Kp [] H H' → Q .non H'
def spWantFinders (K : PySem.W.Frag) : Sp := fun vs H Q _ => ∃ (F : Addr) (shs : List Sf) (ps : List Str), vs = [.ref F] ∧ H F = some (.lst (shs.map fun x => V.ref x.a)) ∧ (∀ x ∈ shs, ShOk K H ps x) ∧ shs.length ≤ 3 ∧ (∀ p ∈ ps, OkN p) ∧ ps.length ≤ 8 ∧ ∀ H', Kp [] H H' → Q .non H'
theorem ok_want_path {f : Addr} {fd : FuncData} (F : Fun K "want_path" "want_path" s_want_path f fd) (T : Txt K mg C_Module C_Runs)
    (D_is_path : DnF P w K mg base 2 "is_path" ["thing"] (spIsPath K)) :
    FnOk P w K mg base CX0 3 f fd ["path"] (spWantPath K) := by
  refine F.ok sc_want_path (fun vs H Q E h => ?_) (fun cdv A outer s H vs Q E hr h => ?_)
  · obtain ⟨z, rfl, _⟩ := h
    rfl
  · obtain ⟨f_is_path, fd_is_path, G_is_path, m_is_path, k_is_path, b_is_path⟩ := D_is_path
    obtain ⟨z, rfl, hz, q⟩ := h
    refine ⟨_, (pss_one (ps_if (pt_not (pt_val (pe_call G_is_path (hr.mono (by first | decide | omega)) (by rfl) m_is_path k_is_path b_is_path .nil pass0 (pa_cons (pv 0) pa_nil)))) (pss_one ps_never) pss_nil)), ?_⟩
    refine st_start (σ' := [some (.str z)]) rfl ?_
    walk_at "S"
    refine .inl ⟨z, rfl, by have := hz.len; omega, fun H1 k1 => ?_⟩
    rw [hz.path]
    walk_at "S"
    exact q _ k1
theorem ok_want_finders {f : Addr} {fd : FuncData} (F : Fun K "want_finders" "want_finders" s_want_finders f fd) (T : Txt K mg C_Module C_Runs)
    (D_is_path : DnF P w K mg base 2 "is_path" ["thing"] (spIsPath K)) (D_is_body : DnF P w K mg base 12 "is_body" ["thing"] (spIsBody K)) :
    FnOk P w K mg base CX0 13 f fd ["finders"] (spWantFinders K) := by
  refine F.ok sc_want_finders (fun vs H Q E h => ?_) (fun cdv A outer s H vs Q E hr h => ?_)
  · obtain ⟨F, shs, ps, rfl, _⟩ := h
    rfl
  · obtain ⟨f_is_path, fd_is_path, G_is_path, m_is_path, k_is_path, b_is_path⟩ := D_is_path; obtain ⟨f_is_body, fd_is_body, G_is_body, m_is_body, k_is_body, b_is_body⟩ := D_is_body
    obtain ⟨F_, shs, ps, rfl, eF, hs, h3, ok, h8, q⟩ := h
    refine ⟨_, (pss_cons (ps_if (PW.pt (pw_or (pt_not (pt_val (pe_callB (isiK (K := K) rfl) (by rfl) T.n_isinstance (by decide +kernel) (pa_cons (pv 0) (pa_cons (pe_bltn (v := .ty "list") (by rfl) T.n_list (by decide +kernel) rfl) pa_nil))))) (pw_or1 (pt_not (pt_val (pe_callB (allK (K := K) rfl rfl) (by rfl) T.n_all (by decide +kernel) (pa_cons (pe_lc (own := [("finder", 1)]) (g := gName 1) (tt := tYes) rfl sc_want_finders.nd (kiL (K := K) rfl (pi_list (pv 0))) (blkOk_by (own := [("finder", 1)]) (N := N_want_finders) (sc := (defScope s_want_finders)) (by decide +kernel)) (fun _ _ _ _ _ => (pg_name (i := 1) sc_want_finders.nd rfl (Or.inl rfl))) (fun _ _ _ _ _ => pts_nil) (fun _ _ _ _ _ => (pe_callB (isiK (K := K) rfl) (by rfl) T.n_isinstance (by decide +kernel) (pa_cons (pv 1) (pa_cons (pe_bltn (v := .ty "dict") (by rfl) T.n_dict (by decide +kernel) rfl) pa_nil))))) pa_nil))))))) (pss_one ps_never) pss_nil)
      (pss_cons (ps_if (pt_not (pt_val (pe_callB (allK (K := K) rfl rfl) (by rfl) T.n_all (by decide +kernel) (pa_cons (pe_lc (own := [("finder", 1)]) (g := gName 1) (tt := tYes) rfl sc_want_finders.nd (kiL (K := K) rfl (pi_list (pv 0))) (blkOk_by (own := [("finder", 1)]) (N := N_want_finders) (sc := (defScope s_want_finders)) (by decide +kernel)) (fun _ _ _ _ _ => (pg_name (i := 1) sc_want_finders.nd rfl (Or.inl rfl))) (fun _ _ _ _ _ => pts_nil) (fun _ _ _ _ _ => (pe_callB (allK (K := K) rfl rfl) (by rfl) T.n_all (by decide +kernel) (pa_cons (pe_lock (pe_lc (own := [("path", 2)]) (g := gName 2) (tt := tYes) rfl sc_want_finders.nd (pi_keys (pv 1)) (blkOk_by (own := [("path", 2)]) (by kernel_rfl)) (fun _ _ _ _ _ => (pg_name (i := 2) sc_want_finders.nd rfl (Or.inl rfl))) (fun _ _ _ _ _ => pts_nil) (fun _ _ _ _ _ => (pe_call G_is_path (hr.mono (by first | decide | omega)) (by rfl) m_is_path k_is_path b_is_path .nil pass0 (pa_cons (pv 2) pa_nil))))) pa_nil)))) pa_nil)))) (pss_one ps_never) pss_nil)
      (pss_one (ps_if (pt_not (pt_val (pe_callB (allK (K := K) rfl rfl) (by rfl) T.n_all (by decide +kernel) (pa_cons (pe_lc (own := [("finder", 1)]) (g := gName 1) (tt := tYes) rfl sc_want_finders.nd (kiL (K := K) rfl (pi_list (pv 0))) (blkOk_by (own := [("finder", 1)]) (N := N_want_finders) (sc := (defScope s_want_finders)) (by decide +kernel)) (fun _ _ _ _ _ => (pg_name (i := 1) sc_want_finders.nd rfl (Or.inl rfl))) (fun _ _ _ _ _ => pts_nil) (fun _ _ _ _ _ => (pe_callB (allK (K := K) rfl rfl) (by rfl) T.n_all (by decide +kernel) (pa_cons (pe_lock (pe_lc (own := [("body", 3)]) (g := gName 3) (tt := tYes) rfl sc_want_finders.nd (pi_values (pv 1)) (blkOk_by (own := [("body", 3)]) (by kernel_rfl)) (fun _ _ _ _ _ => (pg_name (i := 3) sc_want_finders.nd rfl (Or.inl rfl))) (fun _ _ _ _ _ => pts_nil) (fun _ _ _ _ _ => (pe_call G_is_body (hr.mono (by first | decide | omega)) (by rfl) m_is_body k_is_body b_is_body .nil pass0 (pa_cons (pv 3) pa_nil))))) pa_nil)))) pa_nil)))) (pss_one ps_never) pss_nil)))), ?_⟩
    refine st_start (σ' := [some (.ref F_), none, none, none]) rfl ?_
    walk_at "S"
    refine isi_ty (.base (.lst eF)) (b := true) (by decide +kernel) ?_
    walk_at "S"
    have eH := eF
    have shH : ∀ H', Kp [] H H' → ∀ x ∈ shs, ShOk K H' ps x := fun H' k x hx => (hs x hx).step (k.get trivial (hs x hx).at_) (TupK.same k)
    refine ⟨⟨_, sq_l eH⟩, fun D1 hD1 => ?_⟩
    have L1 : LcOk D1 (shs.map fun x => V.ref x.a).length (fun i => (List.replicate (shs.map fun x => V.ref x.a).length (V.bl true)).take i) [] H (fun _ _ => True) := .ofTake (small_le (by rw [List.length_map]; omega)) hD1 trivial (fun _ _ _ h => h)
    refine lc_go (walk_list (K := K) (a := F_) (xs := shs.map fun x => V.ref x.a)) L1 trivial (fun (Hq : Hp) (kq : Kp [] H Hq) => sq_l (kq.get trivial eH)) (fun i x Hp_ H' hi I y => ?_) fun H1 I => ?_
    · obtain ⟨rfl, hx⟩ := y
      rw [List.getElem?_map] at hx
      obtain ⟨y, ey, rfl⟩ : ∃ y, shs[i]? = some y ∧ x = V.ref y.a := by
        cases e : shs[i]? with
        | none => rw [e] at hx; cases hx
        | some y => rw [e] at hx; exact ⟨y, rfl, (Option.some.inj hx).symm⟩
      have my := List.mem_of_getElem? ey
      have sy := shH H' I.2.1 y my
      walk_at "S"
      refine ⟨rfl, ?_⟩
      walk_at "S"
      refine isi_ty (.base (.dK sy.at_)) (b := true) (by decide +kernel) ?_
      exact I.put L1 hi (take_put (by rw [List.getElem?_replicate, if_pos hi])) Kp.refl trivial
    obtain ⟨p1, k1, _⟩ := I
    dsimp only at p1
    rw [List.take_of_length_le (by rw [List.length_replicate]; exact Nat.le_refl _)] at p1
    have k01 : Kp [] H H1 := k1
    have eH1 := k01.get trivial eH
    have shH1 : ∀ H', Kp [] H1 H' → ∀ x ∈ shs, ShOk K H' ps x := fun H' k x hx => (hs x hx).step (k.get trivial (k01.get trivial (hs x hx).at_)) (TupK.same (k01.tr k))
    walk_at "S"
    refine s_all (bs := List.replicate (shs.map fun x => V.ref x.a).length true) (sq_l (by rw [p1, List.map_replicate])) ?_
    rw [List.all_replicate, show ∀ m : Nat, (if m = 0 then true else id true) = true from fun m => by split <;> rfl]
    walk_at "S"
    refine ⟨⟨_, sq_l eH1⟩, fun D2 hD2 => ?_⟩
    have L2 : LcOk D2 (shs.map fun x => V.ref x.a).length (fun i => (List.replicate (shs.map fun x => V.ref x.a).length (V.bl true)).take i) [] H1 (fun _ _ => True) := .ofTake (small_le (by rw [List.length_map]; omega)) hD2 trivial (fun _ _ _ h => h)
    refine lc_go (walk_list (K := K) (a := F_) (xs := shs.map fun x => V.ref x.a)) L2 trivial (fun (Hq : Hp) (kq : Kp [] H1 Hq) => sq_l (kq.get trivial eH1)) (fun i x Hp_ H' hi I y => ?_) fun H2 I => ?_
    · obtain ⟨rfl, hx⟩ := y
      rw [List.getElem?_map] at hx
      obtain ⟨y, ey, rfl⟩ : ∃ y, shs[i]? = some y ∧ x = V.ref y.a := by
        cases e : shs[i]? with
        | none => rw [e] at hx; cases hx
        | some y => rw [e] at hx; exact ⟨y, rfl, (Option.some.inj hx).symm⟩
      have my := List.mem_of_getElem? ey
      have sy := shH1 H' I.2.1 y my
      walk_at "S"
      refine ⟨rfl, ?_⟩
      walk_at "S"
      refine s_lockE sy.at_ trivial fun od => ?_
      have el : upd H' y.a (.frz od (.dK y.kvs)) y.a = some (.frz od (.dK y.kvs)) := upd_same
      have kl : Kp [y.a] H' (upd H' y.a (.frz od (.dK y.kvs))) := Kp.refl.upd_mem List.mem_cons_self
      have tl_ : TupK H' (upd H' y.a (.frz od (.dK y.kvs))) := TupK.dic sy.at_
      generalize upd H' y.a (.frz od (.dK y.kvs)) = Hl at *
      have few := sy.few
      walk_at "S"
      refine s_iKeys ?_
      walk_at "S"
      refine ⟨y.a, od, rfl, .inl ⟨_, el, fun E2 hE2 => ?_⟩⟩
      have LE : LcOk E2 y.kvs.length (fun i => (List.replicate y.kvs.length (V.bl true)).take i) [] Hl (fun _ _ => True) := .ofTake (small_le (by omega)) hE2 trivial (fun _ _ _ h => h)
      refine lc_go walk_keys LE trivial (fun (Hq : Hp) (kq : Kp [] Hl Hq) => kq.get trivial el) (fun i2 x Hp2 Hb hi2 Ib yb => ?_) fun He Ie => ?_
      · obtain ⟨rfl, k, v, ek, rfl⟩ := yb
        obtain ⟨z, rows, e1, hz, _⟩ := sy.ks _ (List.mem_of_getElem? ek)
        have e1 : k = Sum.inr z := e1
        subst e1
        have lz := (ok z hz).len
        walk_at "S"
        refine ⟨rfl, ?_⟩
        walk_at "S"
        refine .inl ⟨z, rfl, by omega, fun H4 k4 => ?_⟩
        rw [(ok z hz).path]
        exact Ib.put LE hi2 (take_put (by rw [List.getElem?_replicate, if_pos hi2])) k4 trivial
      obtain ⟨pe, ke, _⟩ := Ie
      dsimp only at pe
      rw [List.take_of_length_le (by rw [List.length_replicate]; exact Nat.le_refl _)] at pe
      refine ⟨ke.get trivial el, ?_⟩
      have ku : Kp [] H' (upd He y.a (.dK y.kvs)) := Kp.unlock sy.at_ (kl.tr (Kp.nil_W ke))
      have pe2 : upd He y.a (.dK y.kvs) E2 = some (.lst (List.replicate y.kvs.length (V.bl true))) := (upd_ne fun e => by rw [e, el] at hE2; cases hE2).trans pe
      walk_at "S"
      refine s_all (bs := List.replicate y.kvs.length true) (sq_l (by rw [pe2, List.map_replicate])) ?_
      rw [List.all_replicate, show ∀ m : Nat, (if m = 0 then true else id true) = true from fun m => by split <;> rfl]
      exact I.put L2 hi (take_put (by rw [List.getElem?_replicate, if_pos hi])) ku trivial
    obtain ⟨p2, k2, _⟩ := I
    dsimp only at p2
    rw [List.take_of_length_le (by rw [List.length_replicate]; exact Nat.le_refl _)] at p2
    have k02 : Kp [] H H2 := k01.tr k2
    have eH2 := k02.get trivial eH
    have shH2 : ∀ H', Kp [] H2 H' → ∀ x ∈ shs, ShOk K H' ps x := fun H' k x hx => (hs x hx).step (k.get trivial (k02.get trivial (hs x hx).at_)) (TupK.same (k02.tr k))
    walk_at "S"
    refine s_all (bs := List.replicate (shs.map fun x => V.ref x.a).length true) (sq_l (by rw [p2, List.map_replicate])) ?_
    rw [List.all_replicate, show ∀ m : Nat, (if m = 0 then true else id true) = true from fun m => by split <;> rfl]
    walk_at "S"
    refine ⟨⟨_, sq_l eH2⟩, fun D3 hD3 => ?_⟩
    have L3 : LcOk D3 (shs.map fun x => V.ref x.a).length (fun i => (List.replicate (shs.map fun x => V.ref x.a).length (V.bl true)).take i) [] H2 (fun _ _ => True) := .ofTake (small_le (by rw [List.length_map]; omega)) hD3 trivial (fun _ _ _ h => h)
    refine lc_go (walk_list (K := K) (a := F_) (xs := shs.map fun x => V.ref x.a)) L3 trivial (fun (Hq : Hp) (kq : Kp [] H2 Hq) => sq_l (kq.get trivial eH2)) (fun i x Hp_ H' hi I y => ?_) fun H3 I => ?_
    · obtain ⟨rfl, hx⟩ := y
      rw [List.getElem?_map] at hx
      obtain ⟨y, ey, rfl⟩ : ∃ y, shs[i]? = some y ∧ x = V.ref y.a := by
        cases e : shs[i]? with
        | none => rw [e] at hx; cases hx
        | some y => rw [e] at hx; exact ⟨y, rfl, (Option.some.inj hx).symm⟩
      have my := List.mem_of_getElem? ey
      have sy := shH2 H' I.2.1 y my
      walk_at "S"
      refine ⟨rfl, ?_⟩
      walk_at "S"
      refine s_lockE sy.at_ trivial fun od => ?_
      have el : upd H' y.a (.frz od (.dK y.kvs)) y.a = some (.frz od (.dK y.kvs)) := upd_same
      have kl : Kp [y.a] H' (upd H' y.a (.frz od (.dK y.kvs))) := Kp.refl.upd_mem List.mem_cons_self
      have tl_ : TupK H' (upd H' y.a (.frz od (.dK y.kvs))) := TupK.dic sy.at_
      generalize upd H' y.a (.frz od (.dK y.kvs)) = Hl at *
      have few := sy.few
      walk_at "S"
      refine s_iVals ?_
      walk_at "S"
      refine ⟨y.a, od, _, rfl, el, fun E3 hE3 => ?_⟩
      have LE : LcOk E3 y.kvs.length (fun i => (List.replicate y.kvs.length (V.bl true)).take i) [] Hl (fun _ _ => True) := .ofTake (small_le (by omega)) hE3 trivial (fun _ _ _ h => h)
      refine lc_go walk_values LE trivial (fun (Hq : Hp) (kq : Kp [] Hl Hq) => kq.get trivial el) (fun i2 x Hp2 Hb hi2 Ib yb => ?_) fun He Ie => ?_
      · obtain ⟨rfl, k, ek⟩ := yb
        obtain ⟨z, rows, e1, hz, dv, rk, lr⟩ := sy.ks _ (List.mem_of_getElem? ek)
        have dv : Dp K H' x (.tuple rows) := dv
        have dv2 := Dp.same Ib.2.1 _ _ (Dp.tups tl_ _ _ (flat_rows rk) dv)
        walk_at "S"
        refine ⟨rfl, ?_⟩
        walk_at "S"
        refine .inl ⟨x, rows, rfl, dv2, fun r hr_ => ((rk r hr_).flat ok).rowG, by omega, fun H4 k4 => ?_⟩
        rw [body_good ok rk lr]
        exact Ib.put LE hi2 (take_put (by rw [List.getElem?_replicate, if_pos hi2])) k4 trivial
      obtain ⟨pe, ke, _⟩ := Ie
      dsimp only at pe
      rw [List.take_of_length_le (by rw [List.length_replicate]; exact Nat.le_refl _)] at pe
      refine ⟨ke.get trivial el, ?_⟩
      have ku : Kp [] H' (upd He y.a (.dK y.kvs)) := Kp.unlock sy.at_ (kl.tr (Kp.nil_W ke))
      have pe2 : upd He y.a (.dK y.kvs) E3 = some (.lst (List.replicate y.kvs.length (V.bl true))) := (upd_ne fun e => by rw [e, el] at hE3; cases hE3).trans pe
      walk_at "S"
      refine s_all (bs := List.replicate y.kvs.length true) (sq_l (by rw [pe2, List.map_replicate])) ?_
      rw [List.all_replicate, show ∀ m : Nat, (if m = 0 then true else id true) = true from fun m => by split <;> rfl]
      exact I.put L3 hi (take_put (by rw [List.getElem?_replicate, if_pos hi])) ku trivial
    obtain ⟨p3, k3, _⟩ := I
    dsimp only at p3
    rw [List.take_of_length_le (by rw [List.length_replicate]; exact Nat.le_refl _)] at p3
    have k03 : Kp [] H H3 := k02.tr k3
    have eH3 := k03.get trivial eH
    have shH3 : ∀ H', Kp [] H3 H' → ∀ x ∈ shs, ShOk K H' ps x := fun H' k x hx => (hs x hx).step (k.get trivial (k03.get trivial (hs x hx).at_)) (TupK.same (k03.tr k))
    walk_at "S"
    refine s_all (bs := List.replicate (shs.map fun x => V.ref x.a).length true) (sq_l (by rw [p3, List.map_replicate])) ?_
    rw [List.all_replicate, show ∀ m : Nat, (if m = 0 then true else id true) = true from fun m => by split <;> rfl]
    walk_at "S"
    exact q _ k03
end

abbrev s0 : Hs := ⟨[], [], [], []⟩
/-- modules stay -/
def MK (CM : Addr) (H H' : Hp) : Prop := ∀ (a dx : Addr) (n : Int) (q : Str) (d : Addr), H a = some (.ins CM dx (modF n q d)) → H' a = some (.ins CM dx (modF n q d))
theorem MK.refl {CM : Addr} {H : Hp} : MK CM H H := fun _ _ _ _ _ h => h
theorem MK.tr {CM : Addr} {A B C : Hp} (h : MK CM A B) (g : MK CM B C) : MK CM A C := fun a dx n q d e => g a dx n q d (h a dx n q d e)
theorem TIK.mks {CM : Addr} {H H' : Hp} (t : TIK H H') : MK CM H H' := fun _ _ _ _ _ h => t.ins h
theorem mod_ne_run {n : Int} {q : Str} {d : Addr} {h : HA} : modF n q d ≠ runF h := fun e => by
  have := congrArg List.length e
  exact absurd this (by show ¬ (3 = 9); decide)
/-- the house's self anew -/
theorem MK.self {CM CR : Addr} {H : Hp} {h : HA} {o : HO} (e : H h.self = some (.ins CR h.dx (runF h))) : MK CM H (upd H h.self o) := fun a dx n q d g => by
  refine (upd_ne fun c => ?_).trans g
  subst c
  rw [e] at g
  injection g with g
  injection g with g1 g2 g3
  exact mod_ne_run g3.symm
/-- what others do, modules kept -/
theorem HouseAt.kpM {K : PySem.W.Frag} {CR CM : Addr} {ps : List Str} {body : Str → List PyData} (hr : ∀ p ∈ ps, ∀ x ∈ body p, RowK ps x) {H H' : Hp} {h : HA} {s : Hs} {W : List Addr} (I : HouseAt K CR CM ps body H h s) (k : Kp W H H') (t : MK CM H H') (tk : TupK H H')
    (n : ∀ x ∈ own h s, Nin x W) (n2 : ∀ x ∈ h.sh :: h.shs.map (·.a), Nin x W) : HouseAt K CR CM ps body H' h s := by
  have m : ∀ {x : Addr} {o : HO}, x ∈ own h s → H x = some o → H' x = some o := fun hx e => k.get (n _ hx) e
  have m9 : ∀ {x : Addr} {o : HO}, x ∈ h.nine → H x = some o → H' x = some o := fun hx e => m (List.mem_append_left _ hx) e
  refine ⟨m9 (by simp) I.ob, k.get (n2 _ List.mem_cons_self) I.sh, fun x hx => k.get (n2 _ (List.mem_cons_of_mem _ (List.mem_map.mpr ⟨x, hx, rfl⟩))) (I.shk x hx), fun p hp => ?_, m9 (by simp) I.st, m9 (by simp) I.md, m9 (by simp) I.ln, fun c hc => ⟨(I.lc c hc).1, ?_⟩, m9 (by simp) I.br, m9 (by simp) I.mt, m9 (by simp) I.ft,
    I.nt.tup I.nf (fun o e => m9 (by simp) e) tk, I.wt.tup I.wf (fun o e => m9 (by simp) e) tk, I.nf, I.wf, fun j o e => ?_, I.nd, I.sa, I.qn, I.qp, I.lm, I.wm⟩
  · obtain ⟨v, f, d⟩ := I.fnd p hp
    exact ⟨v, f, Dp.tups tk _ _ (body_flat hr hp) d⟩
  · exact m (List.mem_append_right _ (List.mem_append_left _ (List.mem_map.mpr ⟨c, hc, rfl⟩))) (I.lc c hc).2
  · obtain ⟨⟨dx, e1⟩, e2⟩ := I.mo j o e
    exact ⟨⟨dx, t _ _ _ _ _ e1⟩, m (List.mem_append_right _ (List.mem_append_right _ (List.mem_map.mpr ⟨o, List.mem_of_getElem? e, rfl⟩))) e2⟩
/-- a new dict of what broke -/
abbrev HA.brk (h : HA) (b : Addr) : HA := { h with br := b }
/-- what the house's own doing leaves, with a new dict of what broke -/
structure StpB (K : PySem.W.Frag) (CR CM : Addr) (ps : List Str) (body : Str → List PyData) (h : HA) (H : Hp) (s : Hs) (h' : HA) (H' : Hp) (s' : Hs) : Prop where
  at_ : HouseAt K CR CM ps body H' h' s'
  self : h'.self = h.self
  sh : h'.sh = h.sh ∧ h'.shs = h.shs
  kp : Kp (own h s) H H'
  mks : MK CM H H'
  tup : TupK H H'
  new : ∀ x ∈ own h' s', x ∈ own h s ∨ H x = none
theorem putF_ne {f g : Str} {v x : V} {r : List (Str × V)} (h : g ≠ f) : putF f v ((g, x) :: r) = (g, x) :: putF f v r := by
  simp only [putF]
  rw [if_neg h]
theorem putF_hit {f : Str} {v x : V} {r : List (Str × V)} : putF f v ((f, x) :: r) = (f, v) :: r := by
  simp only [putF]
  rw [if_pos trivial]
theorem putF_new {f : Str} {v : V} {keys : List Str} (n : f ∉ keys) : ∀ {fs : List (Str × V)}, fs.map (·.1) = keys → putF f v fs = fs ++ [(f, v)] := by
  induction keys with
  | nil => intro fs e; cases fs with
    | nil => rfl
    | cons => cases e
  | cons k r ih =>
    intro fs e
    cases fs with
    | nil => cases e
    | cons x t =>
      obtain ⟨g, x⟩ := x
      obtain ⟨e1, e2⟩ := List.cons.inj e
      have e1 : g = k := e1
      subst e1
      rw [putF_ne (fun q => n (by rw [q]; exact List.mem_cons_self)), ih (fun m => n (List.mem_cons_of_mem _ m)) e2]
      rfl
theorem runF_all (h : HA) : putF "waits" (.ref h.wt) (putF "notes" (.ref h.nt) (putF "fates" (.ref h.ft) (putF "met" (.ref h.mt) (putF "broken" (.ref h.br) (putF "line" (.ref h.ln) (putF "made" (.ref h.md) (putF "standing" (.ref h.st) (putF "shelves" (.ref h.sh) [])))))))) = runF h := by
  rw [putF_new (keys := []) (by decide +kernel) (f := "shelves") (fs := []) rfl]
  rw [putF_new (keys := ["shelves"]) (by decide +kernel) (f := "standing") rfl]
  rw [putF_new (keys := ["shelves", "standing"]) (by decide +kernel) (f := "made") rfl]
  rw [putF_new (keys := ["shelves", "standing", "made"]) (by decide +kernel) (f := "line") rfl]
  rw [putF_new (keys := ["shelves", "standing", "made", "line"]) (by decide +kernel) (f := "broken") rfl]
  rw [putF_new (keys := ["shelves", "standing", "made", "line", "broken"]) (by decide +kernel) (f := "met") rfl]
  rw [putF_new (keys := ["shelves", "standing", "made", "line", "broken", "met"]) (by decide +kernel) (f := "fates") rfl]
  rw [putF_new (keys := ["shelves", "standing", "made", "line", "broken", "met", "fates"]) (by decide +kernel) (f := "notes") rfl]
  rw [putF_new (keys := ["shelves", "standing", "made", "line", "broken", "met", "fates", "notes"]) (by decide +kernel) (f := "waits") rfl]
  rfl
theorem runF_brk {h : HA} {b : Addr} : putF "broken" (.ref b) (runF h) = runF (h.brk b) := by
  simp only [runF]
  rw [putF_ne (by decide +kernel), putF_ne (by decide +kernel), putF_ne (by decide +kernel), putF_ne (by decide +kernel), putF_hit]
theorem StpB.refl {K : PySem.W.Frag} {CR CM : Addr} {ps : List Str} {body : Str → List PyData} {h : HA} {H : Hp} {s : Hs} (I : HouseAt K CR CM ps body H h s) : StpB K CR CM ps body h H s h H s :=
  ⟨I, rfl, ⟨rfl, rfl⟩, Kp.refl, .refl, fun _ _ e => e, fun x hx => .inl hx⟩
theorem StpB.tr {K : PySem.W.Frag} {CR CM : Addr} {ps : List Str} {body : Str → List PyData} {h h1 h2 : HA} {H H1 H2 : Hp} {s s1 s2 : Hs} (a : StpB K CR CM ps body h H s h1 H1 s1) (b : StpB K CR CM ps body h1 H1 s1 h2 H2 s2) : StpB K CR CM ps body h H s h2 H2 s2 := by
  refine ⟨b.at_, b.self.trans a.self, ⟨b.sh.1.trans a.sh.1, b.sh.2.trans a.sh.2⟩, a.kp.step b.kp a.new, a.mks.tr b.mks, a.tup.trans b.tup, fun x hx => ?_⟩
  rcases b.new x hx with h1 | h1
  · exact a.new x h1
  · by_cases c : x ∈ own h s
    · exact .inl c
    · exact .inr (a.kp.free (Nin.intro fun y hy e => c (e ▸ hy)) h1)
theorem StpB.step {K : PySem.W.Frag} {CR CM : Addr} {ps : List Str} {body : Str → List PyData} {h h1 : HA} {H H1 H2 : Hp} {s s1 s2 : Hs} (a : StpB K CR CM ps body h H s h1 H1 s1) (b : Stp K CR CM ps body h1 H1 s1 H2 s2) : StpB K CR CM ps body h H s h1 H2 s2 :=
  a.tr ⟨b.at_, rfl, ⟨rfl, rfl⟩, b.kp, b.ti.mks, b.tup a.at_, b.new⟩
theorem StpB.same {K : PySem.W.Frag} {CR CM : Addr} {ps : List Str} {body : Str → List PyData} (hr : ∀ p ∈ ps, ∀ x ∈ body p, RowK ps x) {h h1 : HA} {H H1 H2 : Hp} {s s1 : Hs} (a : StpB K CR CM ps body h H s h1 H1 s1) (k : Kp [] H1 H2) : StpB K CR CM ps body h H s h1 H2 s1 :=
  a.step (Stp.same hr a.at_ k)
theorem HouseAt.fresh {K : PySem.W.Frag} {CR CM : Addr} {ps : List Str} {body : Str → List PyData} (hr : ∀ p ∈ ps, ∀ x ∈ body p, RowK ps x) {h : HA} {H : Hp} {s : Hs} {b : Addr} (I : HouseAt K CR CM ps body H h s) (hb : H b = none) :
    StpB K CR CM ps body h H s (h.brk b) (upd (upd H b (.dK [])) h.self (.ins CR h.dx (runF (h.brk b)))) s := by
  have k0 : Kp [] H (upd H b (.dK [])) := Kp.refl.upd_new hb
  have J := I.same hr k0
  have own0 : ∀ {x : Addr}, x ∈ own h s → x ≠ b := fun hx q => by
    obtain ⟨_, o, e⟩ := I.notup _ hx
    rw [q, hb] at e
    cases e
  have nS : ∀ x ∈ h.sh :: h.shs.map (·.a), x ≠ b := fun x hx q => by
    rcases List.mem_cons.mp hx with rfl | hx
    · have := I.sh; rw [q, hb] at this; cases this
    · obtain ⟨y, hy, rfl⟩ := List.mem_map.mp hx
      have := I.shk y hy; rw [q, hb] at this; cases this
  have eb : upd H b (.dK []) b = some (.dK []) := upd_same
  have tk0 := TupK.same k0
  have mk0 : MK CM H (upd H b (.dK [])) := (TIK.same k0).mks
  generalize upd H b (.dK []) = Hm at *
  have n9 := J.n9
  have tk : TupK Hm (upd Hm h.self (.ins CR h.dx (runF (h.brk b)))) := .of (W := [h.self]) (Kp.refl.upd_mem List.mem_cons_self) fun x hx => by rw [List.mem_singleton.mp hx]; exact (J.notup _ (own9 (by simp))).1
  have mk : MK CM Hm (upd Hm h.self (.ins CR h.dx (runF (h.brk b)))) := .self J.ob
  have up : ∀ {y : Addr} {u : HO}, y ≠ h.self → Hm y = some u → upd Hm h.self (.ins CR h.dx (runF (h.brk b))) y = some u := fun n g => (upd_ne n).trans g
  have mem : ∀ x ∈ own (h.brk b) s, x ∈ own h s ∨ x = b := fun x hx => by
    unfold own at hx ⊢
    simp only [HA.nine, List.mem_append, List.mem_cons, List.not_mem_nil, or_false] at hx ⊢
    rcases hx with (q | q | q | q | q | q | q | q | q) | q | q
    all_goals first | exact .inr q | exact .inl (.inl (by simp [show x = _ from q])) | exact .inl (.inr (.inl q)) | exact .inl (.inr (.inr q))
  refine ⟨⟨upd_same, up (J.sne (own9 (by simp)) List.mem_cons_self) J.sh, fun y hy => up (J.sne (own9 (by simp)) (List.mem_cons_of_mem _ (List.mem_map.mpr ⟨y, hy, rfl⟩))) (J.shk y hy), fun p hp => ?_,
    up (y := h.st) (fun q => by simp [q] at n9) J.st, up (y := h.md) (fun q => by simp [q] at n9) J.md, up (y := h.ln) (fun q => by simp [q] at n9) J.ln, fun c hc => ⟨(J.lc c hc).1, up (J.c9 (by simp) hc).symm (J.lc c hc).2⟩,
    up (own0 (own9 (by simp))).symm eb, up (y := h.mt) (fun q => by simp [q] at n9) J.mt, up (y := h.ft) (fun q => by simp [q] at n9) J.ft, J.nt.tup J.nf (fun o g => up (y := h.nt) (fun q => by simp [q] at n9) g) tk, J.wt.tup J.wf (fun o g => up (y := h.wt) (fun q => by simp [q] at n9) g) tk, J.nf, J.wf, fun k o g => ?_, ?_, fun x hx m => ?_, J.qn, J.qp, J.lm, J.wm⟩, rfl, ⟨rfl, rfl⟩, (Kp.nil_W k0).upd_mem (own9 (by simp)), mk0.tr mk, tk0.trans tk, fun x hx => ?_⟩
  · obtain ⟨v, f, dv⟩ := J.fnd p hp
    exact ⟨v, f, Dp.tups tk _ _ (body_flat hr hp) dv⟩
  · obtain ⟨⟨dx, e1⟩, e2⟩ := J.mo k o g
    exact ⟨⟨dx, mk _ _ _ _ _ e1⟩, up (J.d9 (by simp) (List.mem_of_getElem? g)).symm e2⟩
  · have nd := J.nd
    have e1 : own h s = [h.self, h.st, h.md, h.ln] ++ h.br :: ([h.mt, h.ft, h.nt, h.wt] ++ (s.cells ++ s.dicts)) := rfl
    have e2 : own (h.brk b) s = [h.self, h.st, h.md, h.ln] ++ b :: ([h.mt, h.ft, h.nt, h.wt] ++ (s.cells ++ s.dicts)) := rfl
    have o1 : ∀ x ∈ [h.self, h.st, h.md, h.ln] ++ ([h.mt, h.ft, h.nt, h.wt] ++ (s.cells ++ s.dicts)), x ∈ own h s := fun x hx => by
      rw [e1]
      rcases List.mem_append.mp hx with hx | hx
      · exact List.mem_append_left _ hx
      · exact List.mem_append_right _ (List.mem_cons_of_mem _ hx)
    rw [e1, List.Perm.nodup_iff List.perm_middle, List.nodup_cons] at nd
    rw [e2, List.Perm.nodup_iff List.perm_middle, List.nodup_cons]
    exact ⟨fun m => own0 (o1 _ m) rfl, nd.2⟩
  · rcases mem x m with m | m
    · exact J.sa x hx m
    · exact nS x hx m
  · rcases mem x hx with m | rfl
    · exact .inl m
    · exact .inr hb
theorem putF_len {f : Str} {v : V} : ∀ fs : List (Str × V), (putF f v fs).length ≤ fs.length + 1
  | [] => Nat.le_refl _
  | (g, u) :: r => by
    unfold putF
    have := putF_len (f := f) (v := v) r
    split <;> simp only [List.length_cons] <;> omega
/-- what is made so far of a new house -/
structure NF (CR : Addr) (H1 H : Hp) (me dx : Addr) (fs : List (Str × V)) (cs : List (Addr × HO)) : Prop where
  ob : H me = some (.ins CR dx fs)
  kp : Kp [me] H1 H
  at_ : ∀ c ∈ cs, H c.1 = some c.2 ∧ H1 c.1 = none
  nd : (me :: cs.map (·.1)).Nodup
  ln : fs.length ≤ cs.length + 1
theorem NF.get {CR : Addr} {H1 H : Hp} {me dx : Addr} {fs : List (Str × V)} {cs : List (Addr × HO)} (N : NF CR H1 H me dx fs cs) {l : Addr} {o : HO} (hl : H l = none) : upd H l o me = some (.ins CR dx fs) := (upd_ne (ne_of_none N.ob hl)).trans N.ob
theorem NF.step {CR : Addr} {H1 H : Hp} {me dx : Addr} {fs : List (Str × V)} {cs : List (Addr × HO)} (N : NF CR H1 H me dx fs cs) {l : Addr} {o : HO} (hl : H l = none) (f : Str) :
    NF CR H1 (upd (upd H l o) me (.ins CR dx (putF f (.ref l) fs))) me dx (putF f (.ref l) fs) (cs ++ [(l, o)]) := by
  have ns : me ≠ l := ne_of_none N.ob hl
  have nd := List.nodup_cons.mp N.nd
  refine ⟨upd_same, (N.kp.upd_new hl).upd_mem List.mem_cons_self, fun c hc => ?_, ?_, ?_⟩
  · rcases List.mem_append.mp hc with hc | hc
    · obtain ⟨a1, a2⟩ := N.at_ c hc
      exact ⟨(upd_ne fun e => nd.1 (List.mem_map.mpr ⟨c, hc, e⟩)).trans ((upd_ne (ne_of_none a1 hl)).trans a1), a2⟩
    · rw [List.mem_singleton.mp hc]
      exact ⟨(upd_ne ns.symm).trans upd_same, N.kp.free ⟨ns.symm, trivial⟩ hl⟩
  · rw [List.map_append, List.nodup_cons, List.mem_append, not_or]
    refine ⟨⟨nd.1, fun m => ns (by simpa using m)⟩, List.nodup_append.mpr ⟨nd.2, List.pairwise_singleton _ _, fun a ha b hb e => ?_⟩⟩
    have hb : b = l := List.mem_singleton.mp hb
    subst hb
    subst e
    obtain ⟨c, hc, e⟩ := List.mem_map.mp ha
    have := (N.at_ c hc).1
    rw [e, hl] at this
    cases this
  · have := N.ln
    have := putF_len (f := f) (v := V.ref l) fs
    rw [List.length_append, List.length_singleton]
    omega
theorem FAt.map {shs sh' : List Sf} {p : Str} {v : V} (e : sh'.map (·.kvs) = shs.map (·.kvs)) (h : FAt shs p v) : FAt sh' p v := by
  obtain ⟨j, x, ej, ev, lt⟩ := h
  have g : ∀ (i : Nat), (sh'[i]?).map (·.kvs) = (shs[i]?).map (·.kvs) := fun i => by rw [← List.getElem?_map, e, List.getElem?_map]
  have gj := g j
  rw [ej] at gj
  cases e1 : sh'[j]? with
  | none => rw [e1] at gj; cases gj
  | some y =>
    rw [e1] at gj
    have q : y.kvs = x.kvs := Option.some.inj gj
    refine ⟨j, y, e1, by rw [q]; exact ev, fun i z hi hz => ?_⟩
    have gi := g i
    rw [hz] at gi
    cases e2 : shs[i]? with
    | none => rw [e2] at gi; cases gi
    | some u =>
      rw [e2] at gi
      have q2 : z.kvs = u.kvs := Option.some.inj gi
      rw [q2]
      exact lt i u hi e2
def spTakeR (K : PySem.W.Frag) (CR CM : Addr) : Sp := fun vs H Q _ => ∃ (h : HA) (s : Hs) (ps : List Str) (body : Str → List PyData) (p : Str), vs = [.ref h.self, .str p] ∧ BodyOk ps body ∧ HouseAt K CR CM ps body H h s ∧ p ∈ ps ∧ Few s.ab ∧ s.ab.lot ps ≤ 5000 ∧
  ∀ H' h' s', StpB K CR CM ps body h H s h' H' s' → s'.ab = (takeF body 9 s.ab p).1 → Q (.int (((takeF body 9 s.ab p).2 + 1 : Nat) : Int)) H'
def spLogR (K : PySem.W.Frag) (CR CM : Addr) : Sp := fun vs H Q _ => ∃ (h : HA) (s : Hs) (ps : List Str) (body : Str → List PyData), vs = [.ref h.self] ∧ HouseAt K CR CM ps body H h s ∧
  ∀ l ws, H l = none → DpAll K H ws s.notes → Q (.ref l) (upd H l (.lst ws))
def spPaperR (K : PySem.W.Frag) (CR CM : Addr) : Sp := fun vs H Q _ => ∃ (h : HA) (s : Hs) (ps : List Str) (body : Str → List PyData), vs = [.ref h.self] ∧ HouseAt K CR CM ps body H h s ∧
  ∀ l ws, H l = none → DpAll K H ws s.waits → Q (.ref l) (upd H l (.lst ws))
def spRInit (K : PySem.W.Frag) (CR CM : Addr) : Sp := fun vs H Q _ => ∃ (self dx F : Addr) (shs : List Sf) (ps : List Str) (body : Str → List PyData), vs = [.ref self, .ref F] ∧ H self = some (.ins CR dx []) ∧ H F = some (.lst (shs.map fun x => V.ref x.a)) ∧ (∀ x ∈ shs, ShOk K H ps x) ∧ shs.length ≤ 3 ∧
  BodyOk ps body ∧ (∀ p ∈ ps, ∃ v, FAt shs p v ∧ Dp K H v (.tuple (body p))) ∧
  ∀ H' h, h.self = self → HouseAt K CR CM ps body H' h s0 → Kp [self] H H' → TupK H H' → (∀ x ∈ own h s0, x = self ∨ H x = none) → (∀ x ∈ h.sh :: h.shs.map (·.a), H x = none) → Q .non H'
section
variable {P : Program} {w : World} {K : PySem.W.Frag} {mg : Str → Option Value} {base : Heap} {C_Module C_Runs : Addr} {n : Nat}
theorem ok_Runs_log {f : Addr} {fd : FuncData} (F : Fun K "log" "Runs.log" s_Runs_log f fd) (T : Txt K mg C_Module C_Runs)
     :
    FnOk P w K mg base CX0 1 f fd ["self"] (spLogR K C_Runs C_Module) := by
  refine F.ok sc_Runs_log (fun vs H Q E h => ?_) (fun cdv A outer s H vs Q E hr h => ?_)
  · obtain ⟨h, s, ps, body, rfl, _⟩ := h
    rfl
  · skip
    obtain ⟨h, s, ps, body, rfl, I, q⟩ := h
    refine ⟨_, (pss_one (ps_ret (pe_callTy (listK (K := K) rfl) (by rfl) T.n_list (by decide +kernel) (pa_cons (kFld (K := K) rfl (pe_fld (pv 0) rfl)) pa_nil)))), ?_⟩
    refine st_start (σ' := [some (.ref h.self)]) rfl ?_
    obtain ⟨ws, e, d⟩ := I.nt
    walk_at "S"
    refine s_ins I.ob T.cl_Runs T.n_Runs_notes (lkR_nt h) ?_
    walk_at "S"
    refine s_listL (sq_l e) fun l hl => ?_
    exact q l ws hl d
theorem ok_Runs_paper {f : Addr} {fd : FuncData} (F : Fun K "paper" "Runs.paper" s_Runs_paper f fd) (T : Txt K mg C_Module C_Runs)
     :
    FnOk P w K mg base CX0 1 f fd ["self"] (spPaperR K C_Runs C_Module) := by
  refine F.ok sc_Runs_paper (fun vs H Q E h => ?_) (fun cdv A outer s H vs Q E hr h => ?_)
  · obtain ⟨h, s, ps, body, rfl, _⟩ := h
    rfl
  · skip
    obtain ⟨h, s, ps, body, rfl, I, q⟩ := h
    refine ⟨_, (pss_one (ps_ret (pe_callTy (listK (K := K) rfl) (by rfl) T.n_list (by decide +kernel) (pa_cons (kFld (K := K) rfl (pe_fld (pv 0) rfl)) pa_nil)))), ?_⟩
    refine st_start (σ' := [some (.ref h.self)]) rfl ?_
    obtain ⟨ws, e, d⟩ := I.wt
    walk_at "S"
    refine s_ins I.ob T.cl_Runs T.n_Runs_waits (lkR_wt h) ?_
    walk_at "S"
    refine s_listL (sq_l e) fun l hl => ?_
    exact q l ws hl d
theorem ok_Runs_take {f : Addr} {fd : FuncData} (F : Fun K "take" "Runs.take" s_Runs_take f fd) (T : Txt K mg C_Module C_Runs) (D_want_path : DnF P w K mg base 3 "want_path" ["path"] (spWantPath K)) (D_Runs_taken : DmF P w K mg base 64 C_Runs "taken" ["self", "path"] (spTakenR K C_Runs C_Module 9)) :
    FnOk P w K mg base CX0 65 f fd ["self", "path"] (spTakeR K C_Runs C_Module) := by
  refine F.ok sc_Runs_take (fun vs H Q E h => ?_) (fun cdv A outer s H vs Q E hr h => ?_)
  · obtain ⟨h, s, ps, body, p, rfl, _⟩ := h
    rfl
  · obtain ⟨f_want_path, fd_want_path, G_want_path, m_want_path, k_want_path, b_want_path⟩ := D_want_path; obtain ⟨f_Runs_taken, fd_Runs_taken, G_Runs_taken, mt_Runs_taken, b_Runs_taken⟩ := D_Runs_taken
    obtain ⟨h, s, ps, body, p, rfl, B, I, hp, fw, lt, q⟩ := h
    refine ⟨_, (pss_cons (ps_expr (pe_call G_want_path (hr.mono (by first | decide | omega)) (by rfl) m_want_path k_want_path b_want_path .nil pass0 (pa_cons (pv 1) pa_nil)))
      (pss_cons (ps_fld (pv 0) pe_dnewK rfl)
      (pss_cons (ps_try_thru0 (pss_one (ps_set (i := 2) sc_Runs_take.nd rfl (Or.inl rfl) (pe_meth (pv 0) T.cl_Runs mt_Runs_taken G_Runs_taken (hr.mono (by first | decide | omega)) b_Runs_taken .nil pass0 (pa_cons (pv 1) pa_nil)))))
      (pss_one (ps_ret (kFld (K := K) rfl (pe_fld (pv 2) rfl))))))), ?_⟩
    refine st_start (σ' := [some (.ref h.self), some (.str p), none, none]) rfl ?_
    walk_at "S"
    refine ⟨p, rfl, B.nm p hp, fun H1 k1 => ?_⟩
    have I1 := I.same B.row k1
    walk_at "S"
    intro b hb
    walk_at "S"
    refine s_insP ((upd_ne (ne_of_none I1.ob hb)).trans I1.ob) T.cl_Runs T.n_Runs_broken (by show 9 < 1000; decide) ?_
    rw [runF_brk]
    have hb0 : H b = none := k1.free trivial hb
    have st2 := ((StpB.refl I).same B.row k1).tr (I1.fresh B.row hb)
    generalize upd (upd H1 b (.dK [])) h.self (.ins C_Runs h.dx (runF (h.brk b))) = H2 at *
    have I2 := st2.at_
    walk_at "S"
    refine s_insM I2.ob (lkR_none (h.brk b) (m := "taken") (by decide +kernel)) ?_
    walk_at "S"
    refine ⟨h.brk b, s, ps, body, p, rfl, B, I2, hp, fw, ?_, lt, fun H3 s3 o st3 ea eo => ?_⟩
    · have : rem ps s.ab ≤ ps.length := List.length_filter_le _ _
      have := B.few
      omega
    · obtain ⟨⟨ox, em⟩, _⟩ := st3.at_.mo _ _ eo
      walk_at "S"
      refine s_ins em T.cl_Module T.n_Module_number (lk_num _ _ _) ?_
      walk_at "S"
      exact q _ _ _ (st2.step st3) ea
theorem ok_Runs_init {f : Addr} {fd : FuncData} (F : Fun K "__init__" "Runs.__init__" s_Runs_init f fd) (T : Txt K mg C_Module C_Runs)
    (D_want_finders : DnF P w K mg base 13 "want_finders" ["finders"] (spWantFinders K)) :
    FnOk P w K mg base CX0 14 f fd ["self", "finders"] (spRInit K C_Runs C_Module) := by
  refine F.ok sc_Runs_init (fun vs H Q E h => ?_) (fun cdv A outer s H vs Q E hr h => ?_)
  · obtain ⟨self, dx, F, shs, ps, body, rfl, _⟩ := h
    rfl
  · obtain ⟨f_want_finders, fd_want_finders, G_want_finders, m_want_finders, k_want_finders, b_want_finders⟩ := D_want_finders
    obtain ⟨self, dx, F_, shs, ps, body, rfl, eS, eF, hs, h3, B, fnd, q⟩ := h
    refine ⟨_, (pss_cons (ps_expr (pe_call G_want_finders (hr.mono (by first | decide | omega)) (by rfl) m_want_finders k_want_finders b_want_finders .nil pass0 (pa_cons (pv 1) pa_nil)))
      (pss_cons (ps_fld (pv 0) (pe_lc (own := [("finder", 2)]) (g := gName 2) (tt := tYes) rfl sc_Runs_init.nd (kiL (K := K) rfl (pi_list (pv 1))) (blkOk_by (own := [("finder", 2)]) (N := N_Runs_init) (sc := (defScope s_Runs_init)) (by decide +kernel)) (fun _ _ _ _ _ => (pg_name (i := 2) sc_Runs_init.nd rfl (Or.inl rfl))) (fun _ _ _ _ _ => pts_nil) (fun _ _ _ _ _ => (pe_callTy call_dictD (by rfl) T.n_dict (by decide +kernel) (pa_cons (pv 2) pa_nil)))) rfl)
      (pss_cons (ps_fld (pv 0) pe_dnewK rfl)
      (pss_cons (ps_fld (pv 0) (pe_lst pa_nil) rfl)
      (pss_cons (ps_fld (pv 0) (pe_lst pa_nil) rfl)
      (pss_cons (ps_fld (pv 0) pe_dnewK rfl)
      (pss_cons (ps_fld (pv 0) (pe_lst pa_nil) rfl)
      (pss_cons (ps_fld (pv 0) pe_dnewK rfl)
      (pss_cons (ps_fld (pv 0) (pe_lst pa_nil) rfl)
      (pss_one (ps_fld (pv 0) (pe_lst pa_nil) rfl))))))))))), ?_⟩
    refine st_start (σ' := [some (.ref self), some (.ref F_), none]) rfl ?_
    walk_at "S"
    refine ⟨F_, shs, ps, rfl, eF, hs, h3, B.nm, B.few, fun H1 k1 => ?_⟩
    have eF1 := k1.get trivial eF
    walk_at "S"
    refine ⟨⟨_, sq_l eF1⟩, fun D hD => ?_⟩
    let PL : Nat → List V → Prop := fun i xs => xs.length = i
    have L : LcOkP D (shs.map fun x => V.ref x.a).length PL [] H1 (fun _ _ => True) := ⟨small_le (by rw [List.length_map]; omega), rfl, hD, trivial, fun _ _ _ h => h⟩
    refine lc_it (walk_list (K := K) (a := F_) (xs := shs.map fun x => V.ref x.a)) (fun i H' => ∃ sh' : List Sf, H' D = some (.lst (sh'.map fun x => V.ref x.a)) ∧ Kp [] H1 H' ∧ sh'.map (·.kvs) = (shs.take i).map (·.kvs) ∧ ∀ y ∈ sh', H' y.a = some (.dK y.kvs) ∧ H1 y.a = none) ⟨[], upd_same, Kp.refl.upd_new hD, by simp, by simp⟩
      (fun i H' _ I => by obtain ⟨_, _, k, _⟩ := I; exact sq_l (k.get trivial eF1)) (fun i x Hp_ H' hi I y => ?_) fun H2 I => ?_
    · obtain ⟨rfl, hx⟩ := y
      obtain ⟨sh', eD, k2, em, hy⟩ := I
      rw [List.getElem?_map] at hx
      obtain ⟨y, ey, rfl⟩ : ∃ y, shs[i]? = some y ∧ x = V.ref y.a := by
        cases e : shs[i]? with
        | none => rw [e] at hx; cases hx
        | some y => rw [e] at hx; exact ⟨y, rfl, (Option.some.inj hx).symm⟩
      have sy := (hs y (List.mem_of_getElem? ey)).at_
      have ls : sh'.length ≤ 3 := by
        have := congrArg List.length em
        rw [List.length_map, List.length_map, List.length_take] at this
        omega
      walk_at "S"
      refine ⟨rfl, ?_⟩
      walk_at "S"
      refine ⟨y.a, y.kvs, rfl, .inl (k2.get trivial (k1.get trivial sy)), fun p hp => ?_⟩
      have np : D ≠ p := ne_of_none eD hp
      refine ⟨_, (upd_ne np).trans eD, small_lt (by rw [List.length_map]; omega), sh' ++ [⟨p, y.kvs⟩], by rw [upd_same, List.map_append]; rfl, (k2.upd_new hp).upd_loc hD, ?_, fun z hz => ?_⟩
      · rw [List.map_append, em, take_put ey, List.map_append]
        rfl
      · rcases List.mem_append.mp hz with hz | hz
        · obtain ⟨a1, a2⟩ := hy z hz
          refine ⟨(upd_ne fun e => ?_).trans ((upd_ne fun e => ?_).trans a1), a2⟩
          · rw [e, eD] at a1
            cases sh' with
            | nil => cases hz
            | cons => cases a1
          · rw [e, hp] at a1; cases a1
        · rw [List.mem_singleton.mp hz]
          exact ⟨(upd_ne np.symm).trans upd_same, k2.free trivial hp⟩
    · obtain ⟨sh', eD, k2, em, hy⟩ := I
      rw [List.length_map, List.take_length] at em
      have k02 := k1.tr k2
      have e2 := k02.get trivial eS
      have N0 : NF C_Runs H2 (upd H2 self (.ins C_Runs dx (putF "shelves" (.ref D) []))) self dx (putF "shelves" (.ref D) []) [] := ⟨upd_same, Kp.refl.upd_mem List.mem_cons_self, by simp, by simp, Nat.le_refl _⟩
      walk_at "S"
      refine s_insP e2 T.cl_Runs T.n_Runs_shelves (by decide) ?_
      generalize upd H2 self (.ins C_Runs dx (putF "shelves" (.ref D) [])) = Ha at *
      walk_at "S"
      intro st hst
      walk_at "S"
      refine s_insP (N0.get hst) T.cl_Runs T.n_Runs_standing (by have := N0.ln; simp only [List.length_append, List.length_cons, List.length_nil] at this; omega) ?_
      have N1 := N0.step (o := .dK []) hst "standing"
      generalize upd (upd Ha st (.dK [])) self (.ins C_Runs dx (putF "standing" (.ref st) _)) = Hb1 at *
      walk_at "S"
      refine ⟨small_le (by simp), fun md hmd => ?_⟩
      walk_at "S"
      refine s_insP (N1.get hmd) T.cl_Runs T.n_Runs_made (by have := N1.ln; simp only [List.length_append, List.length_cons, List.length_nil] at this; omega) ?_
      have N2 := N1.step (o := .lst []) hmd "made"
      generalize upd (upd Hb1 md (.lst [])) self (.ins C_Runs dx (putF "made" (.ref md) _)) = Hb2 at *
      walk_at "S"
      refine ⟨small_le (by simp), fun ln hln => ?_⟩
      walk_at "S"
      refine s_insP (N2.get hln) T.cl_Runs T.n_Runs_line (by have := N2.ln; simp only [List.length_append, List.length_cons, List.length_nil] at this; omega) ?_
      have N3 := N2.step (o := .lst []) hln "line"
      generalize upd (upd Hb2 ln (.lst [])) self (.ins C_Runs dx (putF "line" (.ref ln) _)) = Hb3 at *
      walk_at "S"
      intro br hbr
      walk_at "S"
      refine s_insP (N3.get hbr) T.cl_Runs T.n_Runs_broken (by have := N3.ln; simp only [List.length_append, List.length_cons, List.length_nil] at this; omega) ?_
      have N4 := N3.step (o := .dK []) hbr "broken"
      generalize upd (upd Hb3 br (.dK [])) self (.ins C_Runs dx (putF "broken" (.ref br) _)) = Hb4 at *
      walk_at "S"
      refine ⟨small_le (by simp), fun mt hmt => ?_⟩
      walk_at "S"
      refine s_insP (N4.get hmt) T.cl_Runs T.n_Runs_met (by have := N4.ln; simp only [List.length_append, List.length_cons, List.length_nil] at this; omega) ?_
      have N5 := N4.step (o := .lst []) hmt "met"
      generalize upd (upd Hb4 mt (.lst [])) self (.ins C_Runs dx (putF "met" (.ref mt) _)) = Hb5 at *
      walk_at "S"
      intro ft hft
      walk_at "S"
      refine s_insP (N5.get hft) T.cl_Runs T.n_Runs_fates (by have := N5.ln; simp only [List.length_append, List.length_cons, List.length_nil] at this; omega) ?_
      have N6 := N5.step (o := .dK []) hft "fates"
      generalize upd (upd Hb5 ft (.dK [])) self (.ins C_Runs dx (putF "fates" (.ref ft) _)) = Hb6 at *
      walk_at "S"
      refine ⟨small_le (by simp), fun nt hnt => ?_⟩
      walk_at "S"
      refine s_insP (N6.get hnt) T.cl_Runs T.n_Runs_notes (by have := N6.ln; simp only [List.length_append, List.length_cons, List.length_nil] at this; omega) ?_
      have N7 := N6.step (o := .lst []) hnt "notes"
      generalize upd (upd Hb6 nt (.lst [])) self (.ins C_Runs dx (putF "notes" (.ref nt) _)) = Hb7 at *
      walk_at "S"
      refine ⟨small_le (by simp), fun wt hwt => ?_⟩
      walk_at "S"
      refine s_insP (N7.get hwt) T.cl_Runs T.n_Runs_waits (by have := N7.ln; simp only [List.length_append, List.length_cons, List.length_nil] at this; omega) ?_
      have N8 := N7.step (o := .lst []) hwt "waits"
      generalize upd (upd Hb7 wt (.lst [])) self (.ins C_Runs dx (putF "waits" (.ref wt) _)) = Hb8 at *
      have N8' := N8
      rw [show putF "waits" (.ref wt) _ = runF ⟨self, dx, D, st, md, ln, br, mt, ft, nt, wt, sh'⟩ from runF_all ⟨self, dx, D, st, md, ln, br, mt, ft, nt, wt, sh'⟩] at N8'
      have at8 := N8.at_
      simp only [List.nil_append, List.cons_append, List.forall_mem_cons] at at8
      obtain ⟨⟨a1, b1⟩, ⟨a2, b2⟩, ⟨a3, b3⟩, ⟨a4, b4⟩, ⟨a5, b5⟩, ⟨a6, b6⟩, ⟨a7, b7⟩, ⟨a8, b8⟩, _⟩ := at8
      have nD : D ≠ self := fun e => by rw [e, e2] at eD; cases eD
      have nY : ∀ y ∈ sh', y.a ≠ self := fun y my e => by have := (hy y my).1; rw [e, e2] at this; cases this
      have kp8 := N8.kp
      have kf : Kp [self] H Hb8 := (Kp.nil_W k02).tr kp8
      have tkf : TupK H Hb8 := (TupK.same k02).trans (.of kp8 fun x hx => by
        rw [List.mem_singleton.mp hx]
        intro xs r
        rcases r with r | ⟨o, r⟩ <;> rw [e2] at r <;> cases r)
      have nd8 := N8.nd
      simp only [List.nil_append, List.cons_append, List.map_cons, List.map_nil] at nd8
      have notS : ∀ x, (∃ o, H2 x = some o) → x ≠ self → x ∉ own ⟨self, dx, D, st, md, ln, br, mt, ft, nt, wt, sh'⟩ s0 := fun x e ns m => by
        obtain ⟨o, e⟩ := e
        have m : x ∈ [self, st, md, ln, br, mt, ft, nt, wt] ++ [] := m
        rw [List.append_nil] at m
        simp only [List.mem_cons, List.not_mem_nil, or_false] at m
        rcases m with q | q | q | q | q | q | q | q | q
        · exact ns q
        all_goals (rw [q] at e; simp_all)
      refine q _ ⟨self, dx, D, st, md, ln, br, mt, ft, nt, wt, sh'⟩ rfl ⟨N8'.ob, kp8.get ⟨nD, trivial⟩ eD, fun y my => kp8.get ⟨nY y my, trivial⟩ (hy y my).1, fun p hp => ?_, a1, a2, a3, fun c hc => (nomatch hc), a4, a5, a6, ⟨[], a7, .nil⟩, ⟨[], a8, .nil⟩, rfl, rfl, fun k o g => (by cases g), ?_, fun x hx => ?_, List.nodup_nil, fun o ho => (nomatch ho), Nat.le_refl _, Nat.le_refl _⟩ kf tkf (fun x hx => ?_) fun x hx => ?_
      · obtain ⟨v, f, d⟩ := fnd p hp
        exact ⟨v, f.map em, Dp.tups tkf _ _ (body_flat B.row hp) d⟩
      · exact nd8
      · rcases List.mem_cons.mp hx with rfl | hx
        · exact notS _ ⟨_, eD⟩ nD
        · obtain ⟨y, my, rfl⟩ := List.mem_map.mp hx
          exact notS _ ⟨_, (hy y my).1⟩ (nY y my)
      · have m : x ∈ [self, st, md, ln, br, mt, ft, nt, wt] ++ [] := hx
        rw [List.append_nil] at m
        simp only [List.mem_cons, List.not_mem_nil, or_false] at m
        rcases m with q | q | q | q | q | q | q | q | q
        · exact .inl q
        all_goals exact .inr (by rw [q]; exact k02.free trivial (by assumption))
      · rcases List.mem_cons.mp hx with rfl | hx
        · exact k1.free trivial hD
        · obtain ⟨y, my, rfl⟩ := List.mem_map.mp hx
          exact k1.free trivial (hy y my).2
end

/-! the law's own house in the heap -/
structure LA where
  O : Addr
  S : Addr
  tb : Addr
  nm : Addr
  lg : Addr
  pp : Addr
  ln : Addr
  skv : List (Key × V)
abbrev ownF (h : LA) : List (Key × V) := [(.inr "stock", .ref h.S), (.inr "table", .ref h.tb), (.inr "names", .ref h.nm), (.inr "log", .ref h.lg), (.inr "paper", .ref h.pp), (.inr "line", .ref h.ln)]
abbrev LA.six (h : LA) : List Addr := [h.O, h.tb, h.nm, h.lg, h.pp, h.ln]
def ownL (h : LA) (ds : List Addr) : List Addr := h.six ++ ds
abbrev nkv (zs : List Str) : List (Key × V) := zs.map fun z => (Sum.inr z, V.bl true)
abbrev lnE (x : Nat × Nat) : PyData := .tuple [numD x.1, .int (x.2 : Nat)]
theorem lnE_flat (l : List (Nat × Nat)) : flatAll (l.map lnE) = true := flatAll_of fun x hx => by
  obtain ⟨y, _, rfl⟩ := List.mem_map.mp hx
  rfl
structure OwnAt (K : PySem.W.Frag) (ps : List Str) (body : Str → List PyData) (H : Hp) (h : LA) (ds : List Addr) (a : Ab) : Prop where
  ob : H h.O = some (.dK (ownF h))
  sk : H h.S = some (.dK h.skv)
  fnd : ∀ p ∈ ps, ∃ v, valV h.skv (.inr p) = some v ∧ Dp K H v (.tuple (body p))
  tb : ∃ kvs, H h.tb = some (.dK kvs) ∧ kvs.length = a.qs.length ∧ ∀ p, valV kvs (.inr p) = (a.ix p).map fun k => V.int ((k + 1 : Nat) : Int)
  nm : ∃ kvs, H h.nm = some (.dK kvs) ∧ kvs.length = ds.length ∧ ∀ k : Nat, valV kvs (.inl ((k + 1 : Nat) : Int)) = (ds[k]?).map V.ref
  lg : DLst K H h.lg a.log
  pp : DLst K H h.pp a.pap
  ln : DLst K H h.ln (a.line.map lnE)
  lf : flatAll a.log = true
  pf : flatAll a.pap = true
  mo : ∀ (k : Nat) (d : Addr), ds[k]? = some d → H d = some (.dK (nkv (a.nm.getD k [])))
  len : ds.length = a.qs.length
  nl : a.nm.length = a.qs.length
  nd : (ownL h ds).Nodup
  sa : h.S ∉ ownL h ds
  qn : a.qs.Nodup
  qp : ∀ q ∈ a.qs, q ∈ ps
  lm : a.line.length ≤ a.qs.length
  wm : a.pap.length ≤ a.qs.length
structure LStp (K : PySem.W.Frag) (ps : List Str) (body : Str → List PyData) (h : LA) (H : Hp) (ds : List Addr) (H' : Hp) (ds' : List Addr) (a' : Ab) : Prop where
  at_ : OwnAt K ps body H' h ds' a'
  kp : Kp (ownL h ds) H H'
  ti : TIK H H'
  tup : TupK H H'
  new : ∀ x ∈ ownL h ds', x ∈ ownL h ds ∨ H x = none
  ext : ∀ (k : Nat) (d : Addr), ds[k]? = some d → ds'[k]? = some d
section
variable {K : PySem.W.Frag} {ps : List Str} {body : Str → List PyData} {H H' : Hp} {h : LA} {ds : List Addr} {a : Ab}
theorem OwnAt.mut (I : OwnAt K ps body H h ds a) {x : Addr} (hx : x ∈ ownL h ds) : Mut H x := by
  unfold ownL at hx
  rcases List.mem_append.mp hx with hx | hx
  · simp only [LA.six, List.mem_cons, List.not_mem_nil, or_false] at hx
    rcases hx with rfl | rfl | rfl | rfl | rfl | rfl
    · exact .inr ⟨_, I.ob⟩
    · obtain ⟨_, e, _⟩ := I.tb; exact .inr ⟨_, e⟩
    · obtain ⟨_, e, _⟩ := I.nm; exact .inr ⟨_, e⟩
    · obtain ⟨_, e, _⟩ := I.lg; exact .inl ⟨_, e⟩
    · obtain ⟨_, e, _⟩ := I.pp; exact .inl ⟨_, e⟩
    · obtain ⟨_, e, _⟩ := I.ln; exact .inl ⟨_, e⟩
  · obtain ⟨k, hk⟩ := List.mem_iff_getElem?.mp hx
    exact .inr ⟨_, I.mo k x hk⟩
theorem Mut.notup {x : Addr} (m : Mut H x) : NoTup H x := by
  rcases m with ⟨_, e⟩ | ⟨_, e⟩
  · exact .lst e
  · exact notup_dK e
theorem Mut.some {x : Addr} (m : Mut H x) : ∃ o, H x = some o := by
  rcases m with ⟨_, e⟩ | ⟨_, e⟩ <;> exact ⟨_, e⟩
theorem OwnAt.ti (I : OwnAt K ps body H h ds a) {x : Addr} {o : HO} (hx : x ∈ ownL h ds) : TIK H (upd H x o) := .of (W := [x]) (Kp.refl.upd_mem List.mem_cons_self) fun y hy => by rw [List.mem_singleton.mp hy]; exact I.mut hx
theorem OwnAt.tk (I : OwnAt K ps body H h ds a) {x : Addr} {o : HO} (hx : x ∈ ownL h ds) : TupK H (upd H x o) := .of (W := [x]) (Kp.refl.upd_mem List.mem_cons_self) fun y hy => by rw [List.mem_singleton.mp hy]; exact (I.mut hx).notup
theorem OwnAt.S_ne (I : OwnAt K ps body H h ds a) {x : Addr} (hx : x ∈ ownL h ds) : h.S ≠ x := fun e => I.sa (e ▸ hx)
theorem OwnAt.n6 (I : OwnAt K ps body H h ds a) : h.six.Nodup := (List.nodup_append.mp I.nd).1
theorem OwnAt.d6 (I : OwnAt K ps body H h ds a) {x d : Addr} (hx : x ∈ h.six) (hd : d ∈ ds) : x ≠ d := (List.nodup_append.mp I.nd).2.2 x hx d hd
theorem OwnAt.fnd' (I : OwnAt K ps body H h ds a) (hr : ∀ p ∈ ps, ∀ x ∈ body p, RowK ps x) (tk : TupK H H') : ∀ p ∈ ps, ∃ v, valV h.skv (.inr p) = some v ∧ Dp K H' v (.tuple (body p)) := fun p hp => by
  obtain ⟨v, f, d⟩ := I.fnd p hp
  exact ⟨v, f, Dp.tups tk _ _ (body_flat hr hp) d⟩
theorem own6 {x : Addr} (hx : x ∈ h.six) : x ∈ ownL h ds := List.mem_append_left _ hx
theorem ownK {d : Addr} (hd : d ∈ ds) : d ∈ ownL h ds := List.mem_append_right _ hd
/-- what others do -/
theorem OwnAt.kp (hr : ∀ p ∈ ps, ∀ x ∈ body p, RowK ps x) {W : List Addr} (I : OwnAt K ps body H h ds a) (k : Kp W H H') (tk : TupK H H') (n : ∀ x ∈ ownL h ds, Nin x W) (n2 : Nin h.S W) : OwnAt K ps body H' h ds a := by
  have m6 : ∀ {x : Addr} {o : HO}, x ∈ h.six → H x = some o → H' x = some o := fun hx e => k.get (n _ (own6 hx)) e
  refine ⟨m6 (by simp) I.ob, k.get n2 I.sk, I.fnd' hr tk, ?_, ?_, I.lg.tup I.lf (fun o e => m6 (by simp) e) tk, I.pp.tup I.pf (fun o e => m6 (by simp) e) tk, I.ln.tup (lnE_flat _) (fun o e => m6 (by simp) e) tk, I.lf, I.pf, fun j d e => k.get (n _ (ownK (List.mem_of_getElem? e))) (I.mo j d e), I.len, I.nl, I.nd, I.sa, I.qn, I.qp, I.lm, I.wm⟩
  · obtain ⟨kvs, e, r⟩ := I.tb; exact ⟨kvs, m6 (by simp) e, r⟩
  · obtain ⟨kvs, e, r⟩ := I.nm; exact ⟨kvs, m6 (by simp) e, r⟩
theorem OwnAt.same (hr : ∀ p ∈ ps, ∀ x ∈ body p, RowK ps x) (I : OwnAt K ps body H h ds a) (k : Kp [] H H') : OwnAt K ps body H' h ds a := I.kp hr k (TupK.same k) (fun _ _ => trivial) trivial
theorem LStp.refl (I : OwnAt K ps body H h ds a) : LStp K ps body h H ds H ds a := ⟨I, Kp.refl, .same Kp.refl, fun _ _ e => e, fun x hx => .inl hx, fun k d e => e⟩
theorem LStp.tr {H1 H2 : Hp} {d1 d2 : List Addr} {a1 a2 : Ab} (s : LStp K ps body h H ds H1 d1 a1) (t : LStp K ps body h H1 d1 H2 d2 a2) : LStp K ps body h H ds H2 d2 a2 := by
  refine ⟨t.at_, s.kp.step t.kp s.new, s.ti.tr t.ti, s.tup.trans t.tup, fun x hx => ?_, fun k d e => t.ext k d (s.ext k d e)⟩
  rcases t.new x hx with h1 | h1
  · exact s.new x h1
  · by_cases c : x ∈ ownL h ds
    · exact .inl c
    · exact .inr (s.kp.free (Nin.intro fun y hy e => c (e ▸ hy)) h1)
theorem LStp.same (hr : ∀ p ∈ ps, ∀ x ∈ body p, RowK ps x) (I : OwnAt K ps body H h ds a) (k : Kp [] H H') : LStp K ps body h H ds H' ds a := ⟨I.same hr k, Kp.nil_W k, .same k, TupK.same k, fun x hx => .inl hx, fun k d e => e⟩
/-- one cell anew -/
theorem OwnAt.one (hr : ∀ p ∈ ps, ∀ x ∈ body p, RowK ps x) (I : OwnAt K ps body H h ds a) {x : Addr} {o : HO} (hx : x ∈ ownL h ds) {a' : Ab} (ob : x ≠ h.O)
    (eq : a'.qs = a.qs) (nl : a'.nm.length = a.nm.length) (e1 : x ≠ h.tb) (e2 : x ≠ h.nm) (lg : DLst K (upd H x o) h.lg a'.log) (pp : DLst K (upd H x o) h.pp a'.pap) (ln : DLst K (upd H x o) h.ln (a'.line.map lnE)) (lf : flatAll a'.log = true) (pf : flatAll a'.pap = true)
    (mo : ∀ (k : Nat) (d : Addr), ds[k]? = some d → upd H x o d = some (.dK (nkv (a'.nm.getD k [])))) (lm : a'.line.length ≤ a'.qs.length) (wm : a'.pap.length ≤ a'.qs.length) : LStp K ps body h H ds (upd H x o) ds a' := by
  have ix : ∀ p, a'.ix p = a.ix p := fun p => by unfold Ab.ix; rw [eq]
  refine ⟨⟨(upd_ne ob.symm).trans I.ob, (upd_ne (I.S_ne hx)).trans I.sk, I.fnd' hr (I.tk hx), ?_, ?_, lg, pp, ln, lf, pf, mo, by rw [eq]; exact I.len, by rw [eq, nl]; exact I.nl, I.nd, I.sa, by rw [eq]; exact I.qn, by rw [eq]; exact I.qp, lm, wm⟩, Kp.refl.upd_mem hx, I.ti hx, I.tk hx, fun y hy => .inl hy, fun k d e => e⟩
  · obtain ⟨kvs, e, r1, r2⟩ := I.tb
    exact ⟨kvs, (upd_ne e1.symm).trans e, by rw [eq]; exact r1, fun p => by rw [ix]; exact r2 p⟩
  · obtain ⟨kvs, e, r⟩ := I.nm
    exact ⟨kvs, (upd_ne e2.symm).trans e, r⟩
theorem OwnAt.note (hr : ∀ p ∈ ps, ∀ x ∈ body p, RowK ps x) (I : OwnAt K ps body H h ds a) {vs : List V} {v : V} {x : PyData} (e : H h.lg = some (.lst vs)) (dv : DpAll K H vs a.log) (d : Dp K H v x) (f : flatD x = true) :
    LStp K ps body h H ds (upd H h.lg (.lst (vs ++ [v]))) ds (a.put x) := by
  have n6 := I.n6
  have tk := I.tk (o := .lst (vs ++ [v])) (own6 (x := h.lg) (by simp))
  exact I.one hr (own6 (by simp)) (fun q => by simp [q] at n6) rfl rfl (fun q => by simp [q] at n6) (fun q => by simp [q] at n6) ⟨_, upd_same, DpAll.snoc (Dp.tupsAll tk _ _ I.lf dv) (Dp.tups tk _ _ f d)⟩
    (I.pp.tup I.pf (fun o g => (upd_ne fun q => by simp [q] at n6).trans g) tk) (I.ln.tup (lnE_flat _) (fun o g => (upd_ne fun q => by simp [q] at n6).trans g) tk) (flat_snoc I.lf f) I.pf (fun k d g => (upd_ne (I.d6 (by simp) (List.mem_of_getElem? g)).symm).trans (I.mo k d g)) I.lm I.wm
theorem OwnAt.wait (hr : ∀ p ∈ ps, ∀ x ∈ body p, RowK ps x) (I : OwnAt K ps body H h ds a) {vs : List V} {v : V} {x : PyData} (e : H h.pp = some (.lst vs)) (dv : DpAll K H vs a.pap) (d : Dp K H v x) (f : flatD x = true) (lt : a.pap.length < a.qs.length) :
    LStp K ps body h H ds (upd H h.pp (.lst (vs ++ [v]))) ds { a with pap := a.pap ++ [x] } := by
  have n6 := I.n6
  have tk := I.tk (o := .lst (vs ++ [v])) (own6 (x := h.pp) (by simp))
  exact I.one hr (own6 (by simp)) (fun q => by simp [q] at n6) rfl rfl (fun q => by simp [q] at n6) (fun q => by simp [q] at n6) (I.lg.tup I.lf (fun o g => (upd_ne fun q => by simp [q] at n6).trans g) tk) ⟨_, upd_same, DpAll.snoc (Dp.tupsAll tk _ _ I.pf dv) (Dp.tups tk _ _ f d)⟩
    (I.ln.tup (lnE_flat _) (fun o g => (upd_ne fun q => by simp [q] at n6).trans g) tk) I.lf (flat_snoc I.pf f) (fun k d g => (upd_ne (I.d6 (by simp) (List.mem_of_getElem? g)).symm).trans (I.mo k d g)) I.lm (by show (a.pap ++ [x]).length ≤ _; rw [List.length_append, List.length_singleton]; exact lt)
theorem OwnAt.line (hr : ∀ p ∈ ps, ∀ x ∈ body p, RowK ps x) (I : OwnAt K ps body H h ds a) {vs : List V} {l : List (Nat × Nat)} (dv : DpAll K H vs (l.map lnE)) (lt : l.length ≤ a.qs.length) :
    LStp K ps body h H ds (upd H h.ln (.lst vs)) ds { a with line := l } := by
  have n6 := I.n6
  have tk := I.tk (o := .lst vs) (own6 (x := h.ln) (by simp))
  exact I.one hr (own6 (by simp)) (fun q => by simp [q] at n6) rfl rfl (fun q => by simp [q] at n6) (fun q => by simp [q] at n6) (I.lg.tup I.lf (fun o g => (upd_ne fun q => by simp [q] at n6).trans g) tk) (I.pp.tup I.pf (fun o g => (upd_ne fun q => by simp [q] at n6).trans g) tk)
    ⟨_, upd_same, Dp.tupsAll tk _ _ (lnE_flat _) dv⟩ I.lf I.pf (fun k d g => (upd_ne (I.d6 (by simp) (List.mem_of_getElem? g)).symm).trans (I.mo k d g)) lt I.wm
theorem nkv_put (zs : List Str) (z : Str) : putK (nkv zs) (.inr z) (.bl true) = nkv (putN zs z) := by
  have ea : ((nkv zs).any fun kv => decide (kv.1 = (Sum.inr z : Key))) = decide (z ∈ zs) := by
    by_cases c : z ∈ zs
    · rw [decide_eq_true c, List.any_eq_true]
      exact ⟨_, List.mem_map.mpr ⟨z, c, rfl⟩, by simp⟩
    · rw [decide_eq_false c, List.any_eq_false]
      intro kv hkv q
      obtain ⟨y, hy, rfl⟩ := List.mem_map.mp hkv
      exact c (Sum.inr.inj (of_decide_eq_true q) ▸ hy)
  unfold putK putN
  rw [ea]
  by_cases c : z ∈ zs
  · rw [if_pos (decide_eq_true c), if_pos c, List.map_map]
    refine List.map_congr_left fun y _ => ?_
    show (if (Sum.inr y : Key) = Sum.inr z then _ else _) = _
    split <;> rfl
  · rw [if_neg (by simpa using c), if_neg c]
    show _ = (zs ++ [z]).map _
    rw [List.map_append]
    rfl
theorem OwnAt.bind (hr : ∀ p ∈ ps, ∀ x ∈ body p, RowK ps x) (I : OwnAt K ps body H h ds a) {k : Nat} {d : Addr} (ek : ds[k]? = some d) (z : Str) :
    LStp K ps body h H ds (upd H d (.dK (putK (nkv (a.nm.getD k [])) (.inr z) (.bl true)))) ds (a.bind k z) := by
  have n6 := I.n6
  have md := List.mem_of_getElem? ek
  rw [nkv_put]
  have tk := I.tk (o := .dK (nkv (putN (a.nm.getD k []) z))) (ownK (h := h) md)
  have d6 : ∀ {y : Addr}, y ∈ h.six → y ≠ d := fun hy => I.d6 hy md
  have up : ∀ {y : Addr} {o : HO}, y ∈ h.six → H y = some o → upd H d (.dK (nkv (putN (a.nm.getD k []) z))) y = some o := fun hy g => (upd_ne (d6 hy)).trans g
  refine I.one hr (ownK md) (d6 (by simp)).symm rfl (by show (a.nm.set k _).length = _; rw [List.length_set]) (d6 (by simp)).symm (d6 (by simp)).symm (I.lg.tup I.lf (fun o g => up (by simp) g) tk) (I.pp.tup I.pf (fun o g => up (by simp) g) tk) (I.ln.tup (lnE_flat _) (fun o g => up (by simp) g) tk) I.lf I.pf (fun j e g => ?_) I.lm I.wm
  show _ = some (HO.dK (nkv ((a.nm.set k _).getD j [])))
  rw [getD_set]
  by_cases c : k = j
  · subst c
    rw [ek] at g
    cases g
    rw [if_pos ⟨rfl, by have := (List.getElem?_eq_some_iff.mp ek).1; have := I.len; have := I.nl; omega⟩, upd_same]
  · rw [if_neg fun q => c q.1]
    refine (upd_ne fun q => c ?_).trans (I.mo j e g)
    subst q
    have nd := (List.nodup_append.mp I.nd).2.1
    exact (List.getElem?_inj (List.getElem?_eq_some_iff.mp ek).1 nd).mp (ek.trans g.symm)
theorem putK_none {κ : Type} [DecidableEq κ] {kvs : List (κ × V)} {k : κ} {v : V} (h : valV kvs k = none) : putK kvs k v = kvs ++ [(k, v)] := by
  unfold putK
  rw [if_neg (by rw [valV_any, h]; simp)]
theorem ix_snoc {a a' : Ab} {p : Str} (e : a'.qs = a.qs ++ [p]) (q : Str) (n : a.ix p = none) : a'.ix q = if q = p then some a.qs.length else a.ix q := by
  unfold Ab.ix at n ⊢
  rw [e, List.findIdx?_append]
  by_cases c : q = p
  · subst c
    rw [n, if_pos rfl]
    simp
  · rw [if_neg c]
    have : List.findIdx? (fun x => decide (x = q)) [p] = none := by
      rw [List.findIdx?_eq_none_iff]
      intro x hx
      rw [List.mem_singleton.mp hx, decide_eq_false fun e => c e.symm]
    rw [this]
    simp
/-- a new one: its names, its number -/
theorem OwnAt.new (hr : ∀ p ∈ ps, ∀ x ∈ body p, RowK ps x) (I : OwnAt K ps body H h ds a) {d : Addr} {p : Str} (hd : H d = none) (np : a.ix p = none) (hp : p ∈ ps) {kn kt : List (Key × V)}
    (en : H h.nm = some (.dK kn)) (ln : kn.length = ds.length) (rn : ∀ k : Nat, valV kn (.inl ((k + 1 : Nat) : Int)) = (ds[k]?).map V.ref) (et : H h.tb = some (.dK kt)) (lt : kt.length = a.qs.length) (rt : ∀ p, valV kt (.inr p) = (a.ix p).map fun k => V.int ((k + 1 : Nat) : Int)) :
    LStp K ps body h H ds (upd (upd (upd H d (.dK [])) h.nm (.dK (putK kn (.inl ((ds.length + 1 : Nat) : Int)) (.ref d)))) h.tb (.dK (putK kt (.inr p) (.int ((ds.length + 1 : Nat) : Int))))) (ds ++ [d]) { a with qs := a.qs ++ [p], nm := a.nm ++ [[]] } := by
  have k0 : Kp [] H (upd H d (.dK [])) := Kp.refl.upd_new hd
  have J := I.same hr k0
  have own0 : ∀ {x : Addr}, x ∈ ownL h ds → x ≠ d := fun hx q => by
    obtain ⟨o, e⟩ := (I.mut hx).some
    rw [q, hd] at e
    cases e
  have nS : h.S ≠ d := fun q => by have := I.sk; rw [q, hd] at this; cases this
  have edd : upd H d (.dK []) d = some (.dK []) := upd_same
  have en := k0.get trivial en
  have et := k0.get trivial et
  have t0 := TIK.same k0
  have tk0 := TupK.same k0
  generalize upd H d (.dK []) = Hm at *
  have n6 := J.n6
  have vn : valV kn (.inl ((ds.length + 1 : Nat) : Int)) = none := by rw [rn, List.getElem?_eq_none (Nat.le_refl _)]; rfl
  have vt : valV kt (.inr p) = none := by rw [rt, np]; rfl
  rw [putK_none vn, putK_none vt]
  have m1 : h.nm ∈ ownL h ds := own6 (by simp)
  have m2 : h.tb ∈ ownL h ds := own6 (by simp)
  have t1 := J.ti (o := .dK (kn ++ [(.inl ((ds.length + 1 : Nat) : Int), .ref d)])) m1
  have tk1 := J.tk (o := .dK (kn ++ [(.inl ((ds.length + 1 : Nat) : Int), .ref d)])) m1
  have et1 : upd Hm h.nm (.dK (kn ++ [(.inl ((ds.length + 1 : Nat) : Int), .ref d)])) h.tb = some (.dK kt) := (upd_ne (fun q => by simp [q] at n6)).trans et
  have t2 := tik_dic (o := .dK (kt ++ [(.inr p, .int ((ds.length + 1 : Nat) : Int))])) et1
  have tk2 := TupK.dic (o := .dK (kt ++ [(.inr p, .int ((ds.length + 1 : Nat) : Int))])) et1
  have up : ∀ {y : Addr} {u : HO}, y ≠ h.nm → y ≠ h.tb → Hm y = some u → upd (upd Hm h.nm (.dK (kn ++ [(.inl ((ds.length + 1 : Nat) : Int), .ref d)]))) h.tb (.dK (kt ++ [(.inr p, .int ((ds.length + 1 : Nat) : Int))])) y = some u := fun n n' g => (upd_ne n').trans ((upd_ne n).trans g)
  have eN : upd (upd Hm h.nm (.dK (kn ++ [(.inl ((ds.length + 1 : Nat) : Int), .ref d)]))) h.tb (.dK (kt ++ [(.inr p, .int ((ds.length + 1 : Nat) : Int))])) h.nm = some (.dK (kn ++ [(.inl ((ds.length + 1 : Nat) : Int), .ref d)])) := (upd_ne (fun q => by simp [q] at n6)).trans upd_same
  have eT : upd (upd Hm h.nm (.dK (kn ++ [(.inl ((ds.length + 1 : Nat) : Int), .ref d)]))) h.tb (.dK (kt ++ [(.inr p, .int ((ds.length + 1 : Nat) : Int))])) h.tb = some (.dK (kt ++ [(.inr p, .int ((ds.length + 1 : Nat) : Int))])) := upd_same
  have kp2 : Kp (ownL h ds) H (upd (upd Hm h.nm (.dK (kn ++ [(.inl ((ds.length + 1 : Nat) : Int), .ref d)]))) h.tb (.dK (kt ++ [(.inr p, .int ((ds.length + 1 : Nat) : Int))]))) := ((Kp.nil_W k0).upd_mem m1).upd_mem m2
  have tk := tk1.trans tk2
  generalize upd (upd Hm h.nm (.dK (kn ++ [(.inl ((ds.length + 1 : Nat) : Int), .ref d)]))) h.tb (.dK (kt ++ [(.inr p, .int ((ds.length + 1 : Nat) : Int))])) = H2 at *
  have mem : ∀ x ∈ ownL h (ds ++ [d]), x ∈ ownL h ds ∨ x = d := fun x hx => by
    unfold ownL at hx ⊢
    rw [← List.append_assoc] at hx
    rcases List.mem_append.mp hx with q | q
    · exact .inl q
    · exact .inr (List.mem_singleton.mp q)
  refine ⟨⟨up (fun q => by simp [q] at n6) (fun q => by simp [q] at n6) J.ob, up (J.S_ne m1) (J.S_ne m2) J.sk, J.fnd' hr tk, ⟨_, eT, ?_, fun q => ?_⟩, ⟨_, eN, ?_, fun k => ?_⟩, J.lg.tup J.lf (fun o g => up (fun q => by simp [q] at n6) (fun q => by simp [q] at n6) g) tk, J.pp.tup J.pf (fun o g => up (fun q => by simp [q] at n6) (fun q => by simp [q] at n6) g) tk,
    J.ln.tup (lnE_flat _) (fun o g => up (fun q => by simp [q] at n6) (fun q => by simp [q] at n6) g) tk, J.lf, J.pf, fun k e g => ?_, ?_, ?_, ?_, fun m => ?_, ?_, fun q hq => ?_, ?_, ?_⟩, kp2, t0.tr (t1.tr t2), tk0.trans tk, fun x hx => ?_, fun k e g => by rw [List.getElem?_append_left (List.getElem?_eq_some_iff.mp g).1]; exact g⟩
  · show (kt ++ [_]).length = (a.qs ++ [p]).length
    rw [List.length_append, List.length_append, lt]
    rfl
  · rw [valV_snoc _ _ _ _ vt, ix_snoc rfl q np, I.len]
    by_cases c : q = p
    · rw [if_pos (by rw [c]), if_pos c]; rfl
    · rw [if_neg fun e => c (Sum.inr.inj e), if_neg c]; exact rt q
  · rw [List.length_append, List.length_append, ln]
    rfl
  · rw [valV_snoc _ _ _ _ vn]
    by_cases c : k = ds.length
    · subst c
      rw [if_pos rfl, List.getElem?_append_right (Nat.le_refl _), Nat.sub_self]
      rfl
    · rw [if_neg fun e => c (by have := Sum.inl.inj e; omega), rn]
      by_cases l : k < ds.length
      · rw [List.getElem?_append_left l]
      · rw [List.getElem?_eq_none (by omega), List.getElem?_eq_none (by rw [List.length_append, List.length_singleton]; omega)]
  · show _ = some (HO.dK (nkv ((a.nm ++ [[]]).getD k [])))
    rw [List.getElem?_append] at g
    split at g
    · rename_i l
      rw [List.getD_eq_getElem?_getD, List.getElem?_append_left (by have := I.len; have := I.nl; omega), ← List.getD_eq_getElem?_getD]
      exact up (J.d6 (by simp) (List.mem_of_getElem? g)).symm (J.d6 (by simp) (List.mem_of_getElem? g)).symm (J.mo k e g)
    · rename_i l
      have ek : k = ds.length := by
        have := (List.getElem?_eq_some_iff.mp g).1
        rw [List.length_singleton] at this
        omega
      subst ek
      rw [Nat.sub_self] at g
      cases g
      rw [List.getD_eq_getElem?_getD, List.getElem?_append_right (by have := I.len; have := I.nl; omega), show ds.length - a.nm.length = 0 by have := I.len; have := I.nl; omega]
      exact up (own0 m1).symm (own0 m2).symm edd
  · show (ds ++ [d]).length = (a.qs ++ [p]).length
    rw [List.length_append, List.length_append, I.len]
    rfl
  · show (a.nm ++ [[]]).length = (a.qs ++ [p]).length
    rw [List.length_append, List.length_append, I.nl]
    rfl
  · have nd := J.nd
    unfold ownL at nd ⊢
    rw [← List.append_assoc, List.Perm.nodup_iff (List.perm_append_singleton d _), List.nodup_cons]
    exact ⟨fun m => own0 m rfl, nd⟩
  · rcases mem _ m with m | m
    · exact J.sa m
    · exact nS m
  · exact List.nodup_append.mpr ⟨J.qn, List.pairwise_singleton _ _, fun x hx b hb e => ix_none np (by have : b = p := List.mem_singleton.mp hb; rw [← this, ← e]; exact hx)⟩
  · rcases List.mem_append.mp hq with hq | hq
    · exact J.qp q hq
    · rw [List.mem_singleton.mp hq]; exact hp
  · show _ ≤ (a.qs ++ [p]).length
    rw [List.length_append]
    exact Nat.le_trans J.lm (Nat.le_add_right _ _)
  · show _ ≤ (a.qs ++ [p]).length
    rw [List.length_append]
    exact Nat.le_trans J.wm (Nat.le_add_right _ _)
  · rcases mem x hx with m | rfl
    · exact .inl m
    · exact .inr hd
end

section
variable (h : LA)
theorem vL_S : valV (ownF h) (.inr "stock") = some (.ref h.S) := valV_pos rfl
theorem vL_tb : valV (ownF h) (.inr "table") = some (.ref h.tb) := (valV_neg fun e => absurd (Sum.inr.inj e) (by decide +kernel)).trans (valV_pos rfl)
theorem vL_nm : valV (ownF h) (.inr "names") = some (.ref h.nm) := (valV_neg fun e => absurd (Sum.inr.inj e) (by decide +kernel)).trans ((valV_neg fun e => absurd (Sum.inr.inj e) (by decide +kernel)).trans (valV_pos rfl))
theorem vL_lg : valV (ownF h) (.inr "log") = some (.ref h.lg) := (valV_neg fun e => absurd (Sum.inr.inj e) (by decide +kernel)).trans ((valV_neg fun e => absurd (Sum.inr.inj e) (by decide +kernel)).trans ((valV_neg fun e => absurd (Sum.inr.inj e) (by decide +kernel)).trans (valV_pos rfl)))
theorem vL_pp : valV (ownF h) (.inr "paper") = some (.ref h.pp) := (valV_neg fun e => absurd (Sum.inr.inj e) (by decide +kernel)).trans ((valV_neg fun e => absurd (Sum.inr.inj e) (by decide +kernel)).trans ((valV_neg fun e => absurd (Sum.inr.inj e) (by decide +kernel)).trans ((valV_neg fun e => absurd (Sum.inr.inj e) (by decide +kernel)).trans (valV_pos rfl))))
theorem vL_ln : valV (ownF h) (.inr "line") = some (.ref h.ln) := (valV_neg fun e => absurd (Sum.inr.inj e) (by decide +kernel)).trans ((valV_neg fun e => absurd (Sum.inr.inj e) (by decide +kernel)).trans ((valV_neg fun e => absurd (Sum.inr.inj e) (by decide +kernel)).trans ((valV_neg fun e => absurd (Sum.inr.inj e) (by decide +kernel)).trans ((valV_neg fun e => absurd (Sum.inr.inj e) (by decide +kernel)).trans (valV_pos rfl)))))
end
theorem s_getI {R : V → Prop} {H : Hp} {a : Addr} {kvs : List (Key × V)} {i : Int} {v : V} (h : H a = some (.dK kvs)) (e : valV kvs (.inl i) = some v) (q : R v) : ∃ a' v, V.ref a = .ref a' ∧ DGet H a' (.int i) (some v) ∧ R v := ⟨a, v, rfl, e ▸ DGet.k (k := Sum.inl i) h, q⟩
theorem s_putI {v : V} {H : Hp} {a : Addr} {kvs : List (Key × V)} {i : Int} {P : Hp → Prop} (h : H a = some (.dK kvs)) (l : kvs.length < sizeLine) (q : P (upd H a (.dK (putK kvs (.inl i) v)))) : ∃ a' H4, V.ref a = .ref a' ∧ DPut H a' (.int i) v H4 ∧ P H4 := ⟨a, _, rfl, DPut.k (k := Sum.inl i) h l, q⟩
structure NG (H0 H : Hp) (cs : List (Addr × HO)) : Prop where
  kp : Kp [] H0 H
  at_ : ∀ c ∈ cs, H c.1 = some c.2 ∧ H0 c.1 = none
  nd : (cs.map (·.1)).Nodup
theorem NG.refl {H : Hp} : NG H H [] := ⟨Kp.refl, fun c hc => absurd hc List.not_mem_nil, List.nodup_nil⟩
theorem NG.step {H0 H : Hp} {cs : List (Addr × HO)} (N : NG H0 H cs) {l : Addr} {o : HO} (hl : H l = none) : NG H0 (upd H l o) (cs ++ [(l, o)]) := by
  refine ⟨N.kp.upd_new hl, fun c hc => ?_, ?_⟩
  · rcases List.mem_append.mp hc with hc | hc
    · obtain ⟨a1, a2⟩ := N.at_ c hc
      exact ⟨(upd_ne (ne_of_none a1 hl)).trans a1, a2⟩
    · rw [List.mem_singleton.mp hc]
      exact ⟨upd_same, N.kp.free trivial hl⟩
  · rw [List.map_append]
    refine List.nodup_append.mpr ⟨N.nd, List.pairwise_singleton _ _, fun a ha b hb e => ?_⟩
    have hb : b = l := List.mem_singleton.mp hb
    subst hb
    subst e
    obtain ⟨c, hc, e⟩ := List.mem_map.mp ha
    have := (N.at_ c hc).1
    rw [e, hl] at this
    cases this
theorem NG.head {H0 H : Hp} {x : Addr} {o o' : HO} {cs : List (Addr × HO)} (N : NG H0 H ((x, o) :: cs)) : NG H0 (upd H x o') ((x, o') :: cs) := by
  have nd := N.nd
  rw [List.map_cons, List.nodup_cons] at nd
  refine ⟨N.kp.upd_loc (N.at_ (x, o) List.mem_cons_self).2, fun c hc => ?_, N.nd⟩
  rcases List.mem_cons.mp hc with rfl | hc
  · exact ⟨upd_same, (N.at_ (x, o) List.mem_cons_self).2⟩
  · obtain ⟨a1, a2⟩ := N.at_ c (List.mem_cons_of_mem _ hc)
    exact ⟨(upd_ne fun e => nd.1 (List.mem_map.mpr ⟨c, hc, e⟩)).trans a1, a2⟩
theorem mergeK_new : ∀ {more kvs : List (Key × V)}, ((kvs ++ more).map (·.1)).Nodup → mergeK kvs more = kvs ++ more
  | [], kvs, _ => (List.append_nil _).symm
  | x :: r, kvs, nd => by
    have e : kvs ++ x :: r = (kvs ++ [x]) ++ r := by rw [List.append_assoc]; rfl
    have n : valV kvs x.1 = none := by
      cases h : valV kvs x.1 with
      | none => rfl
      | some v =>
        rw [List.map_append, List.map_cons] at nd
        exact absurd rfl ((List.nodup_append.mp nd).2.2 x.1 (valV_in h) x.1 List.mem_cons_self)
    show mergeK (putK kvs x.1 x.2) r = _
    rw [putK_none n, e]
    rw [e] at nd
    exact mergeK_new nd
theorem seq_cut {t u : TS} {D : Ends} {σ : L2.St} {H : Hp} (J : L2.St → Hp → Prop) (h1 : ∀ N : L2.St → Hp → Prop, (∀ σ' H', J σ' H' → N σ' H') → t { D with nx := N } σ H) (h2 : ∀ σ' H', J σ' H' → u D σ' H') : tSeq t u D σ H := h1 _ h2
theorem dpAll_last {K : PySem.W.Frag} {H : Hp} {vs : List V} {xs : List PyData} {x : PyData} (h : DpAll K H vs (xs ++ [x])) : ∃ ws w, vs = ws ++ [w] ∧ DpAll K H ws xs ∧ Dp K H w x := by
  induction xs generalizing vs with
  | nil =>
    cases h with
    | cons a b =>
      cases b
      exact ⟨[], _, rfl, .nil, a⟩
  | cons y r ih =>
    cases h with
    | cons a b =>
      obtain ⟨ws, w, rfl, c, d⟩ := ih b
      exact ⟨_ :: ws, w, rfl, .cons a c, d⟩
theorem OwnAt.l8 {K : PySem.W.Frag} {ps : List Str} {body : Str → List PyData} {H : Hp} {h : LA} {ds : List Addr} {a : Ab} (I : OwnAt K ps body H h ds a) (B : BodyOk ps body) : a.qs.length ≤ 8 := by
  have := List.Nodup.length_le_of_subset (l₂ := ps) I.qn fun x hx => I.qp x hx
  have := B.few
  omega
theorem set_last {α : Type} (xs : List α) (x y : α) : (xs ++ [x]).set xs.length y = xs ++ [y] := by
  rw [List.set_append_right _ _ (Nat.le_refl _), Nat.sub_self]
  rfl
theorem ixN_last {α : Type} (xs : List α) (x : α) : ixN (xs ++ [x]).length (-1) = some xs.length := by
  rw [List.length_append, List.length_singleton]
  unfold ixN
  rw [if_neg (by omega), if_pos (by omega)]
  congr 1
  omega
def spLTaken (K : PySem.W.Frag) (n : Nat) : Sp := fun vs H Q _ => ∃ (h : LA) (ds : List Addr) (ps : List Str) (body : Str → List PyData) (a : Ab) (p : Str), vs = [.ref h.O, .str p] ∧ BodyOk ps body ∧ OwnAt K ps body H h ds a ∧ p ∈ ps ∧ Few a ∧ rem ps a < n ∧ a.lot ps ≤ 5000 ∧
  ∀ H' ds', LStp K ps body h H ds H' ds' (takeF body n a p).1 → Q (.int (((takeF body n a p).2 + 1 : Nat) : Int)) H'
def spLDone (K : PySem.W.Frag) (n : Nat) : Sp := fun vs H Q _ => ∃ (h : LA) (ds : List Addr) (ps : List Str) (body : Str → List PyData) (a : Ab) (k : Nat) (v : V) (x : PyData), vs = [.ref h.O, .int ((k + 1 : Nat) : Int), v] ∧ BodyOk ps body ∧ OwnAt K ps body H h ds a ∧ k < ds.length ∧ Dp K H v x ∧ RowK ps x ∧ Few a ∧ rem ps a < n ∧ a.lot ps ≤ 5000 ∧
  ∀ H' ds', LStp K ps body h H ds H' ds' (rowF (takeF body n) k x a) → Q .non H'
abbrev a0 : Ab := ⟨[], [], [], [], []⟩
def spHouseL (K : PySem.W.Frag) : Sp := fun vs H Q _ => ∃ (S : Addr) (kvs : List (Key × V)) (ps : List Str) (body : Str → List PyData), vs = [.ref S] ∧ H S = some (.dK kvs) ∧ (∀ p ∈ ps, ∀ x ∈ body p, RowK ps x) ∧ (∀ p ∈ ps, ∃ v, valV kvs (.inr p) = some v ∧ Dp K H v (.tuple (body p))) ∧
  ∀ H' h, h.S = S → OwnAt K ps body H' h [] a0 → Kp [] H H' → (∀ x ∈ ownL h [], H x = none) → Q (.ref h.O) H'
section
variable {P : Program} {w : World} {K : PySem.W.Frag} {mg : Str → Option Value} {base : Heap} {C_Module C_Runs : Addr} {n : Nat}
theorem ok_l_house {f : Addr} {fd : FuncData} (F : Fun K "_law_house" "_law_house" s_l_house f fd) (T : Txt K mg C_Module C_Runs)
     :
    FnOk P w K mg base CX0 1 f fd ["_law_stock_here"] (spHouseL K) := by
  refine F.ok sc_l_house (fun vs H Q E h => ?_) (fun cdv A outer s H vs Q E hr h => ?_)
  · obtain ⟨S, kvs, ps, body, rfl, _⟩ := h
    rfl
  · skip
    obtain ⟨S, kvs, ps, body, rfl, eS, br, fnd, q⟩ := h
    refine ⟨_, (pss_one (ps_ret (pe_disp (pps_cons pe_str (pv 0) (pps_cons pe_str pe_dnewK (pps_cons pe_str pe_dnewK (pps_cons pe_str (pe_lst pa_nil) (pps_cons pe_str (pe_lst pa_nil) (pps_cons pe_str (pe_lst pa_nil) pps_nil)))))) (by decide) (by decide) (by simp) (by decide)))), ?_⟩
    refine st_start (σ' := [some (.ref S)]) rfl ?_
    intro O hO
    have N0 := (NG.refl (H := H)).step (o := .dK []) hO
    unfold tPairs
    walk_at "S"
    generalize upd H O (.dK []) = H0 at *
    unfold tPairs
    walk_at "S"
    intro tb htb
    have N1 := N0.step (o := .dK []) htb
    walk_at "S"
    generalize upd H0 tb (.dK []) = H1 at *
    unfold tPairs
    walk_at "S"
    intro nm hnm
    have N2 := N1.step (o := .dK []) hnm
    walk_at "S"
    generalize upd H1 nm (.dK []) = H2 at *
    unfold tPairs
    walk_at "S"
    refine ⟨small_le (by simp), fun lg hlg => ?_⟩
    have N3 := N2.step (o := .lst []) hlg
    walk_at "S"
    generalize upd H2 lg (.lst []) = H3 at *
    unfold tPairs
    walk_at "S"
    refine ⟨small_le (by simp), fun pp hpp => ?_⟩
    have N4 := N3.step (o := .lst []) hpp
    walk_at "S"
    generalize upd H3 pp (.lst []) = H4 at *
    unfold tPairs
    walk_at "S"
    refine ⟨small_le (by simp), fun ln hln => ?_⟩
    have N5 := N4.step (o := .lst []) hln
    walk_at "S"
    generalize upd H4 ln (.lst []) = H5 at *
    unfold tPairs
    simp only [List.nil_append, List.cons_append] at N5
    have N6 := N5.head (o' := .dK (ownF ⟨O, S, tb, nm, lg, pp, ln, kvs⟩))
    refine ⟨(N5.at_ (O, _) List.mem_cons_self).1, ownF ⟨O, S, tb, nm, lg, pp, ln, kvs⟩, rfl, by show 6 ≤ 15; decide, ?_⟩
    rw [mergeK_new (by show ([Sum.inr "stock", Sum.inr "table", Sum.inr "names", Sum.inr "log", Sum.inr "paper", Sum.inr "line"] : List Key).Nodup; decide +kernel), List.nil_append]
    generalize upd H5 O (.dK (ownF ⟨O, S, tb, nm, lg, pp, ln, kvs⟩)) = H6 at *
    have at6 := N6.at_
    simp only [List.forall_mem_cons] at at6
    obtain ⟨⟨a1, b1⟩, ⟨a2, b2⟩, ⟨a3, b3⟩, ⟨a4, b4⟩, ⟨a5, b5⟩, ⟨a6, b6⟩, _⟩ := at6
    have nd := N6.nd
    simp only [List.map_cons, List.map_nil] at nd
    have tk := TupK.same N6.kp
    refine q _ ⟨O, S, tb, nm, lg, pp, ln, kvs⟩ rfl ⟨a1, N6.kp.get trivial eS, fun p hp => ?_, ⟨[], a2, rfl, fun p => rfl⟩, ⟨[], a3, rfl, fun k => by simp; rfl⟩, ⟨[], a4, .nil⟩, ⟨[], a5, .nil⟩, ⟨[], a6, .nil⟩, rfl, rfl, fun k d e => (by simp at e), rfl, rfl, nd, fun m => ?_, List.nodup_nil, fun q hq => (nomatch hq), Nat.le_refl _, Nat.le_refl _⟩ N6.kp fun x hx => ?_
    · obtain ⟨v, f, d⟩ := fnd p hp
      exact ⟨v, f, Dp.tups tk _ _ (body_flat br hp) d⟩
    · have m : S ∈ [O, tb, nm, lg, pp, ln] ++ [] := m
      rw [List.append_nil] at m
      simp only [List.mem_cons, List.not_mem_nil, or_false] at m
      rcases m with q | q | q | q | q | q
      all_goals (rw [q] at eS; simp_all)
    · have m : x ∈ [O, tb, nm, lg, pp, ln] ++ [] := hx
      rw [List.append_nil] at m
      simp only [List.mem_cons, List.not_mem_nil, or_false] at m
      rcases m with q | q | q | q | q | q
      all_goals (rw [q]; assumption)
theorem ok_l_done {f : Addr} {fd : FuncData} (F : Fun K "_law_done" "_law_done" s_l_done f fd) (T : Txt K mg C_Module C_Runs)
    (D_l_taken : DnF P w K mg base (2 * n + 1) "_law_taken" ["_law_house_here", "_law_path"] (spLTaken K n)) :
    FnOk P w K mg base CX0 (2 * n + 2) f fd ["_law_house_here", "_law_number_here", "_law_row_here"] (spLDone K n) := by
  refine F.ok sc_l_done (fun vs H Q E h => ?_) (fun cdv A outer s H vs Q E hr h => ?_)
  · obtain ⟨h, ds, ps, body, a, k, v, x, rfl, _⟩ := h
    rfl
  · obtain ⟨f_l_taken, fd_l_taken, G_l_taken, m_l_taken, k_l_taken, b_l_taken⟩ := D_l_taken
    obtain ⟨h, ds, ps, body, a, k, v, x, rfl, B, I, hk, dx, hx, fw, rm, lt, q⟩ := h
    have hu := hu_of hr
    refine ⟨_, (pss_cut2 (ps_if (pt_cmpR op_eq (pe_ix (ixTK (K := K) rfl) (pv 2) pe_int (fun _ _ => rfl)) pe_str (nomark _)) (pss_one (ps_expr (pe_call G_l_taken (hr.mono (by first | decide | omega)) (by rfl) m_l_taken k_l_taken b_l_taken .nil pass0 (pa_cons (pv 0) (pa_cons (pe_ix (ixTK (K := K) rfl) (pv 2) pe_int (fun _ _ => rfl)) pa_nil))))) pss_nil)
      (pss_one (ps_if (pt_cmpR op_eq (pe_ix (ixTK (K := K) rfl) (pv 2) pe_int (fun _ _ => rfl)) pe_str (nomark _)) (pss_cons (ps_set (i := 3) sc_l_done.nd rfl (Or.inl rfl) pe_non)
      (pss_cut2 (ps_if (pt_cmp (pc_din hu (pe_ix (ixTK (K := K) rfl) (pv 2) pe_int (fun _ _ => rfl)) (pe_dget hu (pv 0) pe_str (fun _ _ => rfl)))) (pss_one (ps_set (i := 3) sc_l_done.nd rfl (Or.inl rfl) (pe_callTy (tupleK (K := K) rfl) (by rfl) T.n_tuple (by decide +kernel) (pa_cons (pe_callB (call_sortedD rfl) (by rfl) T.n_sorted (by decide +kernel) (pa_cons (pe_dget hu (pe_dget hu (pv 0) pe_str (fun _ _ => rfl)) (pe_dget hu (pe_dget hu (pv 0) pe_str (fun _ _ => rfl)) (pe_ix (ixTK (K := K) rfl) (pv 2) pe_int (fun _ _ => rfl)) (fun _ _ => rfl)) (fun _ _ => rfl)) pa_nil)) pa_nil)))) pss_nil)
      (pss_one (ps_expr (kBM (K := K) rfl (pe_bm PySem.F.plainAttrs_list PySem.F.slot_list_append PySem.F.type_list_append mt_append (pe_dget hu (pv 0) pe_str (fun _ _ => rfl)) (pa_cons (pe_tup (pa_cons pe_str (pa_cons (pv 1) (pa_cons (pv 3) pa_nil)))) pa_nil))))))) (pss_one (ps_dput hu (pe_dget hu (pe_dget hu (pv 0) pe_str (fun _ _ => rfl)) (pv 1) (fun _ _ => rfl)) (pe_ix (ixTK (K := K) rfl) (pv 2) pe_int (fun _ _ => rfl)) pe_bl rfl))))), ?_⟩
    refine st_start (σ' := [some (.ref h.O), some (.int ((k + 1 : Nat) : Int)), some v, none]) rfl ?_
    obtain ⟨d, ek⟩ : ∃ d, ds[k]? = some d := ⟨_, List.getElem?_eq_getElem hk⟩
    have bnd : ∀ {Hx : Hp} {dx : List Addr} {ax : Ab} {d : Addr} (z : Str) (R : Hp → Prop), OwnAt K ps body Hx h dx ax → Few ax → dx[k]? = some d → R (upd Hx d (.dK (putK (nkv (ax.nm.getD k [])) (.inr z) (.bl true)))) →
        ∃ kvs, Hx h.nm = some (.dK kvs) ∧ valV kvs (.inl ((k + 1 : Nat) : Int)) = some (.ref d) ∧ Hx d = some (.dK (nkv (ax.nm.getD k []))) ∧ (nkv (ax.nm.getD k [])).length < sizeLine := fun z R Ix fx ex _ => by
      obtain ⟨kvs, e, _, r⟩ := Ix.nm
      exact ⟨kvs, e, by rw [r, ex]; rfl, Ix.mo k _ ex, small_lt (by rw [List.length_map]; have := fx.2 k; omega)⟩
    cases hx with
    | @set z m hz hm =>
      cases dx with
      | tup hs ha =>
        rename_i av xv
        obtain _ | ⟨h0, _ | ⟨h1, _ | ⟨h2, h3⟩⟩⟩ := ha
        cases h3
        cases h0
        cases h1
        cases h2
        walk_at "S"
        refine s_cut (fun σ H1 => σ = [some (.ref h.O), some (.int ((k + 1 : Nat) : Int)), some (.ref av), none] ∧ H = H1) (fun J hJ => ?_) ?_
        · walk_at "S"
          refine s_dec (fun h => absurd (V.str.inj h) (by decide +kernel)) (fun _ => ?_)
          walk_at "S"
          exact hJ _ _ ⟨rfl, rfl⟩
        · rintro σ H1 ⟨rfl, rfl⟩
          walk_at "S"
          refine s_dec (fun h => absurd (V.str.inj h) (by decide +kernel)) (fun _ => ?_)
          obtain ⟨kvs, e1, e2, e3, e4⟩ := bnd z (fun _ => True) I fw ek trivial
          walk_at "S"
          refine s_getS I.ob (vL_nm h) ?_
          walk_at "S"
          refine s_getI e1 e2 ?_
          walk_at "S"
          refine s_putS e3 e4 ?_
          exact q _ _ (I.bind B.row ek z)
    | @take z p hz hp =>
      cases dx with
      | tup hs ha =>
        rename_i av xv
        obtain _ | ⟨h0, _ | ⟨h1, _ | ⟨h2, h3⟩⟩⟩ := ha
        cases h3
        cases h0
        cases h1
        cases h2
        walk_at "S"
        refine s_cut (fun σ H1 => ∃ ds1, σ = [some (.ref h.O), some (.int ((k + 1 : Nat) : Int)), some (.ref av), none] ∧ LStp K ps body h H ds H1 ds1 (takeF body n a p).1) (fun J hJ => ?_) ?_
        · walk_at "S"
          refine s_dec (fun _ => ?_) (fun h => absurd rfl h)
          walk_at "S"
          refine ⟨h, ds, ps, body, a, p, rfl, B, I, hp, fw, rm, lt, fun H1 ds1 st => ?_⟩
          walk_at "S"
          exact hJ _ _ ⟨ds1, rfl, st⟩
        · rintro σ H1 ⟨ds1, rfl, st⟩
          have hs1 := seqT_tups st.tup hs
          have fw1 := (take_few B.len B.row n a p hp fw).1
          have ek1 := st.ext k d ek
          walk_at "S"
          refine s_dec (fun h => absurd (V.str.inj h) (by decide +kernel)) (fun _ => ?_)
          obtain ⟨kvs, e1, e2, e3, e4⟩ := bnd z (fun _ => True) st.at_ fw1 ek1 trivial
          walk_at "S"
          refine s_getS st.at_.ob (vL_nm h) ?_
          walk_at "S"
          refine s_getI e1 e2 ?_
          walk_at "S"
          refine s_putS e3 e4 ?_
          exact q _ _ (st.tr (st.at_.bind B.row ek1 z))
    | @note p hp =>
      cases dx with
      | tup hs ha =>
        rename_i av xv
        obtain _ | ⟨h0, _ | ⟨h1, h2⟩⟩ := ha
        cases h2
        cases h0
        cases h1
        walk_at "S"
        refine s_cut (fun σ H1 => σ = [some (.ref h.O), some (.int ((k + 1 : Nat) : Int)), some (.ref av), none] ∧ H = H1) (fun J hJ => ?_) ?_
        · walk_at "S"
          refine s_dec (fun h => absurd (V.str.inj h) (by decide +kernel)) (fun _ => ?_)
          walk_at "S"
          exact hJ _ _ ⟨rfl, rfl⟩
        · rintro σ H1 ⟨rfl, rfl⟩
          walk_at "S"
          refine s_dec (fun _ => ?_) (fun h => absurd rfl h)
          walk_at "S"
          refine s_cut (fun σ H1 => ∃ nv : V, σ = [some (.ref h.O), some (.int ((k + 1 : Nat) : Int)), some (.ref av), some nv] ∧ Kp [] H H1 ∧ Dp K H1 nv (a.names p) ∧ flatD (a.names p) = true) (fun J hJ => ?_) ?_
          · obtain ⟨kt, et, lt_, rt⟩ := I.tb
            walk_at "S"
            refine s_getS I.ob (vL_tb h) ?_
            refine s_inS et ?_
            walk_at "S"
            cases ei : a.ix p with
            | none =>
              rw [show valV kt (.inr p) = none from by rw [rt, ei]; rfl]
              refine s_bool (fun h => nomatch h) (fun _ => ?_)
              walk_at "S"
              refine hJ _ _ ⟨_, rfl, Kp.refl, ?_, ?_⟩
              · unfold Ab.names
                rw [ei]
                exact .non
              · unfold Ab.names
                rw [ei]
                rfl
            | some j =>
              rw [show valV kt (.inr p) = some (.int ((j + 1 : Nat) : Int)) from by rw [rt, ei]; rfl]
              refine s_bool (fun _ => ?_) (fun h => nomatch h)
              obtain ⟨kn, en, ln_, rn⟩ := I.nm
              have lj : j < ds.length := by
                have := (List.getElem?_eq_some_iff.mp (ix_some ei)).1
                have := I.len
                omega
              obtain ⟨dj, ej⟩ : ∃ d, ds[j]? = some d := ⟨_, List.getElem?_eq_getElem lj⟩
              have f40 := fw.2 j
              walk_at "S"
              refine s_getS I.ob (vL_nm h) ?_
              walk_at "S"
              refine s_getS I.ob (vL_tb h) ?_
              walk_at "S"
              refine s_getS et (by rw [rt, ei]; rfl) ?_
              refine s_getI en (by rw [rn, ej]; rfl) ?_
              walk_at "S"
              refine ⟨dj, _, a.nm.getD j [], rfl, .inl (I.mo j dj ej), by rw [List.map_map]; rfl, by omega, fun ys l py sy hl => ?_⟩
              walk_at "S"
              refine s_tupL (sq_l upd_same) fun t ht => ?_
              walk_at "S"
              have en2 : a.names p = .tuple (ys.map .str) := by
                unfold Ab.names
                rw [ei]
                show PyData.tuple ((srt (a.nm.getD j [])).map .str) = _
                rw [← srt_eq py sy]
              refine hJ _ _ ⟨_, rfl, (Kp.refl.upd_new hl).upd_new ht, ?_, ?_⟩
              · rw [en2]
                exact .tup (sq_t upd_same) (dpAll_strs ys)
              · rw [en2]
                exact flat_strs ys
          · rintro σ H1 ⟨nv, rfl, k1, dn, fn⟩
            have I1 := I.same B.row k1
            obtain ⟨vs, el, dvs⟩ := I1.lg
            have lv : vs.length = a.log.length := DpAll.len dvs
            have ltn : a.log.length + 43 * rem ps a ≤ 5000 := lt
            walk_at "S"
            refine s_getS I1.ob (vL_lg h) ?_
            walk_at "S"
            refine ⟨small_le (by simp), fun t ht => ?_⟩
            have k2 : Kp [] H1 (upd H1 t (.tup [.str "note", .int ((k + 1 : Nat) : Int), nv])) := Kp.refl.upd_new ht
            have I2 := I1.same B.row k2
            have el2 := k2.get trivial el
            have dt : Dp K (upd H1 t (.tup [.str "note", .int ((k + 1 : Nat) : Int), nv])) (.ref t) (noteE k (a.names p)) := .tup (sq_t upd_same) (.cons (.str _) (.cons (.int _) (.cons (Dp.same k2 _ _ dn) .nil)))
            have dvs2 := Dp.sameAll k2 _ _ dvs
            generalize upd H1 t (.tup [.str "note", .int ((k + 1 : Nat) : Int), nv]) = H2 at *
            walk_at "S"
            refine s_append el2 (small_lt (by omega)) ?_
            exact q _ _ ((LStp.same B.row I (k1.tr k2)).tr (I2.note B.row el2 dvs2 dt (by show (true && (true && (flatD _ && true))) = true; rw [fn]; rfl)))
theorem ok_l_taken {f : Addr} {fd : FuncData} (F : Fun K "_law_taken" "_law_taken" s_l_taken f fd) (T : Txt K mg C_Module C_Runs) (D_l_done : DnF P w K mg base (2 * n + 2) "_law_done" ["_law_house_here", "_law_number_here", "_law_row_here"] (spLDone K n)) :
    FnOk P w K mg base CX0 (2 * n + 3) f fd ["_law_house_here", "_law_path"] (spLTaken K (n + 1)) := by
  refine F.ok sc_l_taken (fun vs H Q E h => ?_) (fun cdv A outer s H vs Q E hr h => ?_)
  · obtain ⟨h, ds, ps, body, a, p, rfl, _⟩ := h
    rfl
  · obtain ⟨f_l_done, fd_l_done, G_l_done, m_l_done, k_l_done, b_l_done⟩ := D_l_done
    obtain ⟨h, ds, ps, body, a, p, rfl, B, I, hp, fw, rm, lt, q⟩ := h
    have hu := hu_of hr
    refine ⟨_, (pss_cons (ps_if (pt_cmp (pc_din hu (pv 1) (pe_dget hu (pv 0) pe_str (fun _ _ => rfl)))) (pss_cons (ps_expr (kBM (K := K) rfl (pe_bm PySem.F.plainAttrs_list PySem.F.slot_list_append PySem.F.type_list_append mt_append (pe_dget hu (pv 0) pe_str (fun _ _ => rfl)) (pa_cons (pe_tup (pa_cons pe_str (pa_cons (pe_dget hu (pe_dget hu (pv 0) pe_str (fun _ _ => rfl)) (pv 1) (fun _ _ => rfl)) pa_nil))) pa_nil))))
      (pss_one (ps_ret (pe_dget hu (pe_dget hu (pv 0) pe_str (fun _ _ => rfl)) (pv 1) (fun _ _ => rfl))))) pss_nil)
      (pss_cons (ps_set (i := 2) sc_l_taken.nd rfl (Or.inl rfl) (pe_op op_add (pe_callB call_lenD (by rfl) T.n_len (by decide +kernel) (pa_cons (pe_dget hu (pv 0) pe_str (fun _ _ => rfl)) pa_nil)) pe_int))
      (pss_cons (ps_dput hu (pe_dget hu (pv 0) pe_str (fun _ _ => rfl)) (pv 2) pe_dnewK rfl)
      (pss_cons (ps_dput hu (pe_dget hu (pv 0) pe_str (fun _ _ => rfl)) (pv 1) (pv 2) rfl)
      (pss_cons (ps_expr (kBM (K := K) rfl (pe_bm PySem.F.plainAttrs_list PySem.F.slot_list_append PySem.F.type_list_append mt_append (pe_dget hu (pv 0) pe_str (fun _ _ => rfl)) (pa_cons (pe_tup (pa_cons pe_str (pa_cons (pv 2) (pa_cons (pv 1) pa_nil)))) pa_nil))))
      (pss_cons (ps_asg (pe_ifExp (pt_cmpR (neNilK (K := K) rfl hr.units) (pe_dget hu (pv 0) pe_str (fun _ _ => rfl)) (pe_lst pa_nil) (nomark _)) (pe_ix (ixLK (K := K) rfl) (pe_dget hu (pv 0) pe_str (fun _ _ => rfl)) (pe_un un_neg pe_int) (fun _ _ => rfl)) (pe_tup (pa_cons pe_non (pa_cons pe_non pa_nil)))) (kgT (K := K) rfl (pg_tup rfl (pgs_cons (pg_name (i := 3) sc_l_taken.nd rfl (Or.inl rfl)) (pgs_cons (pg_name (i := 4) sc_l_taken.nd rfl (Or.inl rfl)) pgs_nil)))))
      (pss_cons (ps_expr (kBM (K := K) rfl (pe_bm PySem.F.plainAttrs_list PySem.F.slot_list_append PySem.F.type_list_append mt_append (pe_dget hu (pv 0) pe_str (fun _ _ => rfl)) (pa_cons (pe_tup (pa_cons (pv 2) (pa_cons (pv 3) (pa_cons (pv 4) pa_nil)))) pa_nil))))
      (pss_cons (ps_expr (kBM (K := K) rfl (pe_bm PySem.F.plainAttrs_list PySem.F.slot_list_append PySem.F.type_list_append mt_append (pe_dget hu (pv 0) pe_str (fun _ _ => rfl)) (pa_cons (pe_tup (pa_cons (pv 2) (pa_cons pe_int pa_nil))) pa_nil))))
      (pss_cons (ps_for PassesOwn.never rfl (pi_enumT (K := K) rfl (by rfl) T.n_enumerate (pa_cons (pe_dget hu (pe_dget hu (pv 0) pe_str (fun _ _ => rfl)) (pv 1) (fun _ _ => rfl)) pa_nil)) (kgT (K := K) rfl (pg_tup rfl (pgs_cons (pg_name (i := 5) sc_l_taken.nd rfl (Or.inl rfl)) (pgs_cons (pg_name (i := 6) sc_l_taken.nd rfl (Or.inl rfl)) pgs_nil)))) (pss_cons (ps_asg (pe_tup (pa_cons (pv 2) (pa_cons (pv 5) pa_nil))) (pg_sub (pe_dget hu (pv 0) pe_str (fun _ _ => rfl)) (pe_un un_neg pe_int) set_list))
      (pss_one (ps_expr (pe_call G_l_done (hr.mono (by first | decide | omega)) (by rfl) m_l_done k_l_done b_l_done .nil pass0 (pa_cons (pv 0) (pa_cons (pv 2) (pa_cons (pv 6) pa_nil))))))))
      (pss_cons (ps_expr (kBM0 (K := K) rfl (pe_bm0 PySem.F.plainAttrs_list PySem.F.slot_list_pop PySem.F.type_list_pop mt_pop (pe_dget hu (pv 0) pe_str (fun _ _ => rfl)))))
      (pss_cons (ps_expr (kBM (K := K) rfl (pe_bm PySem.F.plainAttrs_list PySem.F.slot_list_append PySem.F.type_list_append mt_append (pe_dget hu (pv 0) pe_str (fun _ _ => rfl)) (pa_cons (pe_tup (pa_cons pe_str (pa_cons (pv 2) pa_nil))) pa_nil))))
      (pss_one (ps_ret (pv 2)))))))))))))), ?_⟩
    refine st_start (σ' := [some (.ref h.O), some (.str p), none, none, none, none, none]) rfl ?_
    obtain ⟨kt, et, lt_, rt⟩ := I.tb
    have ltn : a.log.length + 43 * rem ps a ≤ 5000 := lt
    walk_at "S"
    refine s_getS I.ob (vL_tb h) ?_
    refine s_inS et ?_
    walk_at "S"
    cases ei : a.ix p with
    | some j =>
      rw [show valV kt (.inr p) = some (.int ((j + 1 : Nat) : Int)) from by rw [rt, ei]; rfl]
      have evj : valV kt (.inr p) = some (.int ((j + 1 : Nat) : Int)) := by rw [rt, ei]; rfl
      refine s_bool (fun _ => ?_) (fun h => nomatch h)
      obtain ⟨vs, el, dvs⟩ := I.lg
      have lv : vs.length = a.log.length := DpAll.len dvs
      walk_at "S"
      refine s_getS I.ob (vL_lg h) ?_
      walk_at "S"
      refine s_getS I.ob (vL_tb h) ?_
      walk_at "S"
      refine s_getS et evj ?_
      walk_at "S"
      refine ⟨small_le (by simp), fun t ht => ?_⟩
      have k1 : Kp [] H (upd H t (.tup [.str "have", .int ((j + 1 : Nat) : Int)])) := Kp.refl.upd_new ht
      have I1 := I.same B.row k1
      have el1 := k1.get trivial el
      have et1 := k1.get trivial et
      have dt : Dp K (upd H t (.tup [.str "have", .int ((j + 1 : Nat) : Int)])) (.ref t) (haveE j) := .tup (sq_t upd_same) (.cons (.str _) (.cons (.int _) .nil))
      have dvs1 := Dp.sameAll k1 _ _ dvs
      generalize upd H t (.tup [.str "have", .int ((j + 1 : Nat) : Int)]) = H1 at *
      walk_at "S"
      refine s_append el1 (small_lt (by omega)) ?_
      have st := (LStp.same B.row I k1).tr (I1.note B.row el1 dvs1 dt rfl)
      have n6 := I1.n6
      have et2 : upd H1 h.lg (.lst (vs ++ [.ref t])) h.tb = some (.dK kt) := (upd_ne (fun q => by simp [q] at n6)).trans et1
      generalize upd H1 h.lg (.lst (vs ++ [.ref t])) = H2 at *
      walk_at "S"
      refine s_getS st.at_.ob (vL_tb h) ?_
      walk_at "S"
      refine s_getS et2 evj ?_
      have eq : takeF body (n + 1) a p = (a.put (haveE j), j) := by
        simp only [takeF]
        rw [ei]
      rw [eq] at q
      exact q _ _ st
    | none =>
      rw [show valV kt (.inr p) = none from by rw [rt, ei]; rfl]
      refine s_bool (fun h => nomatch h) (fun _ => ?_)
      obtain ⟨kn, en, ln_, rn⟩ := I.nm
      walk_at "S"
      refine s_getS I.ob (vL_nm h) ?_
      walk_at "S"
      refine ⟨h.nm, kn, rfl, en, ?_⟩
      walk_at "S"
      rw [ln_, show ((ds.length : Int) + 1) = ((ds.length + 1 : Nat) : Int) from rfl]
      walk_at "S"
      intro d hd
      have nod : h.O ≠ d := ne_of_none I.ob hd
      have nnd : h.nm ≠ d := ne_of_none en hd
      have ntd : h.tb ≠ d := ne_of_none et hd
      have n6 := I.n6
      have l8 := I.l8 B
      have lk := I.len
      walk_at "S"
      refine s_getS ((upd_ne nod).trans I.ob) (vL_nm h) ?_
      walk_at "S"
      refine s_putI ((upd_ne nnd).trans en) (small_lt (by omega)) ?_
      walk_at "S"
      refine s_getS ((upd_ne (fun q => by simp [q] at n6)).trans ((upd_ne nod).trans I.ob)) (vL_tb h) ?_
      walk_at "S"
      refine s_putS ((upd_ne (fun q => by simp [q] at n6)).trans ((upd_ne ntd).trans et)) (small_lt (by omega)) ?_
      have st1 := I.new B.row hd ei hp en ln_ rn et lt_ rt
      generalize upd (upd (upd H d (.dK [])) h.nm (.dK (putK kn (.inl ((ds.length + 1 : Nat) : Int)) (.ref d)))) h.tb (.dK (putK kt (.inr p) (.int ((ds.length + 1 : Nat) : Int)))) = H1 at *
      have ek1 : (ds ++ [d])[ds.length]? = some d := by rw [List.getElem?_append_right (Nat.le_refl _), Nat.sub_self]; rfl
      generalize ds ++ [d] = d1 at *
      generalize ek : ds.length = k at *
      have I1 := st1.at_
      obtain ⟨vs, el, dvs⟩ := I1.lg
      have lv : vs.length = a.log.length := DpAll.len dvs
      walk_at "S"
      refine s_getS I1.ob (vL_lg h) ?_
      walk_at "S"
      refine ⟨small_le (by simp), fun t ht => ?_⟩
      have k1 : Kp [] H1 (upd H1 t (.tup [.str "begin", .int ((k + 1 : Nat) : Int), .str p])) := Kp.refl.upd_new ht
      have I2 := I1.same B.row k1
      have el2 := k1.get trivial el
      have dt : Dp K (upd H1 t (.tup [.str "begin", .int ((k + 1 : Nat) : Int), .str p])) (.ref t) (beginE k p) := .tup (sq_t upd_same) (.cons (.str _) (.cons (.int _) (.cons (.str _) .nil)))
      have dvs2 := Dp.sameAll k1 _ _ dvs
      generalize upd H1 t (.tup [.str "begin", .int ((k + 1 : Nat) : Int), .str p]) = H2 at *
      walk_at "S"
      refine s_append el2 (small_lt (by omega)) ?_
      have st3 := (st1.tr (LStp.same B.row I1 k1)).tr (I2.note B.row el2 dvs2 dt rfl)
      generalize upd H2 h.lg (.lst (vs ++ [.ref t])) = H3 at *
      have I3 := st3.at_
      refine seq_cut (fun σ Hx => ∃ (bv av : V) (x y : PyData), σ = [some (.ref h.O), some (.str p), some (.int ((k + 1 : Nat) : Int)), some bv, some av, none, none] ∧ Kp [] H3 Hx ∧ papE k a.line = .tuple [numD k, x, y] ∧ (∀ H, Dp K H bv x) ∧ ∀ H, Dp K H av y) (fun N hN => ?_) ?_
      · obtain ⟨ws, ew, dw⟩ := I3.ln
        walk_at "S"
        refine s_getS I3.ob (vL_ln h) ?_
        walk_at "S"
        refine ⟨small_le (by simp), fun l hl => ?_⟩
        have k4 : Kp [] H3 (upd H3 l (.lst [])) := Kp.refl.upd_new hl
        have ew4 := k4.get trivial ew
        have ob4 := k4.get trivial I3.ob
        refine s_nil0 (sq_l ew4) (sq_l upd_same) ?_
        walk_at "S"
        rcases List.eq_nil_or_concat a.line with e | ⟨pre, x, e⟩
        · have dw : DpAll K H3 ws (a.line.map lnE) := dw
          rw [e] at dw
          cases dw
          refine s_bool (fun h => nomatch h) (fun _ => ?_)
          walk_at "S"
          refine ⟨small_le (by simp), fun t2 ht2 => ?_⟩
          refine s_gtup (sq_t upd_same) rfl ?_
          walk_at "S"
          refine hN _ _ ⟨_, _, .none, .none, rfl, k4.upd_new ht2, ?_, fun _ => .non, fun _ => .non⟩
          unfold papE
          rw [e]
          rfl
        · rw [List.concat_eq_append] at e
          have dw : DpAll K H3 ws (a.line.map lnE) := dw
          rw [e, List.map_append] at dw
          obtain ⟨wp, wx, rfl, _, dx⟩ := dpAll_last dw
          rw [show (!(wp ++ [wx]).isEmpty) = true from by simp]
          refine s_bool (fun _ => ?_) (fun h => nomatch h)
          generalize upd H3 l (.lst []) = H4 at *
          walk_at "S"
          refine s_getS ob4 (vL_ln h) ?_
          walk_at "S"
          refine s_ixL (sq_l ew4) (atI_last _ _) ?_
          have dx := Dp.same k4 _ _ dx
          cases dx with
          | tup hs ha =>
            obtain _ | ⟨h0, _ | ⟨h1, h2⟩⟩ := ha
            cases h2
            cases h0
            cases h1
            refine s_gtup hs rfl ?_
            walk_at "S"
            refine hN _ _ ⟨_, _, numD x.1, .int (x.2 : Nat), rfl, k4, ?_, fun _ => .int _, fun _ => .int _⟩
            unfold papE
            rw [e, List.getLast?_concat]
      · rintro σ H4 ⟨bv, av, x, y, rfl, k4, ep, db, da⟩
        have I4 := I3.same B.row k4
        have st4 := st3.tr (LStp.same B.row I3 k4)
        obtain ⟨ws, ew, dw⟩ := I4.pp
        have lw : ws.length = a.pap.length := DpAll.len dw
        have wm := I.wm
        walk_at "S"
        refine s_getS I4.ob (vL_pp h) ?_
        walk_at "S"
        refine ⟨small_le (by simp), fun t5 ht5 => ?_⟩
        have k5 : Kp [] H4 (upd H4 t5 (.tup [.int ((k + 1 : Nat) : Int), bv, av])) := Kp.refl.upd_new ht5
        have I5 := I4.same B.row k5
        have ew5 := k5.get trivial ew
        have dw5 := Dp.sameAll k5 _ _ dw
        have dt5 : Dp K (upd H4 t5 (.tup [.int ((k + 1 : Nat) : Int), bv, av])) (.ref t5) (papE k a.line) := by
          rw [ep]
          exact .tup (sq_t upd_same) (.cons (.int _) (.cons (db _) (.cons (da _) .nil)))
        generalize upd H4 t5 (.tup [.int ((k + 1 : Nat) : Int), bv, av]) = H5 at *
        walk_at "S"
        refine s_append ew5 (small_lt (by omega)) ?_
        have st6 := (st4.tr (LStp.same B.row I4 k5)).tr (I5.wait B.row ew5 dw5 dt5 (pap_shape _ _) (by show a.pap.length < (a.qs ++ [p]).length; rw [List.length_append, List.length_singleton]; omega))
        generalize upd H5 h.pp (.lst (ws ++ [.ref t5])) = H6 at *
        have I6 := st6.at_
        obtain ⟨zs, ez, dz⟩ := I6.ln
        have lz : zs.length = a.line.length := (DpAll.len dz).trans (List.length_map _)
        have lm := I.lm
        have tk6 := st6.tup
        obtain ⟨bv_, ebv, dbv⟩ := I.fnd p hp
        walk_at "S"
        refine s_getS I6.ob (vL_ln h) ?_
        walk_at "S"
        refine ⟨small_le (by simp), fun t7 ht7 => ?_⟩
        have k7 : Kp [] H6 (upd H6 t7 (.tup [.int ((k + 1 : Nat) : Int), .int 0])) := Kp.refl.upd_new ht7
        have I7 := I6.same B.row k7
        have ez7 := k7.get trivial ez
        have dz7 : DpAll K (upd H6 t7 (.tup [.int ((k + 1 : Nat) : Int), .int 0])) (zs ++ [.ref t7]) ((a.line ++ [(k, 0)]).map lnE) := by
          rw [List.map_append]
          exact DpAll.snoc (Dp.sameAll k7 _ _ dz) (.tup (sq_t upd_same) (.cons (.int _) (.cons (.int _) .nil)))
        generalize upd H6 t7 (.tup [.int ((k + 1 : Nat) : Int), .int 0]) = H7 at *
        walk_at "S"
        refine s_append ez7 (small_lt (by omega)) ?_
        have st8 := (st6.tr (LStp.same B.row I6 k7)).tr (I7.line B.row (l := a.line ++ [(k, 0)]) dz7 (by rw [List.length_append, List.length_singleton]; show _ ≤ (a.qs ++ [p]).length; rw [List.length_append, List.length_singleton]; omega))
        generalize upd H7 h.ln (.lst (zs ++ [.ref t7])) = H8 at *
        have eab : ({ ({ (Ab.put { a with qs := a.qs ++ [p], nm := a.nm ++ [[]] } (beginE k p)) with pap := a.pap ++ [papE k a.line] } : Ab) with line := a.line ++ [(k, 0)] } : Ab) = a.begin p := by
          unfold Ab.put Ab.begin
          dsimp only
          rw [lk]
        have st8 : LStp K ps body h H ds H8 d1 (a.begin p) := by
          rw [← eab]
          exact st8
        have et : takeF body (n + 1) a p = ((rowsF (takeF body n) k 0 (body p) (a.begin p)).fin k, k) := by
          simp only [takeF]
          rw [ei, ← lk]
        have fb := few_begin (p := p) fw
        have e0 : (a.begin p).nm.getD k [] = [] := by
          show (a.nm ++ [[]]).getD k [] = []
          rw [List.getD_eq_getElem?_getD, List.getElem?_append_right (by have := I.nl; omega), show k - a.nm.length = 0 by have := I.nl; omega]
          rfl
        have rl := rem_lt hp (ix_none ei) (b := a.begin p) rfl
        have lb : (a.begin p).lot ps ≤ 4958 := by
          unfold Ab.lot
          show (a.log ++ [_]).length + 43 * rem ps (a.begin p) ≤ 4958
          rw [List.length_append, List.length_singleton]
          omega
        rw [et] at q
        have l40 := B.len p hp
        have kd : k < d1.length := (List.getElem?_eq_some_iff.mp ek1).1
        have k0 : k < (a.begin p).nm.length := by
          show k < (a.nm ++ [[]]).length
          rw [List.length_append, List.length_singleton]
          have := I.nl
          omega
        cases dbv with
        | tup hs ha =>
          rename_i av_ xv
          have el2 : xv.length = (body p).length := DpAll.len ha
          walk_at "S"
          refine s_iEnumT ?_
          walk_at "S"
          refine s_getS st8.at_.ob (vL_S h) ?_
          walk_at "S"
          refine s_getS st8.at_.sk ebv ?_
          walk_at "S"
          refine ⟨av_, xv, rfl, seqT_tups st8.tup hs, ?_⟩
          refine for_go (walk_enumT (K := K) (a := av_) (xs := xv)) (fun i σ Hi => ∃ (di : List Addr) (ai : Ab) (o5 o6 : Option V), σ = [some (.ref h.O), some (.str p), some (.int ((k + 1 : Nat) : Int)), some bv, some av, o5, o6] ∧ LStp K ps body h H ds Hi di ai ∧ ai = rowsF (takeF body n) k 0 ((body p).take i) (a.begin p) ∧ RunOk ps k i a.line (a.begin p) ai ∧ k < di.length)
            ⟨d1, a.begin p, _, _, rfl, st8, by rw [List.take_zero]; rfl, .start (r := 0) fb e0 (by show a.line ++ [(a.qs.length, 0)] = _; rw [lk]), kd⟩ (fun i σ Hi _ Ii => ?_) (fun i x σ Ha Hb hi Ii y => ?_) fun σ Hi Ii => ?_
          · obtain ⟨di, ai, o5, o6, rfl, st, _⟩ := Ii
            exact seqT_tups st.tup hs
          · obtain ⟨di, ai, o5, o6, rfl, st, ea, R, kdi⟩ := Ii
            obtain ⟨t, b, u, rfl, ht, rfl, eb, ex⟩ := y
            cases eb
            have hi2 : i < (body p).length := by omega
            obtain ⟨u', eu, du, mu⟩ := dpAll_nth ha i hi2
            have ex := (Option.some.inj (eu.symm.trans ex)).symm
            subst ex
            have en2 : (body p)[i]? = some (nth (body p) i) := by
              unfold nth
              rw [List.getD_eq_getElem?_getD, List.getElem?_eq_getElem hi2]
              rfl
            have hx := B.row p hp _ mu
            have k1 : Kp [] Ha (upd Ha t (.tup [.int (i : Nat), u])) := Kp.refl.upd_new ht
            have sta := st.tr (LStp.same B.row st.at_ k1)
            have ee : upd Ha t (.tup [.int (i : Nat), u]) t = some (.tup [.int (i : Nat), u]) := upd_same
            generalize upd Ha t (.tup [.int (i : Nat), u]) = Hb at *
            have Ia := sta.at_
            obtain ⟨r0, er⟩ := R.line
            obtain ⟨ys, ey, dy⟩ := Ia.ln
            rw [er, List.map_append] at dy
            obtain ⟨yp, yl, rfl, dyp, _⟩ := dpAll_last dy
            have lal := Ia.lm
            refine s_gtup (sq_t ee) rfl ?_
            walk_at "S"
            refine ⟨small_le (by simp), fun t2 ht2 => ?_⟩
            have k2 : Kp [] Hb (upd Hb t2 (.tup [.int ((k + 1 : Nat) : Int), .int (i : Nat)])) := Kp.refl.upd_new ht2
            have Ib := Ia.same B.row k2
            have ey2 := k2.get trivial ey
            have dy2 : DpAll K (upd Hb t2 (.tup [.int ((k + 1 : Nat) : Int), .int (i : Nat)])) (yp ++ [.ref t2]) ((a.line ++ [(k, i)]).map lnE) := by
              rw [List.map_append]
              exact DpAll.snoc (Dp.sameAll k2 _ _ dyp) (.tup (sq_t upd_same) (.cons (.int _) (.cons (.int _) .nil)))
            have stb := sta.tr (LStp.same B.row Ia k2)
            generalize upd Hb t2 (.tup [.int ((k + 1 : Nat) : Int), .int (i : Nat)]) = Hc at *
            walk_at "S"
            refine s_getS Ib.ob (vL_ln h) ?_
            walk_at "S"
            refine s_setL ey2 (j := yp.length) (ixN_last _ _) ?_
            rw [set_last]
            have R1 := R.row i
            have stc := stb.tr (Ib.line B.row (l := a.line ++ [(k, i)]) dy2 (by rw [er, List.length_append] at lal; rw [List.length_append]; exact lal))
            rw [show ({ ai with line := a.line ++ [(k, i)] } : Ab) = ai.row i from by
              have := R1.2
              unfold Ab.row at this ⊢
              rw [show setR ai.line i = a.line ++ [(k, i)] from this]] at stc
            generalize upd Hc h.ln (.lst (yp ++ [.ref t2])) = Hd at *
            walk_at "S"
            refine ⟨h, di, ps, body, ai.row i, k, u, _, rfl, B, stc.at_, kdi, Dp.tups stc.tup _ _ hx.flatD du, hx, R1.1.few, Nat.lt_of_le_of_lt R1.1.rem (by omega), by have := R1.1.lot; omega, fun H9 d9 st9 => ?_⟩
            walk_at "S"
            refine ⟨d9, _, _, _, rfl, stc.tr st9, ?_, R1.1.step B (n := n) hx (Nat.lt_of_lt_of_le k0 R.ge) (by omega), ?_⟩
            · rw [take_put en2, rows_snoc, ← ea, List.length_take, Nat.zero_add, Nat.min_eq_left (by omega)]
            · obtain ⟨dk, edk⟩ : ∃ d, di[k]? = some d := ⟨_, List.getElem?_eq_getElem kdi⟩
              exact (List.getElem?_eq_some_iff.mp (st9.ext k dk edk)).1
          · obtain ⟨di, ai, o5, o6, rfl, st, ea, R, kdi⟩ := Ii
            rw [List.take_of_length_le (by omega)] at ea
            rw [← ea] at q
            have Ia := st.at_
            obtain ⟨r0, er⟩ := R.line
            obtain ⟨ys, ey, dy⟩ := Ia.ln
            rw [er, List.map_append] at dy
            obtain ⟨yp, yl, rfl, dyp, _⟩ := dpAll_last dy
            have lal := Ia.lm
            have lt9 : ai.log.length + 43 * rem ps ai ≤ (a.begin p).lot ps + xv.length := R.lot
            walk_at "S"
            refine s_getS Ia.ob (vL_ln h) ?_
            walk_at "S"
            refine s_pop ey (y := yl) (by rw [List.length_append]; simp) ?_
            rw [List.dropLast_concat]
            have st1_ := st.tr (Ia.line B.row (l := a.line) dyp (by rw [er, List.length_append] at lal; omega))
            generalize upd Hi h.ln (.lst yp) = H9 at *
            have I9 := st1_.at_
            obtain ⟨vs9, el9, dvs9⟩ := I9.lg
            have lv9 : vs9.length = ai.log.length := DpAll.len dvs9
            walk_at "S"
            refine s_getS I9.ob (vL_lg h) ?_
            walk_at "S"
            refine ⟨small_le (by simp), fun ta hta => ?_⟩
            have ka : Kp [] H9 (upd H9 ta (.tup [.str "end", .int ((k + 1 : Nat) : Int)])) := Kp.refl.upd_new hta
            have Ic := I9.same B.row ka
            have elc := ka.get trivial el9
            have dtc : Dp K (upd H9 ta (.tup [.str "end", .int ((k + 1 : Nat) : Int)])) (.ref ta) (endE k) := .tup (sq_t upd_same) (.cons (.str _) (.cons (.int _) .nil))
            have dvsc := Dp.sameAll ka _ _ dvs9
            generalize upd H9 ta (.tup [.str "end", .int ((k + 1 : Nat) : Int)]) = Hz at *
            walk_at "S"
            refine s_append elc (small_lt (by omega)) ?_
            have stz := (st1_.tr (LStp.same B.row I9 ka)).tr (Ic.note B.row elc dvsc dtc rfl)
            rw [show Ab.put { ai with line := a.line } (endE k) = ai.fin k from by
              unfold Ab.put Ab.fin
              dsimp only
              rw [er, List.dropLast_concat]] at stz
            walk_at "S"
            exact q _ _ stz
end

/-! plain: what the entries are -/
inductive EntK (ps : List Str) (m : Nat) : PyData → Prop
  | hav {k : Nat} : k < m → EntK ps m (haveE k)
  | beg {k : Nat} {p : Str} : k < m → p ∈ ps → EntK ps m (beginE k p)
  | fin {k : Nat} : k < m → EntK ps m (endE k)
  | noteN {k : Nat} : k < m → EntK ps m (noteE k .none)
  | note {k : Nat} {ys : List Str} : k < m → ys.length ≤ 40 → (∀ y ∈ ys, OkN y) → EntK ps m (noteE k (.tuple (ys.map .str)))
  | pap0 {k : Nat} : k < m → EntK ps m (.tuple [numD k, .none, .none])
  | pap {k j r : Nat} : k < m → j < m → r < 100 → EntK ps m (.tuple [numD k, numD j, .int (r : Nat)])
theorem EntK.mono {ps : List Str} {m n : Nat} {x : PyData} (h : EntK ps m x) (l : m ≤ n) : EntK ps n x := by
  cases h with
  | hav a => exact .hav (by omega)
  | beg a b => exact .beg (by omega) b
  | fin a => exact .fin (by omega)
  | noteN a => exact .noteN (by omega)
  | note a b c => exact .note (by omega) b c
  | pap0 a => exact .pap0 (by omega)
  | pap a b c => exact .pap (by omega) (by omega) c
theorem srt_perm (ks : List Str) : (srt ks).Perm ks := by
  unfold srt
  split
  · rename_i h
    exact h.choose_spec.1
  · exact List.Perm.refl _
structure Inv (ps : List Str) (a : Ab) : Prop where
  few : Few a
  log : ∀ x ∈ a.log, EntK ps a.qs.length x
  pap : ∀ x ∈ a.pap, EntK ps a.qs.length x
  nm : ∀ (j : Nat), ∀ z ∈ a.nm.getD j [], OkN z
  line : ∀ x ∈ a.line, x.1 < a.qs.length ∧ x.2 < 100
section
variable {ps : List Str} {body : Str → List PyData}
theorem Inv.names {a : Ab} (I : Inv ps a) {k : Nat} (hk : k < a.qs.length) (p : Str) : EntK ps a.qs.length (noteE k (a.names p)) := by
  unfold Ab.names
  cases a.ix p with
  | none => exact .noteN hk
  | some j => exact .note hk (by rw [(srt_perm _).length_eq]; exact I.few.2 j) fun y hy => I.nm j y ((srt_perm _).mem_iff.mp hy)
theorem Inv.put {a : Ab} (I : Inv ps a) {x : PyData} (h : EntK ps a.qs.length x) : Inv ps (a.put x) :=
  ⟨I.few, fun y hy => by
    rcases List.mem_append.mp hy with hy | hy
    · exact I.log y hy
    · rw [List.mem_singleton.mp hy]; exact h, I.pap, I.nm, I.line⟩
theorem Inv.row {a : Ab} (I : Inv ps a) {i : Nat} (hi : i < 100) : Inv ps (a.row i) :=
  ⟨I.few, I.log, I.pap, I.nm, fun x hx => by
    have hx : x ∈ setR a.line i := hx
    unfold setR at hx
    rcases List.mem_append.mp hx with hx | hx
    · exact I.line x ((List.dropLast_sublist _).subset hx)
    · cases e : a.line.getLast? with
      | none => rw [e] at hx; cases hx
      | some y =>
        rw [e] at hx
        have hx : x = (y.1, i) := List.mem_singleton.mp hx
        subst hx
        exact ⟨(I.line y (List.mem_of_getLast? e)).1, hi⟩⟩
theorem Inv.bind {a : Ab} (I : Inv ps a) {k : Nat} {z : Str} (hz : OkN z) (f : Few (a.bind k z)) : Inv ps (a.bind k z) :=
  ⟨f, I.log, I.pap, fun j y hy => by
    have hy : y ∈ (a.nm.set k (putN (a.nm.getD k []) z)).getD j [] := hy
    rw [getD_set] at hy
    split at hy
    · unfold putN at hy
      split at hy
      · exact I.nm k y hy
      · rcases List.mem_append.mp hy with hy | hy
        · exact I.nm k y hy
        · rw [List.mem_singleton.mp hy]; exact hz
    · exact I.nm j y hy, I.line⟩
theorem Inv.begin {a : Ab} (I : Inv ps a) {p : Str} (hp : p ∈ ps) : Inv ps (a.begin p) := by
  have lq : (a.begin p).qs.length = a.qs.length + 1 := by show (a.qs ++ [p]).length = _; rw [List.length_append]; rfl
  refine ⟨few_begin I.few, fun x hx => ?_, fun x hx => ?_, fun j z hz => ?_, fun x hx => ?_⟩
  · rcases List.mem_append.mp hx with hx | hx
    · exact (I.log x hx).mono (by omega)
    · rw [List.mem_singleton.mp hx]; exact .beg (by omega) hp
  · rcases List.mem_append.mp hx with hx | hx
    · exact (I.pap x hx).mono (by omega)
    · rw [List.mem_singleton.mp hx]
      unfold papE
      cases e : a.line.getLast? with
      | none => exact .pap0 (by omega)
      | some y =>
        have := I.line y (List.mem_of_getLast? e)
        exact .pap (by omega) (by omega) this.2
  · have hz : z ∈ (a.nm ++ [[]]).getD j [] := hz
    rw [List.getD_eq_getElem?_getD, List.getElem?_append] at hz
    split at hz
    · rw [← List.getD_eq_getElem?_getD] at hz
      exact I.nm j z hz
    · rcases Nat.eq_zero_or_pos (j - a.nm.length) with e | e
      · rw [e] at hz; simp at hz
      · rw [List.getElem?_eq_none (by rw [List.length_singleton]; exact e)] at hz; simp at hz
  · rcases List.mem_append.mp hx with hx | hx
    · have := I.line x hx
      exact ⟨by omega, this.2⟩
    · rw [List.mem_singleton.mp hx]
      exact ⟨by show a.qs.length < _; omega, by show 0 < 100; decide⟩
theorem take_inv (B : BodyOk ps body) : ∀ (f : Nat) (a : Ab) (p : Str), p ∈ ps → Inv ps a → Inv ps (takeF body f a p).1 ∧ a.qs.length ≤ (takeF body f a p).1.qs.length := by
  intro f
  induction f with
  | zero => exact fun a p _ h => ⟨h, Nat.le_refl _⟩
  | succ f ih =>
    intro a p hp I
    simp only [takeF]
    cases h : a.ix p with
    | some k => exact ⟨I.put (.hav (List.getElem?_eq_some_iff.mp (ix_some h)).1), Nat.le_refl _⟩
    | none =>
      have rows : ∀ (k : Nat) (pre : List (Nat × Nat)) (a0 : Ab) (xs : List PyData) (i : Nat) (b : Ab), (∀ x ∈ xs, RowK ps x) → k < b.qs.length → Inv ps b → RunOk ps k i pre a0 b → i + xs.length ≤ 40 → Inv ps (rowsF (takeF body f) k i xs b) ∧ b.qs.length ≤ (rowsF (takeF body f) k i xs b).qs.length := by
        intro k pre a0 xs
        induction xs with
        | nil => exact fun i b _ _ Ib _ _ => ⟨Ib, Nat.le_refl _⟩
        | cons x r ihr =>
          intro i b hx hk Ib R hl
          rw [List.length_cons] at hl
          have hx1 := hx x List.mem_cons_self
          have I1 := Ib.row (i := i) (by omega)
          have R1 := (R.row i).1
          have R2 := R1.step B (n := f) hx1 (by have := Ib.few.1; show k < b.nm.length; omega) (by omega)
          have I2 : Inv ps (rowF (takeF body f) k x (b.row i)) ∧ b.qs.length ≤ (rowF (takeF body f) k x (b.row i)).qs.length := by
            cases hx1 with
            | set hz => exact ⟨I1.bind hz R2.few, Nat.le_refl _⟩
            | take hz hq =>
              obtain ⟨J, l⟩ := ih (b.row i) _ hq I1
              exact ⟨J.bind hz R2.few, l⟩
            | note hq => exact ⟨I1.put (I1.names hk _), Nat.le_refl _⟩
          obtain ⟨J, l⟩ := ihr (i + 1) _ (fun y hy => hx y (List.mem_cons_of_mem _ hy)) (Nat.lt_of_lt_of_le hk I2.2) I2.1 R2 (by omega)
          exact ⟨J, Nat.le_trans I2.2 l⟩
      have Ib := I.begin hp
      have lq : (a.begin p).qs.length = a.qs.length + 1 := by show (a.qs ++ [p]).length = _; rw [List.length_append]; rfl
      have e0 : (a.begin p).nm.getD a.qs.length [] = [] := by
        show (a.nm ++ [[]]).getD a.qs.length [] = []
        rw [List.getD_eq_getElem?_getD, List.getElem?_append_right (by have := I.few.1; omega), show a.qs.length - a.nm.length = 0 by have := I.few.1; omega]
        rfl
      obtain ⟨J, l⟩ := rows a.qs.length a.line (a.begin p) (body p) 0 (a.begin p) (B.row p hp) (by omega) Ib (.start (r := 0) Ib.few e0 rfl) (by have := B.len p hp; omega)
      refine ⟨⟨J.few, fun x hx => ?_, J.pap, J.nm, fun x hx => J.line x ((List.dropLast_sublist _).subset hx)⟩, by show _ ≤ (rowsF _ _ _ _ _).qs.length; omega⟩
      rcases List.mem_append.mp hx with hx | hx
      · exact J.log x hx
      · rw [List.mem_singleton.mp hx]
        exact .fin (by show _ < (rowsF _ _ _ _ _).qs.length; omega)
end
/-! what repr asks, short leaves -/
theorem short_all30 {xs : List PyData} (h : ∀ x ∈ xs, PyData.leavesShort 8 x = true) : PyData.leavesShortAll 8 xs = true := by
  induction xs with
  | nil => rfl
  | cons x r ih =>
    simp only [PyData.leavesShortAll, Bool.and_eq_true]
    exact ⟨h x List.mem_cons_self, ih fun y hy => h y (List.mem_cons_of_mem _ hy)⟩
structure SmOk (x : PyData) (n k : Nat) : Prop where
  sh : x.leavesShort 8 = true
  ok : x.showable = true
  nd : x.hasDict = false
  dp : x.depth ≤ k
  bk : x.bulk ≤ n
theorem SmOk.tup {xs : List PyData} {n m k : Nat} (h : ∀ x ∈ xs, SmOk x n k) (b : xs.length * (n + 1) ≤ m) : SmOk (.tuple xs) m (k + 1) := by
  refine ⟨?_, ?_, ?_, ?_, ?_⟩
  · simp only [PyData.leavesShort]
    exact short_all30 fun x hx => (h x hx).sh
  · simp only [PyData.showable]
    exact showable_all fun x hx => (h x hx).ok
  · simp only [PyData.hasDict]
    exact noDict_all fun x hx => (h x hx).nd
  · simp only [PyData.depth]
    have := depth_all (n := k) fun x hx => (h x hx).dp
    omega
  · simp only [PyData.bulk]
    exact Nat.le_trans (bulk_all fun x hx => (h x hx).bk) b
theorem SmOk.lst {xs : List PyData} {n m k : Nat} (h : ∀ x ∈ xs, SmOk x n k) (b : xs.length * (n + 1) ≤ m) : SmOk (.list xs) m (k + 1) := by
  refine ⟨?_, ?_, ?_, ?_, ?_⟩
  · simp only [PyData.leavesShort]
    exact short_all30 fun x hx => (h x hx).sh
  · simp only [PyData.showable]
    exact showable_all fun x hx => (h x hx).ok
  · simp only [PyData.hasDict]
    exact noDict_all fun x hx => (h x hx).nd
  · simp only [PyData.depth]
    have := depth_all (n := k) fun x hx => (h x hx).dp
    omega
  · simp only [PyData.bulk]
    exact Nat.le_trans (bulk_all fun x hx => (h x hx).bk) b
theorem SmOk.weak {x : PyData} {n m k l : Nat} (h : SmOk x n k) (a : n ≤ m) (b : k ≤ l) : SmOk x m l := ⟨h.sh, h.ok, h.nd, Nat.le_trans h.dp b, Nat.le_trans h.bk a⟩
theorem SmOk.non : SmOk .none 0 0 := ⟨by decide +kernel, by decide +kernel, rfl, Nat.le_refl _, Nat.le_refl _⟩
theorem SmOk.nat {k : Nat} (h : k < 1000) : SmOk (.int (k : Nat)) 0 0 := by
  refine ⟨?_, ?_, by simp only [PyData.hasDict], by simp only [PyData.depth]; exact Nat.le_refl _, by simp only [PyData.bulk]; exact Nat.le_refl _⟩
  · simp only [PyData.leavesShort, decide_eq_true_eq]
    have e : PyData.shown (.int (k : Nat)) = Str.ofString (toString (k : Int)) := by simp only [PyData.shown]
    rw [e, PySem.ofString_length]
    exact Nat.le_trans (int_text_length_le10 (k := 3) (by decide) (by omega)) (by decide)
  · simp only [PyData.showable, decide_eq_true_eq]
    by_cases z : k = 0
    · subst z; decide
    · exact (Nat.log2_lt (by omega)).mpr (Nat.lt_of_lt_of_le (show ((k : Nat) : Int).natAbs < 1000 by omega) (by decide +kernel))
theorem SmOk.str {z : Str} (h : OkL (tl z)) : SmOk (.str z) z.length 0 := ⟨short_str h, by simp only [PyData.showable], by simp only [PyData.hasDict], by simp only [PyData.depth]; exact Nat.le_refl _, by simp only [PyData.bulk]; exact Nat.le_refl _⟩
theorem EntK.sm {ps : List Str} {m : Nat} {x : PyData} (h : EntK ps m x) (ok : ∀ p ∈ ps, OkN p) (hm : m ≤ 100) : SmOk x 2000 2 := by
  have num : ∀ {k : Nat}, k < m → SmOk (numD k) 400 1 := fun hk => (SmOk.nat (k := _ + 1) (by omega)).weak (Nat.zero_le _) (Nat.zero_le _)
  have wd : ∀ {z : Str}, OkL (tl z) → z.length ≤ 400 → SmOk (.str z) 400 1 := fun a b => (SmOk.str a).weak b (Nat.zero_le _)
  have nn : SmOk .none 400 1 := SmOk.non.weak (Nat.zero_le _) (Nat.zero_le _)
  have tup : ∀ {xs : List PyData}, (∀ x ∈ xs, SmOk x 400 1) → xs.length ≤ 4 → SmOk (.tuple xs) 2000 2 := fun a b => SmOk.tup a (by omega)
  cases h with
  | hav a =>
    refine tup (fun x hx => ?_) (by simp)
    simp only [List.mem_cons, List.not_mem_nil, or_false] at hx
    rcases hx with rfl | rfl
    · exact wd (by unfold OkL; decide +kernel) (by decide +kernel)
    · exact num a
  | beg a b =>
    refine tup (fun x hx => ?_) (by simp)
    simp only [List.mem_cons, List.not_mem_nil, or_false] at hx
    rcases hx with rfl | rfl | rfl
    · exact wd (by unfold OkL; decide +kernel) (by decide +kernel)
    · exact num a
    · exact wd (ok _ b).okl (by have := (ok _ b).len; omega)
  | fin a =>
    refine tup (fun x hx => ?_) (by simp)
    simp only [List.mem_cons, List.not_mem_nil, or_false] at hx
    rcases hx with rfl | rfl
    · exact wd (by unfold OkL; decide +kernel) (by decide +kernel)
    · exact num a
  | noteN a =>
    refine tup (fun x hx => ?_) (by simp)
    simp only [List.mem_cons, List.not_mem_nil, or_false] at hx
    rcases hx with rfl | rfl | rfl
    · exact wd (by unfold OkL; decide +kernel) (by decide +kernel)
    · exact num a
    · exact nn
  | @note k ys a b c =>
    refine tup (fun x hx => ?_) (by simp)
    simp only [List.mem_cons, List.not_mem_nil, or_false] at hx
    rcases hx with rfl | rfl | rfl
    · exact wd (by unfold OkL; decide +kernel) (by decide +kernel)
    · exact num a
    · refine SmOk.tup (n := 8) (k := 0) (fun x hx => ?_) (by rw [List.length_map]; omega)
      obtain ⟨y, hy, rfl⟩ := List.mem_map.mp hx
      exact (SmOk.str (c y hy).okl).weak (c y hy).len (Nat.le_refl _)
  | pap0 a =>
    refine tup (fun x hx => ?_) (by simp)
    simp only [List.mem_cons, List.not_mem_nil, or_false] at hx
    rcases hx with rfl | rfl | rfl
    · exact num a
    · exact nn
    · exact nn
  | @pap k j r a b c =>
    refine tup (fun x hx => ?_) (by simp)
    simp only [List.mem_cons, List.not_mem_nil, or_false] at hx
    rcases hx with rfl | rfl | rfl
    · exact num a
    · exact num b
    · exact (SmOk.nat (by omega)).weak (Nat.zero_le _) (Nat.zero_le _)
/-- repr of a list of such -/
theorem rep_sm {K : PySem.W.Frag} {H : Hp} {Q : VK} {v : V} {d : PyData} {n : Nat} (dd : Dp K H v d) (s : SmOk d n 60) (i : isDisplay d = true) (b : n ≤ 1600000) (q : Q (.str (PyData.shown d)) H) : rReprA K [v] H Q := by
  refine .inr ⟨_, _, rfl, dd, i, s.ok, s.nd, s.dp, ?_, q⟩
  have e := PyData.shown_le_bulk 8 (by decide) _ s.sh
  have := s.bk
  rw [sizeLine_eq]
  omega

def spRight (K : PySem.W.Frag) (CR CM : Addr) : Sp := fun vs H Q _ => ∃ (h : HA) (s : Hs) (g : LA) (ds : List Addr) (ps : List Str) (body : Str → List PyData), vs = [.ref h.self, .ref g.O] ∧ BodyOk ps body ∧ HouseAt K CR CM ps body H h s ∧ OwnAt K ps body H g ds s.ab ∧ Inv ps s.ab ∧ s.ab.lot ps ≤ 600 ∧
  ∀ H', Kp [] H H' → Q (.bl true) H'
/-- log and paper may be shown -/
theorem Inv.smL {ps : List Str} {a : Ab} (I : Inv ps a) (ok : ∀ p ∈ ps, OkN p) (hm : a.qs.length ≤ 100) (l : a.log.length ≤ 700) : SmOk (.list a.log) 1500000 3 := SmOk.lst (fun x hx => (I.log x hx).sm ok hm) (by omega)
theorem Inv.smP {ps : List Str} {a : Ab} (I : Inv ps a) (ok : ∀ p ∈ ps, OkN p) (hm : a.qs.length ≤ 100) (l : a.pap.length ≤ 50) : SmOk (.list a.pap) 101000 3 := SmOk.lst (fun x hx => (I.pap x hx).sm ok hm) (by omega)
section
variable {P : Program} {w : World} {K : PySem.W.Frag} {mg : Str → Option Value} {base : Heap} {C_Module C_Runs : Addr} {n : Nat}
theorem ok_l_right {f : Addr} {fd : FuncData} (F : Fun K "_law_right" "_law_right" s_l_right f fd) (T : Txt K mg C_Module C_Runs)
    (D_Runs_paper : DmF P w K mg base 1 C_Runs "paper" ["self"] (spPaperR K C_Runs C_Module)) (D_Runs_log : DmF P w K mg base 1 C_Runs "log" ["self"] (spLogR K C_Runs C_Module)) :
    FnG P w K mg base 2 f fd ["_law_house_here", "_law_own"] (spRight K C_Runs C_Module) := by
  refine fnG_of F sc_l_right (fun vs H Q E h => ?_) (fun cdv A outer s H vs Q E hG hr h => ?_)
  · obtain ⟨h, s, g, ds, ps, body, rfl, _⟩ := h
    rfl
  · obtain ⟨f_Runs_paper, fd_Runs_paper, G_Runs_paper, mt_Runs_paper, b_Runs_paper⟩ := D_Runs_paper; obtain ⟨f_Runs_log, fd_Runs_log, G_Runs_log, mt_Runs_log, b_Runs_log⟩ := D_Runs_log
    obtain ⟨h, s, g, ds, ps, body, rfl, B, I, O, V_, lt, q⟩ := h
    have hu := hu_of hr
    refine ⟨_, (pss_cons (ps_for PassesOwn.never rfl (pi_range1 rfl T.n_range (pa_cons pe_int pa_nil)) (pg_name (i := 2) sc_l_right.nd rfl (Or.inl rfl)) (pss_cons (ps_par (i := 3) (j := 4) rfl sc_l_right.nd rfl rfl (by decide) rfl rfl (pa_cons (pe_meth0 (pv 0) T.cl_Runs mt_Runs_log G_Runs_log (hr.mono (by first | decide | omega)) b_Runs_log .nil pass0) (pa_cons (pe_meth0 (pv 0) T.cl_Runs mt_Runs_paper G_Runs_paper (hr.mono (by first | decide | omega)) b_Runs_paper .nil pass0) pa_nil)) (by rfl))
      (pss_cons (ps_if (PW.pt (pw_or (pt_cmpR op_ne (pe_callB (reprAK (K := K) rfl hG hr.units) (by rfl) T.n_repr (by decide +kernel) (pa_cons (pv 3) pa_nil)) (pe_callB (reprAK (K := K) rfl hG hr.units) (by rfl) T.n_repr (by decide +kernel) (pa_cons (pe_dget hu (pv 1) pe_str (fun _ _ => rfl)) pa_nil)) (nomark _)) (pw_or1 (pt_cmpR op_ne (pe_callB (reprAK (K := K) rfl hG hr.units) (by rfl) T.n_repr (by decide +kernel) (pa_cons (pv 4) pa_nil)) (pe_callB (reprAK (K := K) rfl hG hr.units) (by rfl) T.n_repr (by decide +kernel) (pa_cons (pe_dget hu (pv 1) pe_str (fun _ _ => rfl)) pa_nil)) (nomark _))))) (pss_one (ps_ret pe_bl)) pss_nil)
      (pss_cons (ps_expr (kBM0 (K := K) rfl (pe_bm0 PySem.F.plainAttrs_list PySem.F.slot_list_reverse PySem.F.type_list_reverse mt_reverse (pv 3))))
      (pss_cons (ps_expr (kBM (K := K) rfl (pe_bm PySem.F.plainAttrs_list PySem.F.slot_list_append PySem.F.type_list_append mt_append (pv 3) (pa_cons (pe_tup (pa_cons pe_str (pa_cons pe_int pa_nil))) pa_nil))))
      (pss_one (ps_expr (kBM0 (K := K) rfl (pe_bm0 PySem.F.plainAttrs_list PySem.F.slot_list_clear PySem.F.type_list_clear mt_clear (pv 4))))))))))
      (pss_one (ps_ret pe_bl))), ?_⟩
    refine st_start (σ' := [some (.ref h.self), some (.ref g.O), none, none, none]) rfl ?_
    have ltn : s.notes.length + 43 * rem ps s.ab ≤ 600 := lt
    have l8 := O.l8 B
    have wm := O.wm
    have smL := V_.smL B.nm (by omega) (by show s.notes.length ≤ 700; omega)
    have smP := V_.smP B.nm (by omega) (by omega)
    walk_at "S"
    refine ⟨by omega, by omega, ?_⟩
    refine for_go walk_range (fun i σ H1 => ∃ (o2 o3 o4 : Option V), σ = [some (.ref h.self), some (.ref g.O), o2, o3, o4] ∧ Kp [] H H1)
      ⟨_, _, _, rfl, Kp.refl⟩ (fun _ _ _ _ _ => trivial) (fun i x σ Ha Hb hi I1 y => ?_) fun σ H1 I1 => ?_
    · obtain ⟨rfl, rfl⟩ := y
      obtain ⟨o2, o3, o4, rfl, k1⟩ := I1
      have J := I.same B.row k1
      walk_at "S"
      refine s_insM J.ob (lkR_none h (m := "log") (by decide +kernel)) ?_
      walk_at "S"
      refine ⟨h, s, ps, body, rfl, J, fun l ws hl dw => ?_⟩
      have k2 : Kp [] Hb (upd Hb l (.lst ws)) := Kp.refl.upd_new hl
      have J2 := J.same B.row k2
      have el : upd Hb l (.lst ws) l = some (.lst ws) := upd_same
      have dw2 := Dp.sameAll k2 _ _ dw
      have k12 := k1.tr k2
      have hl0 := k1.free trivial hl
      generalize upd Hb l (.lst ws) = H2 at *
      walk_at "S"
      refine s_insM J2.ob (lkR_none h (m := "paper") (by decide +kernel)) ?_
      walk_at "S"
      refine ⟨h, s, ps, body, rfl, J2, fun l3 ws3 hl3 dw3 => ?_⟩
      have k3 : Kp [] H2 (upd H2 l3 (.lst ws3)) := Kp.refl.upd_new hl3
      have O3 := O.same B.row (k12.tr k3)
      have el3 : upd H2 l3 (.lst ws3) l3 = some (.lst ws3) := upd_same
      have dw33 := Dp.sameAll k3 _ _ dw3
      have dw23 := Dp.sameAll k3 _ _ dw2
      have el23 := k3.get trivial el
      have k13 := k12.tr k3
      have hl30 := k12.free trivial hl3
      have n13 : l ≠ l3 := ne_of_none el hl3
      generalize upd H2 l3 (.lst ws3) = H3 at *
      obtain ⟨vs, eg, dg⟩ := O3.lg
      obtain ⟨us, eu, du⟩ := O3.pp
      walk_at "S"
      refine rep_sm (d := .list s.ab.log) (.lst (sq_l el23) dw23) (smL.weak (Nat.le_refl _) (by omega)) rfl (by omega) ?_
      walk_at "S"
      refine s_getS O3.ob (vL_lg g) ?_
      walk_at "S"
      refine rep_sm (d := .list s.ab.log) (.lst (sq_l eg) dg) (smL.weak (Nat.le_refl _) (by omega)) rfl (by omega) ?_
      walk_at "S"
      rw [if_neg (by simp)]
      walk_at "S"
      refine rep_sm (d := .list s.ab.pap) (.lst (sq_l el3) dw33) (smP.weak (Nat.le_refl _) (by omega)) rfl (by omega) ?_
      walk_at "S"
      refine s_getS O3.ob (vL_pp g) ?_
      walk_at "S"
      refine rep_sm (d := .list s.ab.pap) (.lst (sq_l eu) du) (smP.weak (Nat.le_refl _) (by omega)) rfl (by omega) ?_
      walk_at "S"
      rw [if_neg (by simp)]
      have lw := DpAll.len dw23
      walk_at "S"
      refine ⟨l, ws, rfl, rfl, el23, ?_⟩
      have e4 : upd H3 l (.lst ws.reverse) l = some (.lst ws.reverse) := upd_same
      have e43 : upd H3 l (.lst ws.reverse) l3 = some (.lst ws3) := (upd_ne n13.symm).trans el3
      have k4 : Kp [] H (upd H3 l (.lst ws.reverse)) := k13.upd_loc hl0
      generalize upd H3 l (.lst ws.reverse) = H4 at *
      walk_at "S"
      refine ⟨small_le (by simp), fun t ht => ?_⟩
      have e5 : upd H4 t (.tup [.str "end", .int 1]) l = some (.lst ws.reverse) := (upd_ne (ne_of_none e4 ht)).trans e4
      have e53 : upd H4 t (.tup [.str "end", .int 1]) l3 = some (.lst ws3) := (upd_ne (ne_of_none e43 ht)).trans e43
      have k5 : Kp [] H (upd H4 t (.tup [.str "end", .int 1])) := k4.upd_new ht
      generalize upd H4 t (.tup [.str "end", .int 1]) = H5 at *
      walk_at "S"
      refine s_append e5 (small_lt (by rw [List.length_reverse]; have : ws.length = s.notes.length := lw; omega)) ?_
      have e6 : upd H5 l (.lst (ws.reverse ++ [.ref t])) l3 = some (.lst ws3) := (upd_ne n13.symm).trans e53
      have k6 : Kp [] H (upd H5 l (.lst (ws.reverse ++ [.ref t]))) := k5.upd_loc hl0
      generalize upd H5 l (.lst (ws.reverse ++ [.ref t])) = H6 at *
      walk_at "S"
      refine ⟨l3, ws3, rfl, rfl, e6, ?_⟩
      exact ⟨_, _, _, rfl, k6.upd_loc hl30⟩
    · obtain ⟨o2, o3, o4, rfl, k1⟩ := I1
      walk_at "S"
      exact q _ k1
end

section
variable {P : Program} {w : World} {K : PySem.W.Frag} {mg : Str → Option Value} {base : Heap} {C_Module C_Runs : Addr} {n : Nat}
theorem ltaken_all {f_t f_d : Addr} {fd_t fd_d : FuncData} (T : Txt K mg C_Module C_Runs) (F_t : Fun K "_law_taken" "_law_taken" s_l_taken f_t fd_t) (F_d : Fun K "_law_done" "_law_done" s_l_done f_d fd_d)
    (m1 : mg "_law_taken" = some (.ref f_t)) (k1 : PySem.W.keepIn K (.ref f_t) = true) (b1 : Binds K fd_t ["_law_house_here", "_law_path"] [])
    (m2 : mg "_law_done" = some (.ref f_d)) (k2 : PySem.W.keepIn K (.ref f_d) = true) (b2 : Binds K fd_d ["_law_house_here", "_law_number_here", "_law_row_here"] []) :
    ∀ n : Nat, DnF P w K mg base (2 * n + 1) "_law_taken" ["_law_house_here", "_law_path"] (spLTaken K n)
  | 0 => ⟨_, _, ⟨fun _ _ _ _ z => by obtain ⟨_, _, _, _, _, _, _, _, _, _, _, z, _⟩ := z; exact absurd z (Nat.not_lt_zero _), fun _ _ _ _ _ _ _ _ _ _ _ _ _ z => by obtain ⟨_, _, _, _, _, _, _, _, _, _, _, z, _⟩ := z; exact absurd z (Nat.not_lt_zero _)⟩, m1, k1, b1⟩
  | n + 1 => by
    have D0 := ltaken_all T F_t F_d m1 k1 b1 m2 k2 b2 n
    have D1 : DnF P w K mg base (2 * n + 2) "_law_done" ["_law_house_here", "_law_number_here", "_law_row_here"] (spLDone K n) := ⟨_, _, ok_l_done F_d T D0, m2, k2, b2⟩
    exact ⟨_, _, ok_l_taken F_t T D1, m1, k1, b1⟩
end
/-! a house and the law's own one -/
structure Pr where
  h : HA
  s : Hs
  g : LA
  ds : List Addr
abbrev Pr.own (p : Pr) : List Addr := K31.own p.h p.s
abbrev Pr.ownG (p : Pr) : List Addr := ownL p.g p.ds
abbrev Pr.fix (p : Pr) : List Addr := p.g.S :: p.h.sh :: p.h.shs.map (·.a)
structure PrAt (K : PySem.W.Frag) (CR CM : Addr) (ps : List Str) (body : Str → List PyData) (H : Hp) (p : Pr) : Prop where
  a : HouseAt K CR CM ps body H p.h p.s
  b : OwnAt K ps body H p.g p.ds p.s.ab
  i : Inv ps p.s.ab
  d : ∀ x ∈ p.own, x ∉ p.ownG
section
variable {K : PySem.W.Frag} {CR CM : Addr} {ps : List Str} {body : Str → List PyData} {H H' : Hp} {p q : Pr}
theorem HouseAt.some (I : HouseAt K CR CM ps body H p.h p.s) {x : Addr} (hx : x ∈ p.own) : ∃ o, H x = some o := (I.notup x hx).2
theorem OwnAt.some (I : OwnAt K ps body H p.g p.ds p.s.ab) {x : Addr} (hx : x ∈ p.ownG) : ∃ o, H x = some o := (I.mut hx).some
/-- both, of one heap -/
structure LS (K : PySem.W.Frag) (CR CM : Addr) (ps : List Str) (body : Str → List PyData) (H : Hp) (fx : List Addr) (p q : Pr) : Prop where
  ap : PrAt K CR CM ps body H p
  aq : PrAt K CR CM ps body H q
  pp : ∀ x ∈ p.own ++ p.ownG, x ∉ q.own ++ q.ownG
  fp : ∀ x ∈ fx, x ∉ p.own ++ p.ownG ∧ x ∉ q.own ++ q.ownG
  fs : ∀ x ∈ fx, ∃ o, H x = some o
  pf : ∀ x ∈ p.fix, x ∈ fx
  qf : ∀ x ∈ q.fix, x ∈ fx
theorem LS.swap {fx : List Addr} (L : LS K CR CM ps body H fx p q) : LS K CR CM ps body H fx q p := ⟨L.aq, L.ap, fun x hx m => L.pp x m hx, fun x hx => ⟨(L.fp x hx).2, (L.fp x hx).1⟩, L.fs, L.qf, L.pf⟩
theorem PrAt.same (B : BodyOk ps body) (I : PrAt K CR CM ps body H p) (k : Kp [] H H') : PrAt K CR CM ps body H' p := ⟨I.a.same B.row k, I.b.same B.row k, I.i, I.d⟩
theorem LS.same {fx : List Addr} (B : BodyOk ps body) (L : LS K CR CM ps body H fx p q) (k : Kp [] H H') : LS K CR CM ps body H' fx p q :=
  ⟨L.ap.same B k, L.aq.same B k, L.pp, L.fp, fun x hx => by obtain ⟨o, e⟩ := L.fs x hx; exact ⟨o, k.get trivial e⟩, L.pf, L.qf⟩
theorem nin_of {x : Addr} {W : List Addr} (h : x ∉ W) : Nin x W := Nin.intro fun y hy e => h (e ▸ hy)
/-- the house takes, its own one not yet: all else stands -/
theorem LS.taken {fx : List Addr} (B : BodyOk ps body) (L : LS K CR CM ps body H fx p q) {h' : HA} {H1 : Hp} {s' : Hs} (st : StpB K CR CM ps body p.h H p.s h' H1 s') :
    OwnAt K ps body H1 p.g p.ds p.s.ab ∧ PrAt K CR CM ps body H1 q ∧ (∀ x ∈ own h' s', x ∉ p.ownG) ∧ (∀ x ∈ own h' s', x ∉ q.own ++ q.ownG) ∧ (∀ x ∈ fx, x ∉ own h' s') ∧ ∀ x ∈ fx, ∀ o, H x = some o → H1 x = some o := by
  have nq : ∀ x ∈ q.own ++ q.ownG, x ∉ p.own := fun x hx m => L.pp x (List.mem_append_left _ m) hx
  have nf : ∀ x ∈ fx, x ∉ p.own := fun x hx m => (L.fp x hx).1 (List.mem_append_left _ m)
  refine ⟨L.ap.b.kp B.row st.kp st.tup (fun x hx => nin_of fun m => L.ap.d x m hx) (nin_of (nf _ (L.pf _ List.mem_cons_self))), ⟨L.aq.a.kpM B.row st.kp st.mks st.tup (fun x hx => nin_of (nq x (List.mem_append_left _ hx))) (fun x hx => nin_of (nf _ (L.qf x (List.mem_cons_of_mem _ hx)))), L.aq.b.kp B.row st.kp st.tup (fun x hx => nin_of (nq x (List.mem_append_right _ hx))) (nin_of (nf _ (L.qf _ List.mem_cons_self))), L.aq.i, L.aq.d⟩, fun x hx m => ?_, fun x hx m => ?_, fun x hx m => ?_, fun x hx o e => st.kp.get (nin_of (nf x hx)) e⟩
  · rcases st.new x hx with h | h
    · exact L.ap.d x h m
    · obtain ⟨o, e⟩ := L.ap.b.some m; rw [h] at e; cases e
  · rcases st.new x hx with h | h
    · exact L.pp x (List.mem_append_left _ h) m
    · rcases List.mem_append.mp m with m | m
      · obtain ⟨o, e⟩ := L.aq.a.some m; rw [h] at e; cases e
      · obtain ⟨o, e⟩ := L.aq.b.some m; rw [h] at e; cases e
  · rcases st.new x m with h | h
    · exact nf x hx h
    · obtain ⟨o, e⟩ := L.fs x hx; rw [h] at e; cases e
/-- then its own one takes -/
theorem LS.took {fx : List Addr} (B : BodyOk ps body) (L : LS K CR CM ps body H fx p q) {h' : HA} {H1 H2 : Hp} {s' : Hs} {ds' : List Addr} (st : StpB K CR CM ps body p.h H p.s h' H1 s') (lt : LStp K ps body p.g H1 p.ds H2 ds' s'.ab) (iv : Inv ps s'.ab) :
    LS K CR CM ps body H2 fx ⟨h', s', p.g, ds'⟩ q ∧ ∀ x ∈ fx, ∀ o, H x = some o → H2 x = some o := by
  obtain ⟨b1, q1, n1, n2, n3, n4⟩ := L.taken B st
  have pf : ∀ x ∈ h'.sh :: h'.shs.map (·.a), x ∈ fx := fun x hx => by rw [st.sh.1, st.sh.2] at hx; exact L.pf x (List.mem_cons_of_mem _ hx)
  have ng : ∀ x ∈ p.ownG, x ∉ own h' s' := fun x hx m => n1 x m hx
  have nq : ∀ x ∈ q.own ++ q.ownG, x ∉ p.ownG := fun x hx m => L.pp x (List.mem_append_right _ m) hx
  have nf : ∀ x ∈ fx, x ∉ p.ownG := fun x hx m => (L.fp x hx).1 (List.mem_append_right _ m)
  have fs1 : ∀ x ∈ fx, ∃ o, H1 x = some o := fun x hx => by obtain ⟨o, e⟩ := L.fs x hx; exact ⟨o, n4 x hx o e⟩
  have mk : MK CM H1 H2 := lt.ti.mks
  have d1 : ∀ x ∈ own h' s', x ∉ ownL p.g ds' := fun x hx m => by
    rcases lt.new x m with h | h
    · exact n1 x hx h
    · obtain ⟨_, o, e⟩ := st.at_.notup x hx; rw [h] at e; cases e
  refine ⟨⟨⟨st.at_.kpM B.row lt.kp mk lt.tup (fun x hx => nin_of (n1 x hx)) (fun x hx => nin_of (nf x (pf x hx))), lt.at_, iv, d1⟩, ⟨q1.a.kpM B.row lt.kp mk lt.tup (fun x hx => nin_of (nq x (List.mem_append_left _ hx))) (fun x hx => nin_of (nf _ (L.qf x (List.mem_cons_of_mem _ hx)))), q1.b.kp B.row lt.kp lt.tup (fun x hx => nin_of (nq x (List.mem_append_right _ hx))) (nin_of (nf _ (L.qf _ List.mem_cons_self))), q1.i, q1.d⟩, fun x hx m => ?_, fun x hx => ⟨fun m => ?_, (L.fp x hx).2⟩, fun x hx => by obtain ⟨o, e⟩ := fs1 x hx; exact ⟨o, lt.kp.get (nin_of (nf x hx)) e⟩, fun x hx => ?_, L.qf⟩, fun x hx o e => lt.kp.get (nin_of (nf x hx)) (n4 x hx o e)⟩
  · rcases List.mem_append.mp hx with h | h
    · exact n2 x h m
    · rcases lt.new x h with h | h
      · exact L.pp x (List.mem_append_right _ h) m
      · rcases List.mem_append.mp m with m | m
        · obtain ⟨o, e⟩ := q1.a.some m; rw [h] at e; cases e
        · obtain ⟨o, e⟩ := q1.b.some m; rw [h] at e; cases e
  · rcases List.mem_append.mp m with m | m
    · exact n3 x hx m
    · rcases lt.new x m with h | h
      · exact nf x hx h
      · obtain ⟨o, e⟩ := fs1 x hx; rw [h] at e; cases e
  · rcases List.mem_cons.mp hx with rfl | hx
    · exact L.pf _ List.mem_cons_self
    · exact pf x hx
end
/-! the shown text grows -/
theorem shownAll_app : ∀ (xs ys : List PyData), PyData.shownAll (xs ++ ys) = PyData.shownAll xs ++ PyData.shownAll ys
  | [], ys => by simp only [PyData.shownAll, List.nil_append]
  | x :: r, ys => by
    simp only [List.cons_append, PyData.shownAll]
    rw [shownAll_app r ys]
theorem textFrom_app : ∀ (ts us : List Str) (k : Nat) (acc : Str), textFrom k acc (ts ++ us) = textFrom (k + ts.length) (textFrom k acc ts) us
  | [], us, k, acc => rfl
  | t :: r, us, k, acc => by
    show textFrom (k + 1) _ (r ++ us) = textFrom (k + (r.length + 1)) (textFrom (k + 1) _ r) us
    rw [textFrom_app r us, show k + (r.length + 1) = k + 1 + r.length by omega]
theorem lenS_app (a b : Str) : (a ++ b).length = a.length + b.length := by rw [len_tl, tl_append, List.length_append, ← len_tl, ← len_tl]
theorem listText_le (ts us : List Str) : (listText ts).length ≤ (listText (ts ++ us)).length := by
  show (textFrom 0 "[" ts ++ ("]" : Str)).length ≤ (textFrom 0 "[" (ts ++ us) ++ ("]" : Str)).length
  rw [lenS_app, lenS_app, textFrom_app]
  have := (textFrom_len us (0 + ts.length) (textFrom 0 "[" ts)).2.2
  omega
theorem listText_lt (ts us : List Str) (ne : us ≠ []) (h : ∀ u ∈ us, 1 ≤ u.length) : (listText ts).length < (listText (ts ++ us)).length := by
  show (textFrom 0 "[" ts ++ ("]" : Str)).length < (textFrom 0 "[" (ts ++ us) ++ ("]" : Str)).length
  rw [lenS_app, lenS_app, textFrom_app]
  cases us with
  | nil => exact absurd rfl ne
  | cons u r =>
    have e : textFrom (0 + ts.length) (textFrom 0 "[" ts) (u :: r) = textFrom (0 + ts.length + 1) (textFrom 0 "[" ts ++ ((if 0 + ts.length > 0 then ", " else "" : String) : Str) ++ u) r := rfl
    rw [e]
    have h1 := (textFrom_len r (0 + ts.length + 1) (textFrom 0 "[" ts ++ ((if 0 + ts.length > 0 then ", " else "" : String) : Str) ++ u)).2.2
    rw [lenS_app, lenS_app] at h1
    have := h u List.mem_cons_self
    omega
theorem two_len (a b : Str) : (listText [a, b]).length = a.length + b.length + 4 := by
  have e : listText [a, b] = (("[" ++ "" ++ a) ++ (", " : Str) ++ b) ++ ("]" : Str) := rfl
  rw [e]
  simp only [lenS_app]
  have e1 : ("[" : Str).length = 1 := by decide +kernel
  have e2 : ("" : Str).length = 0 := by decide +kernel
  have e3 : (", " : Str).length = 2 := by decide +kernel
  have e4 : ("]" : Str).length = 1 := by decide +kernel
  omega
theorem tup_len (xs : List PyData) : 1 ≤ (PyData.shown (.tuple xs)).length := by
  simp only [PyData.shown]
  unfold tupleText
  rw [lenS_app, lenS_app]
  have : ("(" : Str).length = 1 := by decide +kernel
  omega
theorem EntK.len {ps : List Str} {m : Nat} {x : PyData} (h : EntK ps m x) : 1 ≤ (PyData.shown x).length := by cases h <;> exact tup_len _
theorem shown_mem : ∀ {xs : List PyData} {u : Str}, u ∈ PyData.shownAll xs → ∃ x ∈ xs, u = PyData.shown x
  | [], u, h => by simp only [PyData.shownAll] at h; cases h
  | x :: r, u, h => by
    simp only [PyData.shownAll] at h
    rcases List.mem_cons.mp h with rfl | h
    · exact ⟨x, List.mem_cons_self, rfl⟩
    · obtain ⟨y, hy, e⟩ := shown_mem h
      exact ⟨y, List.mem_cons_of_mem _ hy, e⟩
/-- the log is longer, so is what is told -/
theorem held_ne {l1 l2 p1 p2 m n : List PyData} (el : l2 = l1 ++ m) (ep : p2 = p1 ++ n) (ne : m ≠ []) (h : ∀ x ∈ m, 1 ≤ (PyData.shown x).length) : PyData.shown (.list [.list l2, .list p2]) ≠ PyData.shown (.list [.list l1, .list p1]) := fun e => by
  have e := congrArg Str.length e
  simp only [PyData.shown, PyData.shownAll] at e
  rw [two_len, two_len, el, ep, shownAll_app, shownAll_app] at e
  have h1 := listText_lt (PyData.shownAll l1) (PyData.shownAll m) (fun q => ne (by cases m with
    | nil => rfl
    | cons x r => simp only [PyData.shownAll] at q; cases q)) fun u hu => by
      obtain ⟨x, hx, rfl⟩ := shown_mem hu
      exact h x hx
  have h2 := listText_le (PyData.shownAll p1) (PyData.shownAll n)
  omega
theorem take_more {body : Str → List PyData} : ∀ (f : Nat) (a : Ab) (p : Str), (∃ m, (takeF body f a p).1.log = a.log ++ m ∧ (0 < f → m ≠ [])) ∧ ∃ n, (takeF body f a p).1.pap = a.pap ++ n := by
  intro f
  induction f with
  | zero => exact fun a p => ⟨⟨[], by simp [takeF], fun h => absurd h (Nat.lt_irrefl _)⟩, [], by simp [takeF]⟩
  | succ f ih =>
    intro a p
    simp only [takeF]
    cases h : a.ix p with
    | some k => exact ⟨⟨[haveE k], rfl, fun _ => by simp⟩, [], by simp [Ab.put]⟩
    | none =>
      have rows : ∀ (k : Nat) (xs : List PyData) (i : Nat) (b : Ab), (∃ m, (rowsF (takeF body f) k i xs b).log = b.log ++ m) ∧ ∃ n, (rowsF (takeF body f) k i xs b).pap = b.pap ++ n := by
        intro k xs
        induction xs with
        | nil => exact fun i b => ⟨⟨[], by simp [rowsF]⟩, [], by simp [rowsF]⟩
        | cons x r ihr =>
          intro i b
          have one : (∃ m, (rowF (takeF body f) k x (b.row i)).log = b.log ++ m) ∧ ∃ n, (rowF (takeF body f) k x (b.row i)).pap = b.pap ++ n := by
            unfold rowF
            split
            · exact ⟨⟨[], by simp [Ab.bind, Ab.row]⟩, [], by simp [Ab.bind, Ab.row]⟩
            · rename_i p'
              obtain ⟨⟨m, e, _⟩, n, e2⟩ := ih (b.row i) p'
              exact ⟨⟨m, e⟩, n, e2⟩
            · exact ⟨⟨_, rfl⟩, [], by simp [Ab.put, Ab.row]⟩
            · exact ⟨⟨[], by simp [Ab.row]⟩, [], by simp [Ab.row]⟩
          obtain ⟨⟨m1, e1⟩, n1, e2⟩ := one
          obtain ⟨⟨m2, e3⟩, n2, e4⟩ := ihr (i + 1) (rowF (takeF body f) k x (b.row i))
          refine ⟨⟨m1 ++ m2, ?_⟩, n1 ++ n2, ?_⟩
          · show (rowsF (takeF body f) k (i + 1) r (rowF (takeF body f) k x (b.row i))).log = _
            rw [e3, e1, List.append_assoc]
          · show (rowsF (takeF body f) k (i + 1) r (rowF (takeF body f) k x (b.row i))).pap = _
            rw [e4, e2, List.append_assoc]
      obtain ⟨⟨m, e⟩, n, e2⟩ := rows a.qs.length (body p) 0 (a.begin p)
      refine ⟨⟨beginE a.qs.length p :: (m ++ [endE a.qs.length]), ?_, fun _ => by simp⟩, papE a.qs.length a.line :: n, ?_⟩
      · show (rowsF (takeF body f) a.qs.length 0 (body p) (a.begin p)).log ++ [_] = _
        rw [e]
        simp [Ab.begin]
      · show (rowsF (takeF body f) a.qs.length 0 (body p) (a.begin p)).pap = _
        rw [e2]
        simp [Ab.begin]
example : L2.Room 70 callerA := ⟨rfl, by decide, by decide⟩

/-! what repr asks of the finders -/
theorem RowK.sh {ps : List Str} {x : PyData} (h : RowK ps x) (ok : ∀ p ∈ ps, OkN p) : ShowOk x 24 1 := by
  have wd : ∀ {z : Str}, OkL (tl z) → ∃ n, ShowOk (.str z) n 0 := fun a => ⟨_, ShowOk.str a⟩
  have l4 : ("take" : Str).length = 4 := by decide +kernel
  have l3 : ("set" : Str).length = 3 := by decide +kernel
  have l5 : ("note" : Str).length = 4 := by decide +kernel
  cases h with
  | @set z n hz hn =>
    refine ShowOk.tup (fun x hx => ?_) ?_
    · simp only [List.mem_cons, List.not_mem_nil, or_false] at hx
      rcases hx with rfl | rfl | rfl
      · exact wd (by unfold OkL; decide +kernel)
      · exact wd hz.okl
      · exact ⟨0, ShowOk.int hn⟩
    · simp only [PyData.bulkAll, PyData.bulk]
      have := hz.len
      show ("set" : Str).length + 1 + (z.length + 1 + (0 + 1 + 0)) ≤ 24
      omega
  | @take z p hz hp =>
    refine ShowOk.tup (fun x hx => ?_) ?_
    · simp only [List.mem_cons, List.not_mem_nil, or_false] at hx
      rcases hx with rfl | rfl | rfl
      · exact wd (by unfold OkL; decide +kernel)
      · exact wd hz.okl
      · exact wd (ok _ hp).okl
    · simp only [PyData.bulkAll, PyData.bulk]
      have := hz.len
      have := (ok _ hp).len
      show ("take" : Str).length + 1 + (z.length + 1 + (p.length + 1 + 0)) ≤ 24
      omega
  | @note p hp =>
    refine ShowOk.tup (fun x hx => ?_) ?_
    · simp only [List.mem_cons, List.not_mem_nil, or_false] at hx
      rcases hx with rfl | rfl
      · exact wd (by unfold OkL; decide +kernel)
      · exact wd (ok _ hp).okl
    · simp only [PyData.bulkAll, PyData.bulk]
      have := (ok _ hp).len
      show ("note" : Str).length + 1 + (p.length + 1 + 0) ≤ 24
      omega
theorem rows_sh {ps : List Str} {rows : List PyData} (h : ∀ r ∈ rows, RowK ps r) (ok : ∀ p ∈ ps, OkN p) (l : rows.length ≤ 40) : ShowOk (.tuple rows) 1000 2 :=
  ShowOk.tup (fun x hx => ⟨24, (h x hx).sh ok⟩) (Nat.le_trans (bulk_all fun x hx => ((h x hx).sh ok).bk) (by omega))
/-- an entry of a finder's data -/
def GoodE (ps : List Str) (q : Key × PyData) : Prop := ∃ z rows, q = (.inr z, .tuple rows) ∧ z ∈ ps ∧ (∀ r ∈ rows, RowK ps r) ∧ rows.length ≤ 40
theorem dd_sh {ps : List Str} (ok : ∀ p ∈ ps, OkN p) : ∀ (d : List (Key × PyData)), (∀ q ∈ d, GoodE ps q) → (ddD d).leavesShort 410 = true ∧ (ddD d).showable = true ∧ (ddD d).depth ≤ 10 ∧ (ddD d).bulk ≤ d.length * 1010
  | [], _ => ⟨by simp only [ddD, List.map_nil, PyData.leavesShort, PyData.leavesShortKv], by simp only [ddD, List.map_nil, PyData.showable, PyData.showableKv], by simp only [ddD, List.map_nil, PyData.depth, PyData.depthKv]; omega, by simp only [ddD, List.map_nil, PyData.bulk, PyData.bulkKv]; omega⟩
  | q :: r, h => by
    obtain ⟨h1, h2, h3, h4⟩ := dd_sh ok r fun x hx => h x (List.mem_cons_of_mem _ hx)
    obtain ⟨z, rows, rfl, hz, hr, hl⟩ := h q List.mem_cons_self
    have sz := ShowOk.str (k := 0) (ok z hz).okl
    have sr := rows_sh hr ok hl
    have lz := (ok z hz).len
    simp only [ddD, PyData.leavesShort, PyData.showable, PyData.depth, PyData.bulk] at h1 h2 h3 h4
    simp only [ddD, List.map_cons, PyData.leavesShort, PyData.showable, PyData.depth, PyData.bulk, PyData.leavesShortKv, PyData.showableKv, PyData.depthKv, PyData.bulkKv, Bool.and_eq_true]
    have a2 := sr.sh
    have b2 := sr.ok
    have c1 : (kD (Sum.inr z)).depth ≤ 0 := sz.dp
    have c2 := sr.dp
    have d1 : (kD (Sum.inr z)).bulk ≤ z.length := sz.bk
    have d2 := sr.bk
    simp only [PyData.leavesShort, PyData.showable, PyData.depth, PyData.bulk] at a2 b2 c2 d2
    refine ⟨⟨⟨sz.sh, a2⟩, h1⟩, ⟨⟨sz.ok, b2⟩, h2⟩, by omega, ?_⟩
    rw [List.length_cons, Nat.add_mul]
    omega
theorem dds_sh {ps : List Str} (ok : ∀ p ∈ ps, OkN p) {pss : List (List (Key × PyData))} (h : ∀ d ∈ pss, (∀ q ∈ d, GoodE ps q) ∧ d.length ≤ 8) (l : pss.length ≤ 3) :
    (PyData.list (pss.map ddD)).showable = true ∧ (PyData.list (pss.map ddD)).depth ≤ 60 ∧ (PyData.list (pss.map ddD)).shown.length ≤ sizeLine := by
  have g : ∀ x ∈ pss.map ddD, x.leavesShort 410 = true ∧ x.showable = true ∧ x.depth ≤ 10 ∧ x.bulk ≤ 8080 := fun x hx => by
    obtain ⟨d, hd, rfl⟩ := List.mem_map.mp hx
    obtain ⟨h1, h2, h3, h4⟩ := dd_sh ok d (h d hd).1
    have := (h d hd).2
    exact ⟨h1, h2, h3, by omega⟩
  have hb : (PyData.list (pss.map ddD)).bulk ≤ 24243 := by
    simp only [PyData.bulk]
    refine Nat.le_trans (bulk_all fun x hx => (g x hx).2.2.2) ?_
    rw [List.length_map]
    omega
  have hl : (PyData.list (pss.map ddD)).leavesShort 410 = true := by
    simp only [PyData.leavesShort]
    exact short_all fun x hx => (g x hx).1
  refine ⟨?_, ?_, ?_⟩
  · simp only [PyData.showable]
    exact showable_all fun x hx => (g x hx).2.1
  · simp only [PyData.depth]
    have := depth_all (n := 10) fun x hx => (g x hx).2.2.1
    omega
  · have e := PyData.shown_le_bulk 410 (by decide) _ hl
    rw [sizeLine_eq]
    omega
/-- a finder's data -/
def SdAt (K : PySem.W.Frag) (H : Hp) (x : Sf) (d : List (Key × PyData)) : Prop := H x.a = some (.dK x.kvs) ∧ Paired (fun (p : Key × V) (q : Key × PyData) => p.1 = q.1 ∧ Dp K H p.2 q.2 ∧ flatD q.2 = true) x.kvs d
theorem data_of {K : PySem.W.Frag} {H : Hp} {ps : List Str} : ∀ (kvs : List (Key × V)), (∀ kv ∈ kvs, ∃ z rows, kv.1 = Sum.inr z ∧ z ∈ ps ∧ Dp K H kv.2 (.tuple rows) ∧ (∀ r ∈ rows, RowK ps r) ∧ rows.length ≤ 40) →
    ∃ d, Paired (fun (p : Key × V) (q : Key × PyData) => p.1 = q.1 ∧ Dp K H p.2 q.2 ∧ flatD q.2 = true) kvs d ∧ (∀ q ∈ d, GoodE ps q) ∧ d.length = kvs.length
  | [], _ => ⟨[], .nil, by simp, rfl⟩
  | kv :: r, h => by
    obtain ⟨d, h1, h2, h3⟩ := data_of r fun x hx => h x (List.mem_cons_of_mem _ hx)
    obtain ⟨z, rows, e, hz, dv, hr, hl⟩ := h kv List.mem_cons_self
    refine ⟨(.inr z, .tuple rows) :: d, .cons ⟨e, dv, flat_rows hr⟩ h1, fun q hq => ?_, by simp [h3]⟩
    rcases List.mem_cons.mp hq with rfl | hq
    · exact ⟨z, rows, rfl, hz, hr, hl⟩
    · exact h2 q hq
theorem datas_of {K : PySem.W.Frag} {H : Hp} {ps : List Str} : ∀ (shs : List Sf), (∀ x ∈ shs, ShOk K H ps x) → ∃ pss, Paired (SdAt K H) shs pss ∧ (∀ d ∈ pss, (∀ q ∈ d, GoodE ps q) ∧ d.length ≤ ps.length) ∧ pss.length = shs.length
  | [], _ => ⟨[], .nil, by simp, rfl⟩
  | x :: r, h => by
    obtain ⟨pss, h1, h2, h3⟩ := datas_of r fun y hy => h y (List.mem_cons_of_mem _ hy)
    have hx := h x List.mem_cons_self
    obtain ⟨d, d1, d2, d3⟩ := data_of x.kvs hx.ks
    refine ⟨d :: pss, .cons ⟨hx.at_, d1⟩ h1, fun q hq => ?_, by simp [h3]⟩
    rcases List.mem_cons.mp hq with rfl | hq
    · exact ⟨d2, by rw [d3]; exact hx.few⟩
    · exact h2 q hq
theorem paired_step {K : PySem.W.Frag} {H H' : Hp} (tk : TupK H H') : ∀ {kvs : List (Key × V)} {d : List (Key × PyData)}, Paired (fun (p : Key × V) (q : Key × PyData) => p.1 = q.1 ∧ Dp K H p.2 q.2 ∧ flatD q.2 = true) kvs d → Paired (fun (p : Key × V) (q : Key × PyData) => p.1 = q.1 ∧ Dp K H' p.2 q.2 ∧ flatD q.2 = true) kvs d
  | _, _, .nil => .nil
  | _, _, .cons ⟨a, b, c⟩ r => .cons ⟨a, Dp.tups tk _ _ c b, c⟩ (paired_step tk r)
theorem sds_step {K : PySem.W.Frag} {H H' : Hp} (tk : TupK H H') : ∀ {shs : List Sf} {pss : List (List (Key × PyData))}, Paired (SdAt K H) shs pss → (∀ x ∈ shs, ∀ o, H x.a = some o → H' x.a = some o) → Paired (SdAt K H') shs pss
  | _, _, .nil, _ => .nil
  | _, _, .cons ⟨a, b⟩ r, k => .cons ⟨k _ List.mem_cons_self _ a, paired_step tk b⟩ (sds_step tk r fun x hx => k x (List.mem_cons_of_mem _ hx))
theorem sds_dd {K : PySem.W.Frag} {H : Hp} : ∀ {shs : List Sf} {pss : List (List (Key × PyData))}, Paired (SdAt K H) shs pss → Paired (Dd K H) (shs.map (·.a)) pss
  | _, _, .nil => .nil
  | _, _, .cons ⟨a, b⟩ r => .cons ⟨⟨_, a, b⟩⟩ (sds_dd r)

def spLaw (K : PySem.W.Frag) : Sp := fun vs H Q _ => ∃ (a : Addr) (ns : List Int), vs = [.ref a] ∧ SqL K H a (ns.map V.int) ∧ ns.length ≤ 63 ∧ ∀ H', Q (.bl true) H'
/-- the body of a path -/
def bodyF (bs : List Bd) (p : Str) : List PyData := ((bs.find? fun b => decide (b.p = p)).map (·.rows)).getD []
theorem body_at : ∀ {bs : List Bd}, (bs.map (·.p)).Nodup → ∀ b ∈ bs, bodyF bs b.p = b.rows
  | [], _, b, hb => absurd hb List.not_mem_nil
  | c :: r, nd, b, hb => by
    rw [List.map_cons, List.nodup_cons] at nd
    unfold bodyF
    rcases List.mem_cons.mp hb with rfl | hb
    · rw [List.find?_cons_of_pos (by simp)]
      rfl
    · rw [List.find?_cons_of_neg (by simp only [decide_eq_true_eq]; exact fun e => nd.1 (by rw [e]; exact List.mem_map.mpr ⟨b, hb, rfl⟩))]
      exact body_at nd.2 b hb
theorem StAt.body {K : PySem.W.Frag} {H : Hp} {S : Addr} {bs : List Bd} (A : StAt K H S bs) : BodyOk (bs.map (·.p)) (bodyF bs) := by
  refine ⟨fun p hp x hx => ?_, fun p hp => ?_, fun p hp => ?_, by rw [List.length_map]; exact A.few⟩
  · obtain ⟨b, hb, rfl⟩ := List.mem_map.mp hp
    rw [body_at A.nd b hb] at hx
    exact A.row b hb x hx
  · obtain ⟨b, hb, rfl⟩ := List.mem_map.mp hp
    rw [body_at A.nd b hb]
    exact A.len b hb
  · obtain ⟨b, hb, rfl⟩ := List.mem_map.mp hp
    exact A.ok b hb
theorem cut_ints (ns : List Int) : ∃ ms : List Int, cutV (ns.map V.int) (some 2) (some 41) = ms.map V.int ∧ ms.length ≤ 39 := by
  refine ⟨(ns.drop (HT.sIx (ns.map V.int).length 0 (some 2))).take (HT.sIx (ns.map V.int).length (ns.map V.int).length (some 41) - HT.sIx (ns.map V.int).length 0 (some 2)), ?_, ?_⟩
  · unfold cutV
    rw [List.map_take, List.map_drop]
  · rw [List.length_take]
    have h1 : HT.sIx (ns.map V.int).length (ns.map V.int).length (some 41) = min 41 (ns.map V.int).length := HT.sIx_nat _ _ 41
    have h2 : HT.sIx (ns.map V.int).length 0 (some 2) = min 2 (ns.map V.int).length := HT.sIx_nat _ _ 2
    rw [h1, h2]
    rw [List.length_drop]
    rw [List.length_map]
    omega
theorem lot0 {ps : List Str} {body : Str → List PyData} (B : BodyOk ps body) : Ab.lot ps a0 ≤ 344 + 0 := by
  show 0 + 43 * rem ps a0 ≤ 344
  have : rem ps a0 ≤ ps.length := List.length_filter_le _ _
  have := B.few
  omega
theorem take_le {body : Str → List PyData} (f : Nat) (a : Ab) (p : Str) : (takeF body (f + 1) a p).2 ≤ a.qs.length := by
  simp only [takeF]
  cases h : a.ix p with
  | some k => exact Nat.le_of_lt (List.getElem?_eq_some_iff.mp (ix_some h)).1
  | none => exact Nat.le_refl _
theorem Inv.lstSm {ps : List Str} {a : Ab} (I : Inv ps a) (ok : ∀ p ∈ ps, OkN p) (hm : a.qs.length ≤ 100) (l : a.log.length ≤ 390) (m : a.pap.length ≤ 50) : SmOk (.list [.list a.log, .list a.pap]) 1600000 4 := by
  have h1 : SmOk (.list a.log) 790000 3 := SmOk.lst (fun x hx => (I.log x hx).sm ok hm) (by omega)
  have h2 : SmOk (.list a.pap) 790000 3 := SmOk.lst (fun x hx => (I.pap x hx).sm ok hm) (by omega)
  refine SmOk.lst (n := 790000) (fun x hx => ?_) (by show 2 * _ ≤ _; omega)
  simp only [List.mem_cons, List.not_mem_nil, or_false] at hx
  rcases hx with rfl | rfl
  · exact h1
  · exact h2
theorem inv0 (ps : List Str) : Inv ps a0 := ⟨⟨rfl, fun j => by simp⟩, fun x hx => (nomatch hx), fun x hx => (nomatch hx), fun j z hz => by simp at hz, fun x hx => (nomatch hx)⟩
section
variable {P : Program} {w : World} {K : PySem.W.Frag} {mg : Str → Option Value} {base : Heap} {C_Module C_Runs : Addr}
theorem ok_law {f : Addr} {fd : FuncData} (F : Fun K "law" "law" s_law f fd) (T : Txt K mg C_Module C_Runs)
    (D_l_pot : DnF P w K mg base 2 "_law_pot" ["_law_script", "_law_k"] (spPot K)) (D_l_stock : DnF P w K mg base 4 "_law_stock" ["_law_pot_here"] (spStock K)) (D_l_dealt : DnF P w K mg base 2 "_law_dealt" ["_law_pot_here", "_law_stock_here"] (spDealt K)) (D_l_house : DnF P w K mg base 1 "_law_house" ["_law_stock_here"] (spHouseL K)) (D_l_at : DnF P w K mg base 1 "_law_at" ["_law_script", "_law_k"] (spAt K)) (D_l_taken : DnF P w K mg base 19 "_law_taken" ["_law_house_here", "_law_path"] (spLTaken K 9)) (D_l_right : DnG P w K mg base 2 "_law_right" ["_law_house_here", "_law_own"] (spRight K C_Runs C_Module)) (D_Runs_init : DkF P w K mg base 14 C_Runs ["self", "finders"] (spRInit K C_Runs C_Module)) (D_Runs_paper : DmF P w K mg base 1 C_Runs "paper" ["self"] (spPaperR K C_Runs C_Module)) (D_Runs_log : DmF P w K mg base 1 C_Runs "log" ["self"] (spLogR K C_Runs C_Module)) (D_Runs_take : DmF P w K mg base 65 C_Runs "take" ["self", "path"] (spTakeR K C_Runs C_Module)) :
    FnG P w K mg base 70 f fd ["_law_script"] (spLaw K) := by
  refine fnG_of F sc_law (fun vs H Q E h => ?_) (fun cdv A outer s H vs Q E hG hr h => ?_)
  · obtain ⟨a, ns, rfl, _⟩ := h
    rfl
  · obtain ⟨f_l_pot, fd_l_pot, G_l_pot, m_l_pot, k_l_pot, b_l_pot⟩ := D_l_pot; obtain ⟨f_l_stock, fd_l_stock, G_l_stock, m_l_stock, k_l_stock, b_l_stock⟩ := D_l_stock; obtain ⟨f_l_dealt, fd_l_dealt, G_l_dealt, m_l_dealt, k_l_dealt, b_l_dealt⟩ := D_l_dealt; obtain ⟨f_l_house, fd_l_house, G_l_house, m_l_house, k_l_house, b_l_house⟩ := D_l_house; obtain ⟨f_l_at, fd_l_at, G_l_at, m_l_at, k_l_at, b_l_at⟩ := D_l_at; obtain ⟨f_l_taken, fd_l_taken, G_l_taken, m_l_taken, k_l_taken, b_l_taken⟩ := D_l_taken; obtain ⟨f_l_right, fd_l_right, G_l_right, m_l_right, k_l_right, b_l_right⟩ := D_l_right; obtain ⟨f_Runs_init, fd_Runs_init, G_Runs_init, M_Runs, b_Runs_init⟩ := D_Runs_init; obtain ⟨f_Runs_paper, fd_Runs_paper, G_Runs_paper, mt_Runs_paper, b_Runs_paper⟩ := D_Runs_paper; obtain ⟨f_Runs_log, fd_Runs_log, G_Runs_log, mt_Runs_log, b_Runs_log⟩ := D_Runs_log; obtain ⟨f_Runs_take, fd_Runs_take, G_Runs_take, mt_Runs_take, b_Runs_take⟩ := D_Runs_take
    obtain ⟨a, ns, rfl, hscr, hn, q⟩ := h
    have hu := hu_of hr
    refine ⟨_, (pss_cons (ps_set (i := 1) sc_law.nd rfl (Or.inl rfl) (pe_call G_l_pot (hr.mono (by first | decide | omega)) (by rfl) m_l_pot k_l_pot b_l_pot .nil pass0 (pa_cons (pv 0) (pa_cons pe_int pa_nil))))
      (pss_cons (ps_set (i := 2) sc_law.nd rfl (Or.inl rfl) (pe_call G_l_stock (hr.mono (by first | decide | omega)) (by rfl) m_l_stock k_l_stock b_l_stock .nil pass0 (pa_cons (pv 1) pa_nil)))
      (pss_cons (ps_set (i := 3) sc_law.nd rfl (Or.inl rfl) (pe_call G_l_dealt (hr.mono (by first | decide | omega)) (by rfl) m_l_dealt k_l_dealt b_l_dealt .nil pass0 (pa_cons (pv 1) (pa_cons (pv 2) pa_nil))))
      (pss_cons (ps_set (i := 4) sc_law.nd rfl (Or.inl rfl) (pe_callB (reprFK (K := K) rfl hG hr.units) (by rfl) T.n_repr (by decide +kernel) (pa_cons (pv 3) pa_nil)))
      (pss_cons (ps_set (i := 5) sc_law.nd rfl (Or.inl rfl) (pe_lst (pa_cons (pe_make M_Runs G_Runs_init (hr.mono (by first | decide | omega)) (by rfl) T.mg_Runs b_Runs_init .nil pass0 (pa_cons (pv 3) pa_nil)) (pa_cons (pe_make M_Runs G_Runs_init (hr.mono (by first | decide | omega)) (by rfl) T.mg_Runs b_Runs_init .nil pass0 (pa_cons (pv 3) pa_nil)) pa_nil))))
      (pss_cons (ps_set (i := 6) sc_law.nd rfl (Or.inl rfl) (pe_lst (pa_cons (pe_call G_l_house (hr.mono (by first | decide | omega)) (by rfl) m_l_house k_l_house b_l_house .nil pass0 (pa_cons (pv 2) pa_nil)) (pa_cons (pe_call G_l_house (hr.mono (by first | decide | omega)) (by rfl) m_l_house k_l_house b_l_house .nil pass0 (pa_cons (pv 2) pa_nil)) pa_nil))))
      (pss_cons (ps_set (i := 7) sc_law.nd rfl (Or.inl rfl) (pe_callTy (call_listD rfl) (by rfl) T.n_list (by decide +kernel) (pa_cons (pv 2) pa_nil)))
      (pss_cons (ps_for PassesOwn.never rfl (kiL (K := K) rfl (pi_list (pe_op op_cat (pe_lst (pa_cons (pe_call G_l_at (hr.mono (by first | decide | omega)) (by rfl) m_l_at k_l_at b_l_at .nil pass0 (pa_cons (pv 0) (pa_cons pe_int pa_nil))) pa_nil)) (pe_slice (slLK (K := K) rfl) (pv 0) (po_some pe_int) (po_some pe_int))))) (pg_name (i := 8) sc_law.nd rfl (Or.inl rfl)) (pss_cons (ps_set (i := 9) sc_law.nd rfl (Or.inl rfl) (pe_op op_mod (pe_op op_fdiv (pv 8) (pe_callB (lenK (K := K) rfl) (by rfl) T.n_len (by decide +kernel) (pa_cons (pv 7) pa_nil))) pe_int))
      (pss_cons (ps_set (i := 10) sc_law.nd rfl (Or.inl rfl) (pe_ix (ixLK (K := K) rfl) (pv 7) (pe_op op_mod (pv 8) (pe_callB (lenK (K := K) rfl) (by rfl) T.n_len (by decide +kernel) (pa_cons (pv 7) pa_nil))) (fun _ _ => rfl)))
      (pss_cons (ps_set (i := 11) sc_law.nd rfl (Or.inl rfl) (pe_lst (pa_cons (pe_meth0 (pe_ix (ixLK (K := K) rfl) (pv 5) (pv 9) (fun _ _ => rfl)) T.cl_Runs mt_Runs_log G_Runs_log (hr.mono (by first | decide | omega)) b_Runs_log .nil pass0) (pa_cons (pe_meth0 (pe_ix (ixLK (K := K) rfl) (pv 5) (pv 9) (fun _ _ => rfl)) T.cl_Runs mt_Runs_paper G_Runs_paper (hr.mono (by first | decide | omega)) b_Runs_paper .nil pass0) pa_nil))))
      (pss_cons (ps_set (i := 12) sc_law.nd rfl (Or.inl rfl) (pe_callB (reprAK (K := K) rfl hG hr.units) (by rfl) T.n_repr (by decide +kernel) (pa_cons (pv 11) pa_nil)))
      (pss_cons (ps_if (pt_cmpR op_ne (pe_callB (reprAK (K := K) rfl hG hr.units) (by rfl) T.n_repr (by decide +kernel) (pa_cons (pe_meth (pe_ix (ixLK (K := K) rfl) (pv 5) (pv 9) (fun _ _ => rfl)) T.cl_Runs mt_Runs_take G_Runs_take (hr.mono (by first | decide | omega)) b_Runs_take .nil pass0 (pa_cons (pv 10) pa_nil)) pa_nil)) (pe_callB (reprAK (K := K) rfl hG hr.units) (by rfl) T.n_repr (by decide +kernel) (pa_cons (pe_call G_l_taken (hr.mono (by first | decide | omega)) (by rfl) m_l_taken k_l_taken b_l_taken .nil pass0 (pa_cons (pe_ix (ixLK (K := K) rfl) (pv 6) (pv 9) (fun _ _ => rfl)) (pa_cons (pv 10) pa_nil))) pa_nil)) (nomark _)) (pss_one (ps_ret pe_bl)) pss_nil)
      (pss_cons (ps_if (PW.pt (pw_or (pt_cmpR op_eq (pe_callB (reprAK (K := K) rfl hG hr.units) (by rfl) T.n_repr (by decide +kernel) (pa_cons (pe_lst (pa_cons (pe_meth0 (pe_ix (ixLK (K := K) rfl) (pv 5) (pv 9) (fun _ _ => rfl)) T.cl_Runs mt_Runs_log G_Runs_log (hr.mono (by first | decide | omega)) b_Runs_log .nil pass0) (pa_cons (pe_meth0 (pe_ix (ixLK (K := K) rfl) (pv 5) (pv 9) (fun _ _ => rfl)) T.cl_Runs mt_Runs_paper G_Runs_paper (hr.mono (by first | decide | omega)) b_Runs_paper .nil pass0) pa_nil))) pa_nil)) (pv 12) (nomark _)) (pw_or1 (pt_cmpR op_ne (pe_callB (reprAK (K := K) rfl hG hr.units) (by rfl) T.n_repr (by decide +kernel) (pa_cons (pv 11) pa_nil)) (pv 12) (nomark _))))) (pss_one (ps_ret pe_bl)) pss_nil)
      (pss_one (ps_if (PW.pt (pw_or (pt_not (pt_val (pe_callG G_l_right hG (hr.mono (by first | decide | omega)) (by rfl) m_l_right k_l_right b_l_right .nil (pa_cons (pe_ix (ixLK (K := K) rfl) (pv 5) (pv 9) (fun _ _ => rfl)) (pa_cons (pe_ix (ixLK (K := K) rfl) (pv 6) (pv 9) (fun _ _ => rfl)) pa_nil))))) (pw_or1 (pt_not (pt_val (pe_callG G_l_right hG (hr.mono (by first | decide | omega)) (by rfl) m_l_right k_l_right b_l_right .nil (pa_cons (pe_ix (ixLK (K := K) rfl) (pv 5) (pe_op op_sub pe_int (pv 9)) (fun _ _ => rfl)) (pa_cons (pe_ix (ixLK (K := K) rfl) (pv 6) (pe_op op_sub pe_int (pv 9)) (fun _ _ => rfl)) pa_nil)))))))) (pss_one (ps_ret pe_bl)) pss_nil)))))))))
      (pss_one (ps_ret (pe_cmpR op_eq (pe_callB (reprFK (K := K) rfl hG hr.units) (by rfl) T.n_repr (by decide +kernel) (pa_cons (pv 3) pa_nil)) (pv 4) (nomark _)))))))))))), ?_⟩
    refine st_start (σ' := [some (.ref a), none, none, none, none, none, none, none, none, none, none, none, none]) rfl ?_
    walk_at "S"
    refine ⟨a, ns, 0, rfl, hscr, by omega, fun H1 p k1 np hp1 => ?_⟩
    walk_at "S"
    refine ⟨p, rfl, hp1, fun H2 S bs k2 hp2 nS A2 => ?_⟩
    have pk : ∀ {A B : Hp}, Kp [] H A → Kp [p] A B → Kp [] H B := fun k l => k.step l fun x hx => .inr (by rw [List.mem_singleton.mp hx]; exact np)
    have k02 : Kp [] H H2 := pk k1 k2
    walk_at "S"
    refine ⟨p, S, bs, rfl, hp2, A2, fun H3 F_ shs k3 I3 A3 => ?_⟩
    have k03 : Kp [] H H3 := pk k02 k3
    have B := A3.body
    have ok := A3.ok
    have okp : ∀ p ∈ bs.map (·.p), OkN p := B.nm
    obtain ⟨pss, sd3, gd, lp⟩ := datas_of shs I3.sh
    have few8 : (bs.map (·.p)).length ≤ 8 := B.few
    have ds3 := dds_sh okp (fun d hd => ⟨(gd d hd).1, Nat.le_trans (gd d hd).2 few8⟩) (by rw [lp]; exact I3.n3)
    have fnd3 : ∀ p ∈ bs.map (·.p), ∃ v, FAt shs p v ∧ Dp K H3 v (.tuple (bodyF bs p)) := fun p hp => by
      obtain ⟨b, hb, rfl⟩ := List.mem_map.mp hp
      obtain ⟨i, hi⟩ := List.mem_iff_getElem?.mp hb
      refine ⟨.ref b.a, I3.fa i b (List.getElem?_eq_some_iff.mp hi).1 hi, ?_⟩
      rw [body_at A3.nd b hb]
      exact A3.dp b hb
    walk_at "S"
    refine ⟨F_, shs.map (·.a), pss, rfl, by rw [List.map_map]; exact I3.eF, sds_dd sd3, ds3.1, ds3.2.1, ds3.2.2, ?_⟩
    walk_at "S"
    have k33 : Kp [] H3 H3 := Kp.refl
    intro ma dxa hma hdxa ndma
    have kMa : Kp [] H3 (upd (upd H3 dxa (.own ma)) ma (.ins C_Runs dxa [])) := (Kp.refl.upd_new hdxa).upd_loc hma
    have kM0a := k33.tr kMa
    refine ⟨ma, dxa, F_, shs, bs.map (·.p), bodyF bs, rfl, upd_same, kM0a.get trivial I3.eF, fun x hx => (I3.sh x hx).step (kM0a.get trivial (I3.sh x hx).at_) (TupK.same kM0a), I3.n3, B, fun p hp => by obtain ⟨v, f, d⟩ := fnd3 p hp; exact ⟨v, f, Dp.same kM0a _ _ d⟩, fun H4 ha ea Ja k4 tk4 nwa nsa => ⟨rfl, ?_⟩⟩
    have k34 : Kp [] H3 H4 := kM0a.step k4 fun x hx => .inr (by rw [List.mem_singleton.mp hx]; exact k33.free trivial hma)
    have kP4 : Kp [] H3 H4 := kMa.step k4 fun x hx => .inr (by rw [List.mem_singleton.mp hx]; exact hma)
    have newa : ∀ x ∈ own ha s0, H3 x = none := fun x hx => by
      rcases nwa x hx with rfl | h
      · exact hma
      · exact kMa.free trivial h
    have nesa : ∀ x ∈ ha.sh :: ha.shs.map (·.a), H3 x = none := fun x hx => kMa.free trivial (nsa x hx)
    walk_at "S"
    intro mb dxb hmb hdxb ndmb
    have kMb : Kp [] H4 (upd (upd H4 dxb (.own mb)) mb (.ins C_Runs dxb [])) := (Kp.refl.upd_new hdxb).upd_loc hmb
    have kM0b := k34.tr kMb
    refine ⟨mb, dxb, F_, shs, bs.map (·.p), bodyF bs, rfl, upd_same, kM0b.get trivial I3.eF, fun x hx => (I3.sh x hx).step (kM0b.get trivial (I3.sh x hx).at_) (TupK.same kM0b), I3.n3, B, fun p hp => by obtain ⟨v, f, d⟩ := fnd3 p hp; exact ⟨v, f, Dp.same kM0b _ _ d⟩, fun H5 hb eb Jb k5 tk5 nwb nsb => ⟨rfl, ?_⟩⟩
    have k35 : Kp [] H3 H5 := kM0b.step k5 fun x hx => .inr (by rw [List.mem_singleton.mp hx]; exact k34.free trivial hmb)
    have kP5 : Kp [] H4 H5 := kMb.step k5 fun x hx => .inr (by rw [List.mem_singleton.mp hx]; exact hmb)
    have newb : ∀ x ∈ own hb s0, H4 x = none := fun x hx => by
      rcases nwb x hx with rfl | h
      · exact hmb
      · exact kMb.free trivial h
    have nesb : ∀ x ∈ hb.sh :: hb.shs.map (·.a), H4 x = none := fun x hx => kMb.free trivial (nsb x hx)
    walk_at "S"
    refine ⟨small_le (by simp), fun lh hlh => ?_⟩
    have k56 : Kp [] H5 (upd H5 lh (.lst [.ref ma, .ref mb])) := Kp.refl.upd_new hlh
    have elh : upd H5 lh (.lst [.ref ma, .ref mb]) lh = some (.lst [.ref ma, .ref mb]) := upd_same
    have k36 := k35.tr k56
    generalize upd H5 lh (.lst [.ref ma, .ref mb]) = H6 at *
    have fndS : ∀ {Hx : Hp}, Kp [] H3 Hx → ∀ p ∈ bs.map (·.p), ∃ v, valV (bs.map Bd.kv) (.inr p) = some v ∧ Dp K Hx v (.tuple (bodyF bs p)) := fun k p hp => by
      obtain ⟨b, hb, rfl⟩ := List.mem_map.mp hp
      refine ⟨.ref b.a, val_kv_at A3.nd hb, ?_⟩
      rw [body_at A3.nd b hb]
      exact Dp.same k _ _ (A3.dp b hb)
    walk_at "S"
    refine ⟨S, bs.map Bd.kv, bs.map (·.p), bodyF bs, rfl, k36.get trivial A3.at_, B.row, fndS k36, fun H7 ga eSa Oa k67 nga => ?_⟩
    have k37 := k36.tr k67
    walk_at "S"
    refine ⟨S, bs.map Bd.kv, bs.map (·.p), bodyF bs, rfl, k37.get trivial A3.at_, B.row, fndS k37, fun H8 gb eSb Ob k78 ngb => ?_⟩
    have k38 := k37.tr k78
    walk_at "S"
    refine ⟨small_le (by simp), fun lo hlo => ?_⟩
    have k89 : Kp [] H8 (upd H8 lo (.lst [.ref ga.O, .ref gb.O])) := Kp.refl.upd_new hlo
    have elo : upd H8 lo (.lst [.ref ga.O, .ref gb.O]) lo = some (.lst [.ref ga.O, .ref gb.O]) := upd_same
    have k39 := k38.tr k89
    generalize upd H8 lo (.lst [.ref ga.O, .ref gb.O]) = H9 at *
    walk_at "S"
    refine ⟨S, bs.map Bd.kv, rfl, .inl (k39.get trivial A3.at_), fun lp_ hlp => ?_⟩
    rw [show (bs.map Bd.kv).map (fun kv => kV kv.1) = (bs.map (·.p)).map V.str from by rw [List.map_map, List.map_map]; rfl]
    have k9x : Kp [] H9 (upd H9 lp_ (.lst ((bs.map (·.p)).map V.str))) := Kp.refl.upd_new hlp
    have elp : upd H9 lp_ (.lst ((bs.map (·.p)).map V.str)) lp_ = some (.lst ((bs.map (·.p)).map V.str)) := upd_same
    have k3x := k39.tr k9x
    generalize upd H9 lp_ (.lst ((bs.map (·.p)).map V.str)) = Hx at *
    have k0x := k03.tr k3x
    walk_at "S"
    refine ⟨a, ns, 1, rfl, k0x.seqL trivial hscr, ?_⟩
    walk_at "S"
    refine ⟨small_le (by simp), fun l1 hl1 => ?_⟩
    have e1 : upd Hx l1 (.lst [.int (ns.getD 1 0)]) l1 = some (.lst [.int (ns.getD 1 0)]) := upd_same
    have kx1 : Kp [] Hx (upd Hx l1 (.lst [.int (ns.getD 1 0)])) := Kp.refl.upd_new hl1
    generalize upd Hx l1 (.lst [.int (ns.getD 1 0)]) = Hy at *
    walk_at "S"
    intro l2 hl2
    obtain ⟨ms, ems, lms⟩ := cut_ints ns
    rw [ems]
    have e12 : upd Hy l2 (.lst (ms.map V.int)) l1 = some (.lst [.int (ns.getD 1 0)]) := (upd_ne (ne_of_none e1 hl2)).trans e1
    have e22 : upd Hy l2 (.lst (ms.map V.int)) l2 = some (.lst (ms.map V.int)) := upd_same
    have kx2 := kx1.upd_new (o := .lst (ms.map V.int)) hl2
    generalize upd Hy l2 (.lst (ms.map V.int)) = Hz at *
    refine s_cat e12 e22 (small_le (by rw [List.length_map]; show 1 + _ ≤ _; omega)) fun l3 hl3 => ?_
    have e3 : upd Hz l3 (.lst ([.int (ns.getD 1 0)] ++ ms.map V.int)) l3 = some (.lst ((ns.getD 1 0 :: ms).map V.int)) := upd_same
    have kxw := kx2.upd_new (o := .lst ([.int (ns.getD 1 0)] ++ ms.map V.int)) hl3
    have nl3 : Hx l3 = none := kx2.free trivial hl3
    generalize upd Hz l3 (.lst ([.int (ns.getD 1 0)] ++ ms.map V.int)) = Hw at *
    have lcs : (ns.getD 1 0 :: ms).length ≤ 40 := by rw [List.length_cons]; omega
    generalize ns.getD 1 0 :: ms = cs at *
    have k3w := k3x.tr kxw
    have k45 : Kp [] H4 H5 := kP5
    have k4w : Kp [] H4 Hw := ((((((k45.tr k56).tr k67).tr k78).tr k89).tr k9x).tr kxw)
    have k5w : Kp [] H5 Hw := (((((k56.tr k67).tr k78).tr k89).tr k9x).tr kxw)
    have k7w : Kp [] H7 Hw := (((k78.tr k89).tr k9x).tr kxw)
    have k8w : Kp [] H8 Hw := ((k89.tr k9x).tr kxw)
    have na6 : ∀ x ∈ own ha s0, ∃ o, H4 x = some o := fun x hx => (Ja.notup x hx).2
    have nb6 : ∀ x ∈ own hb s0, ∃ o, H5 x = some o := fun x hx => (Jb.notup x hx).2
    have ga6 : ∀ x ∈ ownL ga [], ∃ o, H7 x = some o := fun x hx => (Oa.mut hx).some
    have gb6 : ∀ x ∈ ownL gb [], ∃ o, H8 x = some o := fun x hx => (Ob.mut hx).some
    have ap : ∀ {Hq : Hp} {y : Addr} {X : List Addr}, (∃ o, Hq y = some o) → (∀ x ∈ X, Hq x = none) → y ∉ X := fun e n m => by
      obtain ⟨o, e⟩ := e
      rw [n _ m] at e
      cases e
    have ap2 : ∀ {Hq : Hp} {y : Addr} {X : List Addr}, Hq y = none → (∀ x ∈ X, ∃ o, Hq x = some o) → y ∉ X := fun e n m => by
      obtain ⟨o, e2⟩ := n _ m
      rw [e] at e2
      cases e2
    have up : ∀ {A C : Hp} {y : Addr}, Kp [] A C → (∃ o, A y = some o) → ∃ o, C y = some o := fun k e => by
      obtain ⟨o, e⟩ := e
      exact ⟨o, k.get trivial e⟩
    have k46 := k45.tr k56
    have k47 := k46.tr k67
    have k57 := k56.tr k67
    have s3 : ∀ y, (∃ o, H3 y = some o) → (y ∉ own ha s0 ++ ownL ga []) ∧ y ∉ own hb s0 ++ ownL gb [] := fun y e =>
      ⟨fun m => (List.mem_append.mp m).elim (ap e newa) (ap (up k36 e) nga), fun m => (List.mem_append.mp m).elim (ap (up k34 e) newb) (ap (up k37 e) ngb)⟩
    have n8 : ∀ y, H8 y = none → (y ∉ own ha s0 ++ ownL ga []) ∧ y ∉ own hb s0 ++ ownL gb [] := fun y e =>
      ⟨fun m => (List.mem_append.mp m).elim (ap2 e fun x hx => up (k47.tr k78) (na6 x hx)) (ap2 e fun x hx => up k78 (ga6 x hx)), fun m => (List.mem_append.mp m).elim (ap2 e fun x hx => up (k57.tr k78) (nb6 x hx)) (ap2 e gb6)⟩
    have shs3 : ∀ x ∈ shs, ∃ o, H3 x.a = some o := fun x hx => ⟨_, (I3.sh x hx).at_⟩
    have sa4 : ∀ x ∈ ha.sh :: ha.shs.map (·.a), ∃ o, H4 x = some o := fun x hx => by
      rcases List.mem_cons.mp hx with rfl | hx
      · exact ⟨_, Ja.sh⟩
      · obtain ⟨y, hy, rfl⟩ := List.mem_map.mp hx
        exact ⟨_, Ja.shk y hy⟩
    have sb5 : ∀ x ∈ hb.sh :: hb.shs.map (·.a), ∃ o, H5 x = some o := fun x hx => by
      rcases List.mem_cons.mp hx with rfl | hx
      · exact ⟨_, Jb.sh⟩
      · obtain ⟨y, hy, rfl⟩ := List.mem_map.mp hx
        exact ⟨_, Jb.shk y hy⟩
    have L0 : LS K C_Runs C_Module (bs.map (·.p)) (bodyF bs) Hw (F_ :: S :: lh :: lo :: lp_ :: l3 :: (shs.map (·.a) ++ ((ha.sh :: ha.shs.map (·.a)) ++ (hb.sh :: hb.shs.map (·.a))))) ⟨ha, s0, ga, []⟩ ⟨hb, s0, gb, []⟩ := by
      refine ⟨⟨Ja.same B.row k4w, Oa.same B.row k7w, inv0 _, fun x hx => ap (up k46 (na6 x hx)) nga⟩, ⟨Jb.same B.row k5w, Ob.same B.row k8w, inv0 _, fun x hx => ap (up k57 (nb6 x hx)) ngb⟩, fun x hx m => ?_, fun x hx => ?_, fun x hx => ?_, fun x hx => ?_, fun x hx => ?_⟩
      · rcases List.mem_append.mp hx with h1 | h1 <;> rcases List.mem_append.mp m with h2 | h2
        · exact ap (na6 x h1) newb h2
        · exact ap (up k47 (na6 x h1)) ngb h2
        · exact ap2 (nga x h1) (fun y hy => up k56 (nb6 y hy)) h2
        · exact ap (ga6 x h1) ngb h2
      · simp only [List.mem_cons, List.mem_append] at hx
        rcases hx with rfl | rfl | rfl | rfl | rfl | rfl | hx | hx | hx
        · exact s3 _ ⟨_, I3.eF⟩
        · exact s3 _ ⟨_, A3.at_⟩
        · exact ⟨fun m => (List.mem_append.mp m).elim (ap2 hlh fun x hx => up k45 (na6 x hx)) (ap ⟨_, elh⟩ nga), fun m => (List.mem_append.mp m).elim (ap2 hlh nb6) (ap (up k67 ⟨_, elh⟩) ngb)⟩
        · exact n8 _ hlo
        · exact n8 _ (k89.free trivial hlp)
        · exact n8 _ ((k89.tr k9x).free trivial nl3)
        · obtain ⟨y, hy, rfl⟩ := List.mem_map.mp hx
          exact s3 _ (shs3 y hy)
        · have hx := List.mem_cons.mpr hx
          exact ⟨fun m => (List.mem_append.mp m).elim (Ja.sa x hx) (ap (up k46 (sa4 x hx)) nga), fun m => (List.mem_append.mp m).elim (ap (sa4 x hx) newb) (ap (up k47 (sa4 x hx)) ngb)⟩
        · have hx := List.mem_cons.mpr hx
          exact ⟨fun m => (List.mem_append.mp m).elim (ap2 (nesb x hx) na6) (ap (up k56 (sb5 x hx)) nga), fun m => (List.mem_append.mp m).elim (Jb.sa x hx) (ap (up k57 (sb5 x hx)) ngb)⟩
      · simp only [List.mem_cons, List.mem_append] at hx
        rcases hx with rfl | rfl | rfl | rfl | rfl | rfl | hx | hx | hx
        · exact ⟨_, k3w.get trivial I3.eF⟩
        · exact ⟨_, k3w.get trivial A3.at_⟩
        · exact up ((((k67.tr k78).tr k89).tr k9x).tr kxw) ⟨_, elh⟩
        · exact up (k9x.tr kxw) ⟨_, elo⟩
        · exact up kxw ⟨_, elp⟩
        · exact ⟨_, e3⟩
        · obtain ⟨y, hy, rfl⟩ := List.mem_map.mp hx
          exact up k3w (shs3 y hy)
        · exact up k4w (sa4 x (List.mem_cons.mpr hx))
        · exact up k5w (sb5 x (List.mem_cons.mpr hx))
      · rcases List.mem_cons.mp hx with rfl | hx
        · show ga.S ∈ _
          rw [eSa]
          simp
        · have hx : x ∈ ha.sh :: ha.shs.map (·.a) := hx
          exact List.mem_cons_of_mem _ (List.mem_cons_of_mem _ (List.mem_cons_of_mem _ (List.mem_cons_of_mem _ (List.mem_cons_of_mem _ (List.mem_cons_of_mem _ (List.mem_append_right _ (List.mem_append_left _ hx)))))))
      · rcases List.mem_cons.mp hx with rfl | hx
        · show gb.S ∈ _
          rw [eSb]
          simp
        · have hx : x ∈ hb.sh :: hb.shs.map (·.a) := hx
          exact List.mem_cons_of_mem _ (List.mem_cons_of_mem _ (List.mem_cons_of_mem _ (List.mem_cons_of_mem _ (List.mem_cons_of_mem _ (List.mem_cons_of_mem _ (List.mem_append_right _ (List.mem_append_right _ hx)))))))
    generalize efx : (F_ :: S :: lh :: lo :: lp_ :: l3 :: (shs.map (·.a) ++ ((ha.sh :: ha.shs.map (·.a)) ++ (hb.sh :: hb.shs.map (·.a))))) = fx at L0
    have fF : F_ ∈ fx := by rw [← efx]; simp
    have flh : lh ∈ fx := by rw [← efx]; simp
    have flo : lo ∈ fx := by rw [← efx]; simp
    have flp : lp_ ∈ fx := by rw [← efx]; simp
    have fl3 : l3 ∈ fx := by rw [← efx]; simp
    have fsh : ∀ x ∈ shs, x.a ∈ fx := fun x hx => by
      rw [← efx]
      exact List.mem_cons_of_mem _ (List.mem_cons_of_mem _ (List.mem_cons_of_mem _ (List.mem_cons_of_mem _ (List.mem_cons_of_mem _ (List.mem_cons_of_mem _ (List.mem_append_left _ (List.mem_map.mpr ⟨x, hx, rfl⟩)))))))
    have elhw : Hw lh = some (.lst [.ref ma, .ref mb]) := ((((k67.tr k78).tr k89).tr k9x).tr kxw).get trivial elh
    have elow : Hw lo = some (.lst [.ref ga.O, .ref gb.O]) := (k9x.tr kxw).get trivial elo
    have elpw : Hw lp_ = some (.lst ((bs.map (·.p)).map V.str)) := kxw.get trivial elp
    have eFw : Hw F_ = some (.lst (shs.map fun x => V.ref x.a)) := k3w.get trivial I3.eF
    have sdw := sds_step (TupK.same k3w) sd3 fun x hx o e => k3w.get trivial e
    have nz : 0 < bs.length := List.length_pos_iff.mpr A3.ne
    refine ⟨l3, rfl, ⟨_, sq_l e3⟩, ?_⟩
    refine for_go (walk_list (K := K) (a := l3) (xs := cs.map V.int)) (fun i σ Hi => ∃ (pa pb : Pr) (o8 o9 o10 o11 o12 : Option V), σ = [some (.ref a), some (.ref p), some (.ref S), some (.ref F_), some (.str (PyData.list (pss.map ddD)).shown), some (.ref lh), some (.ref lo), some (.ref lp_), o8, o9, o10, o11, o12] ∧
        LS K C_Runs C_Module (bs.map (·.p)) (bodyF bs) Hi fx pa pb ∧ pa.h.self = ma ∧ pb.h.self = mb ∧ pa.g.O = ga.O ∧ pb.g.O = gb.O ∧ pa.s.ab.lot (bs.map (·.p)) ≤ 344 + i ∧ pb.s.ab.lot (bs.map (·.p)) ≤ 344 + i ∧ (∀ x ∈ fx, ∀ o, Hw x = some o → Hi x = some o) ∧ TupK Hw Hi)
      ⟨⟨ha, s0, ga, []⟩, ⟨hb, s0, gb, []⟩, _, _, _, _, _, rfl, L0, ea, eb, rfl, rfl, lot0 B, lot0 B, fun _ _ _ e => e, fun _ _ e => e⟩ (fun i σ Hi _ Ii => ?_) (fun i x σ Ha Hb hi Ii y => ?_) fun σ Hi Ii => ?_
    · obtain ⟨pa, pb, o8, o9, o10, o11, o12, rfl, L, _, _, _, _, _, _, fk, tk⟩ := Ii
      exact sq_l (fk l3 fl3 _ e3)
    · obtain ⟨rfl, hx⟩ := y
      obtain ⟨pa, pb, o8, o9, o10, o11, o12, rfl, L, qa, qb, ra, rb, la, lb, fk, tk⟩ := Ii
      rw [List.getElem?_map] at hx
      obtain ⟨c, ec, rfl⟩ : ∃ c, cs[i]? = some c ∧ x = V.int c := by
        cases e : cs[i]? with
        | none => rw [e] at hx; cases hx
        | some y => rw [e] at hx; exact ⟨y, rfl, (Option.some.inj hx).symm⟩
      rw [List.length_map] at hi
      have elp1 := fk lp_ flp _ elpw
      have elh1 := fk lh flh _ elhw
      have elo1 := fk lo flo _ elow
      walk_at "S"
      rw [List.length_map, List.length_map]
      have nzi : (0 : Int) < (bs.length : Int) := by omega
      have b8 := A3.few
      refine s_I ⟨nzi, by omega⟩ ?_
      walk_at "S"
      have v0 : 0 ≤ c / (bs.length : Int) % 2 := Int.emod_nonneg _ (by decide)
      have v1 : c / (bs.length : Int) % 2 < 2 := Int.emod_lt_of_pos _ (by decide)
      have sel : ∃ A C : Pr, LS K C_Runs C_Module (bs.map (·.p)) (bodyF bs) Hb fx A C ∧ atI ([.ref ma, .ref mb] : List V) (c / (bs.length : Int) % 2) = some (.ref A.h.self) ∧ atI ([.ref ga.O, .ref gb.O] : List V) (c / (bs.length : Int) % 2) = some (.ref A.g.O) ∧
          atI ([.ref ma, .ref mb] : List V) (1 - c / (bs.length : Int) % 2) = some (.ref C.h.self) ∧ atI ([.ref ga.O, .ref gb.O] : List V) (1 - c / (bs.length : Int) % 2) = some (.ref C.g.O) ∧ A.s.ab.lot (bs.map (·.p)) ≤ 344 + i ∧ C.s.ab.lot (bs.map (·.p)) ≤ 344 + i ∧
          ∀ (H2 : Hp) (A' : Pr), LS K C_Runs C_Module (bs.map (·.p)) (bodyF bs) H2 fx A' C → A'.h.self = A.h.self → A'.g.O = A.g.O → A'.s.ab.lot (bs.map (·.p)) ≤ 344 + (i + 1) →
            ∃ pa pb : Pr, LS K C_Runs C_Module (bs.map (·.p)) (bodyF bs) H2 fx pa pb ∧ pa.h.self = ma ∧ pb.h.self = mb ∧ pa.g.O = ga.O ∧ pb.g.O = gb.O ∧ pa.s.ab.lot (bs.map (·.p)) ≤ 344 + (i + 1) ∧ pb.s.ab.lot (bs.map (·.p)) ≤ 344 + (i + 1) := by
        rcases (show c / (bs.length : Int) % 2 = 0 ∨ c / (bs.length : Int) % 2 = 1 by omega) with e | e
        · rw [e]
          exact ⟨pa, pb, L, by rw [qa]; rfl, by rw [ra]; rfl, by rw [qb]; rfl, by rw [rb]; rfl, la, lb, fun H2 A' L2 e1 e2 l2 => ⟨A', pb, L2, e1.trans qa, qb, e2.trans ra, rb, l2, by omega⟩⟩
        · rw [e]
          exact ⟨pb, pa, L.swap, by rw [qb]; rfl, by rw [rb]; rfl, by rw [qa]; rfl, by rw [ra]; rfl, lb, la, fun H2 A' L2 e1 e2 l2 => ⟨pa, A', L2.swap, qa, e1.trans qb, ra, e2.trans rb, by omega, l2⟩⟩
      obtain ⟨A_, C_, LA, z1, z2, z3, z4, l4, l5, back⟩ := sel
      generalize c / (bs.length : Int) % 2 = v at *
      rw [List.length_map, List.length_map]
      refine s_I nzi ?_
      have w0 : 0 ≤ c % (bs.length : Int) := Int.emod_nonneg _ (by omega)
      have w1 : c % (bs.length : Int) < (bs.length : Int) := Int.emod_lt_of_pos _ nzi
      obtain ⟨jp, path, ejp, _, _, hpath, apath⟩ := pickM (xs := bs.map (·.p)) (g := V.str) w0 (by rw [List.length_map]; exact w1)
      refine s_ixL (sq_l elp1) apath ?_
      walk_at "S"
      have lm := LA.ap.b.l8 B
      have wmA := LA.ap.b.wm
      have lgA : A_.s.notes.length + 43 * rem (bs.map (·.p)) A_.s.ab ≤ 344 + i := l4
      refine s_ixL (sq_l elh1) z1 ?_
      refine s_insM LA.ap.a.ob (lkR_none A_.h (m := "log") (by decide +kernel)) ?_
      walk_at "S"
      refine ⟨A_.h, A_.s, _, _, rfl, LA.ap.a, fun l ws hl dw => ?_⟩
      have kl : Kp [] Hb (upd Hb l (.lst ws)) := Kp.refl.upd_new hl
      have LB := LA.same B kl
      have el : upd Hb l (.lst ws) l = some (.lst ws) := upd_same
      have dw2 := Dp.sameAll kl _ _ dw
      have elh2 := kl.get trivial elh1
      have nol : ∀ x ∈ A_.own ++ A_.ownG, x ≠ l := fun x hx e => by
        subst e
        rcases List.mem_append.mp hx with hx | hx
        · obtain ⟨o, e⟩ := LA.ap.a.some hx; rw [hl] at e; cases e
        · obtain ⟨o, e⟩ := LA.ap.b.some hx; rw [hl] at e; cases e
      have tkl := TupK.same kl
      generalize upd Hb l (.lst ws) = Hc at *
      walk_at "S"
      refine s_ixL (sq_l elh2) z1 ?_
      refine s_insM LB.ap.a.ob (lkR_none A_.h (m := "paper") (by decide +kernel)) ?_
      walk_at "S"
      refine ⟨A_.h, A_.s, _, _, rfl, LB.ap.a, fun l' ws' hl' dw' => ?_⟩
      have km : Kp [] Hc (upd Hc l' (.lst ws')) := Kp.refl.upd_new hl'
      have LC := LB.same B km
      have el' : upd Hc l' (.lst ws') l' = some (.lst ws') := upd_same
      have el3 := km.get trivial el
      have dw3 := Dp.sameAll km _ _ dw2
      have dw3' := Dp.sameAll km _ _ dw'
      have nol' : ∀ x ∈ A_.own ++ A_.ownG, x ≠ l' := fun x hx e => by
        subst e
        rcases List.mem_append.mp hx with hx | hx
        · obtain ⟨o, e⟩ := LB.ap.a.some hx; rw [hl'] at e; cases e
        · obtain ⟨o, e⟩ := LB.ap.b.some hx; rw [hl'] at e; cases e
      have klm := kl.tr km
      generalize upd Hc l' (.lst ws') = Hd at *
      walk_at "S"
      refine ⟨small_le (by simp), fun hd_ hhd => ?_⟩
      have kn : Kp [] Hd (upd Hd hd_ (.lst [.ref l, .ref l'])) := Kp.refl.upd_new hhd
      have LD := LC.same B kn
      have ehd : upd Hd hd_ (.lst [.ref l, .ref l']) hd_ = some (.lst [.ref l, .ref l']) := upd_same
      have el4 := kn.get trivial el3
      have el4' := kn.get trivial el'
      have dw4 := Dp.sameAll kn _ _ dw3
      have dw4' := Dp.sameAll kn _ _ dw3'
      have nohd : ∀ x ∈ A_.own ++ A_.ownG, x ≠ hd_ := fun x hx e => by
        subst e
        rcases List.mem_append.mp hx with hx | hx
        · obtain ⟨o, e⟩ := LC.ap.a.some hx; rw [hhd] at e; cases e
        · obtain ⟨o, e⟩ := LC.ap.b.some hx; rw [hhd] at e; cases e
      have kld := klm.tr kn
      generalize upd Hd hd_ (.lst [.ref l, .ref l']) = He at *
      have sml := LA.ap.i.lstSm okp (by omega) (show A_.s.ab.log.length ≤ 390 from by show A_.s.notes.length ≤ 390; omega) (by omega)
      have dheld : Dp K He (.ref hd_) (.list [.list A_.s.ab.log, .list A_.s.ab.pap]) := .lst (sq_l ehd) (.cons (.lst (sq_l el4) dw4) (.cons (.lst (sq_l el4') dw4') .nil))
      walk_at "S"
      refine rep_sm dheld (sml.weak (Nat.le_refl _) (by omega)) rfl (by omega) ?_
      have elh4 := kld.get trivial elh1
      have elo4 := kld.get trivial elo1
      walk_at "S"
      refine s_ixL (sq_l elh4) z1 ?_
      refine s_insM LD.ap.a.ob (lkR_none A_.h (m := "take") (by decide +kernel)) ?_
      walk_at "S"
      refine ⟨A_.h, A_.s, _, _, path, rfl, B, LD.ap.a, hpath, LD.ap.i.few, by show A_.s.ab.lot _ ≤ 5000; omega, fun Hf h' s' st ea' => ?_⟩
      have tle : (takeF (bodyF bs) 9 A_.s.ab path).2 ≤ 8 := Nat.le_trans (take_le 8 _ _) lm
      have small9 : (((takeF (bodyF bs) 9 A_.s.ab path).2 + 1 : Nat) : Int).natAbs.log2 < 1920 := by
        have h9 : (((takeF (bodyF bs) 9 A_.s.ab path).2 + 1 : Nat) : Int).natAbs < 16 := by omega
        exact Nat.lt_of_lt_of_le ((Nat.log2_lt (by omega)).mpr (show _ < 2 ^ 4 from h9)) (by decide)
      obtain ⟨b1, q1, _, _, _, fk1⟩ := LD.taken B st
      have elh5 := fk1 lh flh _ elh4
      have elo5 := fk1 lo flo _ elo4
      have nW : ∀ {z : Addr}, (∀ x ∈ A_.own ++ A_.ownG, x ≠ z) → Nin z (own A_.h A_.s) := fun h => Nin.intro fun y hy e => h y (List.mem_append_left _ hy) e.symm
      have nG : ∀ {z : Addr}, (∀ x ∈ A_.own ++ A_.ownG, x ≠ z) → Nin z (ownL A_.g A_.ds) := fun h => Nin.intro fun y hy e => h y (List.mem_append_right _ hy) e.symm
      walk_at "S"
      refine .inl ⟨_, rfl, small9, ?_⟩
      walk_at "S"
      refine s_ixL (sq_l elo5) z2 ?_
      walk_at "S"
      refine ⟨A_.g, A_.ds, _, _, A_.s.ab, path, rfl, B, b1, hpath, LD.ap.i.few, by have : rem (bs.map (·.p)) A_.s.ab ≤ (bs.map (·.p)).length := List.length_filter_le _ _; omega, by omega, fun Hg ds' lt => ?_⟩
      walk_at "S"
      refine .inl ⟨_, rfl, small9, ?_⟩
      walk_at "S"
      rw [if_neg (by simp)]
      have iv := take_inv B 9 A_.s.ab path hpath LD.ap.i
      rw [← ea'] at lt iv
      have LSt := LD.took B st lt iv.1
      have LE := LSt.1
      have fk2 := LSt.2
      have lot2 := take_lot B.len B.row 9 A_.s.ab path hpath
      have more := take_more (body := bodyF bs) 9 A_.s.ab path
      rw [← ea'] at lot2 more
      obtain ⟨⟨lm_, elm, nem⟩, pm, epm⟩ := more
      have tkg : TupK He Hg := st.tup.trans lt.tup
      have ehdg := lt.kp.get (nG nohd) (st.kp.get (nW nohd) ehd)
      have elg := lt.kp.get (nG nol) (st.kp.get (nW nol) el4)
      have elg' := lt.kp.get (nG nol') (st.kp.get (nW nol') el4')
      have dwg := Dp.tupsAll tkg _ _ LA.ap.a.nf dw4
      have dwg' := Dp.tupsAll tkg _ _ LA.ap.a.wf dw4'
      have dheldg : Dp K Hg (.ref hd_) (.list [.list A_.s.ab.log, .list A_.s.ab.pap]) := .lst (sq_l ehdg) (.cons (.lst (sq_l elg) dwg) (.cons (.lst (sq_l elg') dwg') .nil))
      have elhg := fk2 lh flh _ elh4
      have elog := fk2 lo flo _ elo4
      rw [← st.self] at z1
      have l8' := LE.ap.b.l8 B
      have wm' := LE.ap.b.wm
      have lg' : s'.notes.length + 43 * rem (bs.map (·.p)) s'.ab ≤ A_.s.ab.lot (bs.map (·.p)) + 1 := lot2
      walk_at "S"
      refine s_ixL (sq_l elhg) z1 ?_
      refine s_insM LE.ap.a.ob (lkR_none h' (m := "log") (by decide +kernel)) ?_
      walk_at "S"
      refine ⟨h', s', _, _, rfl, LE.ap.a, fun m1 us hm1 du => ?_⟩
      have k1_ : Kp [] Hg (upd Hg m1 (.lst us)) := Kp.refl.upd_new hm1
      have LF := LE.same B k1_
      have em1 : upd Hg m1 (.lst us) m1 = some (.lst us) := upd_same
      have du2 := Dp.sameAll k1_ _ _ du
      have elh6 := k1_.get trivial elhg
      generalize upd Hg m1 (.lst us) = Hh at *
      walk_at "S"
      refine s_ixL (sq_l elh6) z1 ?_
      refine s_insM LF.ap.a.ob (lkR_none h' (m := "paper") (by decide +kernel)) ?_
      walk_at "S"
      refine ⟨h', s', _, _, rfl, LF.ap.a, fun m2 us' hm2 du' => ?_⟩
      have k2_ : Kp [] Hh (upd Hh m2 (.lst us')) := Kp.refl.upd_new hm2
      have LG := LF.same B k2_
      have em2 : upd Hh m2 (.lst us') m2 = some (.lst us') := upd_same
      have em12 := k2_.get trivial em1
      have du3 := Dp.sameAll k2_ _ _ du2
      have du3' := Dp.sameAll k2_ _ _ du'
      have k12_ := k1_.tr k2_
      generalize upd Hh m2 (.lst us') = Hi_ at *
      walk_at "S"
      refine ⟨small_le (by simp), fun m3 hm3 => ?_⟩
      have k3_ : Kp [] Hi_ (upd Hi_ m3 (.lst [.ref m1, .ref m2])) := Kp.refl.upd_new hm3
      have LH := LG.same B k3_
      have em3 : upd Hi_ m3 (.lst [.ref m1, .ref m2]) m3 = some (.lst [.ref m1, .ref m2]) := upd_same
      have dnew : Dp K (upd Hi_ m3 (.lst [.ref m1, .ref m2])) (.ref m3) (.list [.list s'.ab.log, .list s'.ab.pap]) := .lst (sq_l em3) (.cons (.lst (sq_l (k3_.get trivial em12)) (Dp.sameAll k3_ _ _ du3)) (.cons (.lst (sq_l (k3_.get trivial em2)) (Dp.sameAll k3_ _ _ du3')) .nil))
      have kgj := k12_.tr k3_
      have dheldj := Dp.same kgj _ _ dheldg
      have elhj := kgj.get trivial elhg
      have eloj := kgj.get trivial elog
      generalize upd Hi_ m3 (.lst [.ref m1, .ref m2]) = Hj at *
      have sml' := LE.ap.i.lstSm okp (by omega) (show s'.ab.log.length ≤ 390 from by show s'.notes.length ≤ 390; omega) (by omega)
      walk_at "S"
      refine rep_sm dnew (sml'.weak (Nat.le_refl _) (by omega)) rfl (by omega) ?_
      have hne := held_ne elm epm (nem (by omega)) fun x hx => (LE.ap.i.log x (by rw [elm]; exact List.mem_append_right _ hx)).len
      walk_at "S"
      rw [if_neg (by simp only [decide_eq_true_eq]; exact fun e => hne (V.str.inj e))]
      walk_at "S"
      refine rep_sm dheldj (sml.weak (Nat.le_refl _) (by omega)) rfl (by omega) ?_
      walk_at "S"
      rw [if_neg (by simp)]
      walk_at "S"
      refine s_ixL (sq_l elhj) z1 ?_
      walk_at "S"
      refine s_ixL (sq_l eloj) z2 ?_
      walk_at "S"
      refine ⟨h', s', A_.g, ds', _, _, rfl, B, LH.ap.a, LH.ap.b, LH.ap.i, by show s'.ab.lot _ ≤ 600; omega, fun Hk kk => ?_⟩
      have LK := LH.same B kk
      have elhk := kk.get trivial elhj
      have elok := kk.get trivial eloj
      walk_at "S"
      refine s_ixL (sq_l elhk) z3 ?_
      walk_at "S"
      refine s_ixL (sq_l elok) z4 ?_
      walk_at "S"
      refine ⟨C_.h, C_.s, C_.g, C_.ds, _, _, rfl, B, LK.aq.a, LK.aq.b, LK.aq.i, by omega, fun Hm_ kkm => ?_⟩
      have LM := LK.same B kkm
      walk_at "S"
      obtain ⟨pa', pb', L9, y1, y2, y3, y4, y5, y6⟩ := back _ _ LM st.self rfl (by show s'.ab.lot _ ≤ 344 + (i + 1); omega)
      refine ⟨pa', pb', _, _, _, _, _, rfl, L9, y1, y2, y3, y4, y5, y6, fun x hx o e => kkm.get trivial (kk.get trivial (kgj.get trivial (fk2 x hx o (kld.get trivial (fk x hx o e))))), ?_⟩
      exact (((tk.trans (TupK.same kld)).trans tkg).trans (TupK.same kgj)).trans ((TupK.same kk).trans (TupK.same kkm))
    · obtain ⟨pa, pb, o8, o9, o10, o11, o12, rfl, L, _, _, _, _, _, _, fk, tk⟩ := Ii
      walk_at "S"
      refine ⟨F_, shs.map (·.a), pss, rfl, by rw [List.map_map]; exact fk F_ fF _ eFw, sds_dd (sds_step tk sdw fun x hx o e => fk x.a (fsh x hx) o e), ds3.1, ds3.2.1, ds3.2.2, ?_⟩
      walk_at "S"
      rw [decide_eq_true rfl]
      exact q _
end

local macro_rules | `(tactic| walk_at "N") => `(tactic| first
  | with_reducible assumption
  | (apply Ne.symm; with_reducible assumption)
  | (refine' ne_of_none (H := ?H0) ?h1 ?h2; (case h2 => with_reducible assumption); (case h1 => walk_at "L"))
  | (apply Ne.symm; refine' ne_of_none (H := ?H0) ?h1 ?h2; (case h2 => with_reducible assumption); (case h1 => walk_at "L"))
  | fail "no")
local macro_rules | `(tactic| walk_at "M") => `(tactic| first
  | exact trivial
  | exact True.intro
  | (refine ⟨?_, ?_⟩; (walk_at "N"); (walk_at "M"))
  | fail "no")
local macro_rules | `(tactic| walk_at "L") => `(tactic| first
  | with_reducible assumption
  | with_reducible exact upd_same
  | ((with_reducible refine' (upd_ne ?n1).trans ?l1); (case n1 => walk_at "N"); (case l1 => walk_at "L"))
  | ((with_reducible refine' Kp.get ?k1 ?m1 ?l1); (case k1 => with_reducible assumption); (case l1 => walk_at "L"); (case m1 => walk_at "M"))
  | fail "no")
local macro_rules | `(tactic| walk_at "Q") => `(tactic| first
  | with_reducible assumption
  | ((with_reducible refine' sq_l ?e1); (case e1 => walk_at "L"))
  | ((with_reducible refine' sq_t ?e1); (case e1 => walk_at "L"))
  | ((with_reducible refine' Kp.seqL ?k1 ?m1 ?l1); (case k1 => with_reducible assumption); (case l1 => walk_at "Q"); (case m1 => walk_at "M"))
  | fail "no")
local macro_rules | `(tactic| walk_at "K") => `(tactic| first
  | with_reducible assumption
  | with_reducible exact Kp.refl
  | ((with_reducible refine' Kp.upd_mem ?k1 ?m1); (case m1 => simp only [List.mem_cons, true_or, or_true]); (case k1 => walk_at "K"))
  | ((with_reducible refine' Kp.upd_new ?k1 ?m1); (case m1 => with_reducible assumption); (case k1 => walk_at "K"))
  | ((with_reducible refine' Kp.upd_loc ?k1 ?m1); (case m1 => with_reducible assumption); (case k1 => walk_at "K"))
  | ((with_reducible refine' Kp.step ?k1 ?k2 ?m1); (case k2 => with_reducible assumption); (case m1 => (intro z hz; first | exact (List.not_mem_nil hz).elim | exact .inl hz | (simp only [List.mem_cons, List.not_mem_nil, or_false] at hz ⊢; first | (left; assumption) | (subst hz; first | (left; rfl) | (right; assumption))))); (case k1 => walk_at "K"))
  | fail "no")
local macro_rules | `(tactic| walk_at "C") => `(tactic| first | decide | assumption | omega | (show (0 : Int) < _; omega) | exact ⟨by decide, by decide⟩ | exact ⟨by omega, by omega⟩ | (left; exact ⟨by omega, by omega⟩) | (right; exact ⟨by omega, by omega⟩) | fail "no")
local macro_rules | `(tactic| walk_at "S1") => `(tactic| first
  | ((with_reducible refine' s_var ?h1 ?_); (case h1 => exact rfl))
  | with_reducible refine' s_c ?_
  | with_reducible refine' s_op ?_
  | with_reducible refine' s_un ?_
  | with_reducible refine' s_nil ?_
  | with_reducible refine' s_cons ?_
  | with_reducible refine' s_cb ?_
  | with_reducible refine' s_call ?_
  | with_reducible refine' s_test ?_
  | with_reducible refine' s_B ?_
  | with_reducible refine' s_and ?_
  | with_reducible refine' s_or ?_
  | with_reducible refine' s_not ?_
  | with_reducible refine' s_andV ?_
  | with_reducible refine' s_orV ?_
  | with_reducible refine' s_notV ?_
  | with_reducible refine' s_ifE ?_
  | with_reducible refine' s_chain ?_
  | with_reducible refine' s_tup ?_
  | with_reducible refine' s_lst ?_
  | with_reducible refine' s_sl ?_
  | with_reducible refine' s_noPart ?_
  | with_reducible refine' s_part ?_
  | with_reducible refine' s_fld ?_
  | with_reducible refine' s_bm ?_
  | with_reducible refine' s_bm0 ?_
  | with_reducible refine' s_m1 ?_
  | with_reducible refine' s_m0 ?_
  | with_reducible refine' s_seq ?_
  | with_reducible refine' s_next ?_
  | with_reducible refine' s_asg ?_
  | with_reducible refine' s_gname ?_
  | with_reducible refine' s_drop ?_
  | with_reducible refine' s_ret ?_
  | with_reducible refine' s_retN ?_
  | with_reducible refine' s_ifS ?_
  | with_reducible refine' s_gsub ?_
  | with_reducible refine' s_par ?_
  | with_reducible refine' s_bl ?_
  | with_reducible refine' s_iStr ?_
  | with_reducible refine' s_iList ?_
  | with_reducible refine' s_iTup ?_
  | with_reducible refine' s_iRng1 ?_
  | with_reducible refine' s_str ?_
  | with_reducible refine' s_ref ?_
  | with_reducible refine' s_yes ?_
  | with_reducible refine' s_for ?_
  | with_reducible refine' s_lc ?_
  | with_reducible refine' i_T ?_
  | with_reducible refine' i_F ?_
  | with_reducible refine' i_nT ?_
  | with_reducible refine' i_nF ?_
  | with_reducible refine' s_int ?_
  | with_reducible refine' s_ints2 ?_
  | with_reducible refine' s_ints1 ?_
  | with_reducible refine' s_strs1 ?_
  | with_reducible refine' s_vals2 ?_
  | with_reducible refine' s_vals3 ?_
  | ((with_reducible refine' s_gtup ?h1 ?l1 ?_); (case h1 => walk_at "Q"); (case l1 => exact rfl))
  | with_reducible refine' s_gcons ?_
  | with_reducible refine' s_gnil ?_
  | with_reducible refine' s_par3 ?_
  | with_reducible refine' s_ex ?_
  | with_reducible refine' s_I0 ?_
  | ((with_reducible refine' s_I ?c1 ?_); (case c1 => walk_at "C"))
  | ((with_reducible refine' s_eq ?h1 ?_); (case h1 => exact rfl))
  | ((with_reducible refine' s_ne ?h1 ?_); (case h1 => exact rfl))
  | ((with_reducible refine' s_ixL ?h1 ?a1 ?_); (case h1 => walk_at "Q"); (case a1 => exact rfl))
  | ((with_reducible refine' s_ixT ?h1 ?a1 ?_); (case h1 => walk_at "Q"); (case a1 => exact rfl))
  | ((with_reducible refine' s_setL ?h1 ?a1 ?_); (case h1 => walk_at "L"); (case a1 => exact rfl))
  | ((with_reducible refine' s_lenL ?h1 ?_); (case h1 => walk_at "Q"))
  | ((with_reducible refine' s_lenT ?h1 ?_); (case h1 => walk_at "Q"))
  | ((with_reducible refine' s_lenStr ?h1 ?_); (case h1 => assumption))
  | ((with_reducible refine' s_slL ?h1 ?_); (case h1 => walk_at "Q"))
  | ((with_reducible refine' s_slS ?h1 ?_); (case h1 => assumption))
  | with_reducible refine' s_U ?_
  | ((with_reducible refine' s_tyL ?h1 ?_); (case h1 => walk_at "L"))
  | with_reducible refine' s_inSg ?_
  | with_reducible refine' s_nn ?_
  | with_reducible refine' s_meth ?_
  | with_reducible refine' s_make ?_
  | with_reducible refine' s_dnew ?_
  | with_reducible refine' s_dget ?_
  | with_reducible refine' s_din ?_
  | with_reducible refine' s_dnotin ?_
  | with_reducible refine' s_dput ?_
  | with_reducible refine' s_dget1 ?_
  | with_reducible refine' s_sfld ?_
  | with_reducible refine' s_revL ?_
  | with_reducible refine' s_iZip3 ?_
  | with_reducible refine' s_iRng2 ?_
  | dsimp only
  | fail "no")
local macro_rules | `(tactic| walk_at "S") => `(tactic| repeat walk_at "S1")

theorem all_mk {l : PySem.W.OpenLaw} {w : World} {K : PySem.W.Frag} {h : Heap} {mg : Str → Option Value} {fa : Addr} (X : K.In h) (G : h.Ns mainGlobals mg) (hfa : mg "law" = some (.ref fa))
    {od_is_name an_is_name od_is_path an_is_path od_is_whole an_is_whole od_is_word an_is_word od_are_words an_are_words od_is_bare an_is_bare od_is_row_within an_is_row_within od_are_rows an_are_rows od_counted an_counted od_is_body an_is_body od_Module_init an_Module_init od_Module_bind an_Module_bind od_Module_bound an_Module_bound od_want_finders an_want_finders od_want_path an_want_path od_Runs_init an_Runs_init od_Runs_take an_Runs_take od_Runs_log an_Runs_log od_Runs_paper an_Runs_paper od_Runs_found an_Runs_found od_Runs_taken an_Runs_taken od_Runs_taken_one an_Runs_taken_one od_Runs_begin an_Runs_begin od_Runs_came_whole an_Runs_came_whole od_Runs_run_body an_Runs_run_body od_Runs_do_body an_Runs_do_body od_Runs_do an_Runs_do od_Runs_do_note an_Runs_do_note od_l_at an_l_at od_l_pot an_l_pot od_l_draw an_l_draw od_l_name an_l_name od_l_number an_l_number od_l_row an_l_row od_l_stock an_l_stock od_l_dealt an_l_dealt od_l_house an_l_house od_l_done an_l_done od_l_taken an_l_taken od_l_right an_l_right od_law an_law : Option Addr} {sl_is_name sl_is_path sl_is_whole sl_is_word sl_are_words sl_is_bare sl_is_row_within sl_are_rows sl_counted sl_is_body sl_Module_init sl_Module_bind sl_Module_bound sl_want_finders sl_want_path sl_Runs_init sl_Runs_take sl_Runs_log sl_Runs_paper sl_Runs_found sl_Runs_taken sl_Runs_taken_one sl_Runs_begin sl_Runs_came_whole sl_Runs_run_body sl_Runs_do_body sl_Runs_do sl_Runs_do_note sl_l_at sl_l_pot sl_l_draw sl_l_name sl_l_number sl_l_row sl_l_stock sl_l_dealt sl_l_house sl_l_done sl_l_taken sl_l_right sl_law : Array (Option Value)} {oc_is_name kV_is_name dc_is_name pm_is_name cd_is_name ct_is_name oc_is_path kV_is_path dc_is_path pm_is_path cd_is_path ct_is_path oc_is_whole kV_is_whole dc_is_whole pm_is_whole cd_is_whole ct_is_whole oc_is_word kV_is_word dc_is_word pm_is_word cd_is_word ct_is_word oc_are_words kV_are_words dc_are_words pm_are_words cd_are_words ct_are_words oc_is_bare kV_is_bare dc_is_bare pm_is_bare cd_is_bare ct_is_bare oc_is_row_within kV_is_row_within dc_is_row_within pm_is_row_within cd_is_row_within ct_is_row_within oc_are_rows kV_are_rows dc_are_rows pm_are_rows cd_are_rows ct_are_rows oc_counted kV_counted dc_counted pm_counted cd_counted ct_counted oc_is_body kV_is_body dc_is_body pm_is_body cd_is_body ct_is_body oc_Module_init kV_Module_init dc_Module_init pm_Module_init cd_Module_init ct_Module_init oc_Module_bind kV_Module_bind dc_Module_bind pm_Module_bind cd_Module_bind ct_Module_bind oc_Module_bound kV_Module_bound dc_Module_bound pm_Module_bound cd_Module_bound ct_Module_bound oc_want_finders kV_want_finders dc_want_finders pm_want_finders cd_want_finders ct_want_finders oc_want_path kV_want_path dc_want_path pm_want_path cd_want_path ct_want_path oc_Runs_init kV_Runs_init dc_Runs_init pm_Runs_init cd_Runs_init ct_Runs_init oc_Runs_take kV_Runs_take dc_Runs_take pm_Runs_take cd_Runs_take ct_Runs_take oc_Runs_log kV_Runs_log dc_Runs_log pm_Runs_log cd_Runs_log ct_Runs_log oc_Runs_paper kV_Runs_paper dc_Runs_paper pm_Runs_paper cd_Runs_paper ct_Runs_paper oc_Runs_found kV_Runs_found dc_Runs_found pm_Runs_found cd_Runs_found ct_Runs_found oc_Runs_taken kV_Runs_taken dc_Runs_taken pm_Runs_taken cd_Runs_taken ct_Runs_taken oc_Runs_taken_one kV_Runs_taken_one dc_Runs_taken_one pm_Runs_taken_one cd_Runs_taken_one ct_Runs_taken_one oc_Runs_begin kV_Runs_begin dc_Runs_begin pm_Runs_begin cd_Runs_begin ct_Runs_begin oc_Runs_came_whole kV_Runs_came_whole dc_Runs_came_whole pm_Runs_came_whole cd_Runs_came_whole ct_Runs_came_whole oc_Runs_run_body kV_Runs_run_body dc_Runs_run_body pm_Runs_run_body cd_Runs_run_body ct_Runs_run_body oc_Runs_do_body kV_Runs_do_body dc_Runs_do_body pm_Runs_do_body cd_Runs_do_body ct_Runs_do_body oc_Runs_do kV_Runs_do dc_Runs_do pm_Runs_do cd_Runs_do ct_Runs_do oc_Runs_do_note kV_Runs_do_note dc_Runs_do_note pm_Runs_do_note cd_Runs_do_note ct_Runs_do_note oc_l_at kV_l_at dc_l_at pm_l_at cd_l_at ct_l_at oc_l_pot kV_l_pot dc_l_pot pm_l_pot cd_l_pot ct_l_pot oc_l_draw kV_l_draw dc_l_draw pm_l_draw cd_l_draw ct_l_draw oc_l_name kV_l_name dc_l_name pm_l_name cd_l_name ct_l_name oc_l_number kV_l_number dc_l_number pm_l_number cd_l_number ct_l_number oc_l_row kV_l_row dc_l_row pm_l_row cd_l_row ct_l_row oc_l_stock kV_l_stock dc_l_stock pm_l_stock cd_l_stock ct_l_stock oc_l_dealt kV_l_dealt dc_l_dealt pm_l_dealt cd_l_dealt ct_l_dealt oc_l_house kV_l_house dc_l_house pm_l_house cd_l_house ct_l_house oc_l_done kV_l_done dc_l_done pm_l_done cd_l_done ct_l_done oc_l_taken kV_l_taken dc_l_taken pm_l_taken cd_l_taken ct_l_taken oc_l_right kV_l_right dc_l_right pm_l_right cd_l_right ct_l_right oc_law kV_law dc_law pm_law cd_law ct_law : Value}
    {f_is_name f_is_path f_is_whole f_is_word f_are_words f_is_bare f_is_row_within f_are_rows f_counted f_is_body f_Module_init f_Module_bind f_Module_bound f_want_finders f_want_path f_Runs_init f_Runs_take f_Runs_log f_Runs_paper f_Runs_found f_Runs_taken f_Runs_taken_one f_Runs_begin f_Runs_came_whole f_Runs_run_body f_Runs_do_body f_Runs_do f_Runs_do_note f_l_at f_l_pot f_l_draw f_l_name f_l_number f_l_row f_l_stock f_l_dealt f_l_house f_l_done f_l_taken f_l_right f_law : Addr}
    {C_Module : Addr}
    (aC_Module : PySem.W.nsIn K mainGlobals "Module" = some (some (.ref C_Module))) (pg_Module : PySem.W.plainGet K C_Module Str.empty = true) (hd_Module : PySem.W.hasDictIn K C_Module = true) (po_Module : PySem.W.plainOver K C_Module = true) (sa_Module : PySem.W.findIn K (.ref C_Module) "__setattr__" = some (some (.builtin "object.__setattr__"))) (mk_Module : PySem.W.makesIn K C_Module = true) (kc_Module : PySem.W.keepIn K (.ref C_Module) = true)
    (nA_Module_number : PySem.W.findIn K (.ref C_Module) "number" = some none)
    (nA_Module_path : PySem.W.findIn K (.ref C_Module) "path" = some none)
    (nA_Module_things : PySem.W.findIn K (.ref C_Module) "things" = some none)
    {C_Runs : Addr}
    (aC_Runs : PySem.W.nsIn K mainGlobals "Runs" = some (some (.ref C_Runs))) (pg_Runs : PySem.W.plainGet K C_Runs Str.empty = true) (hd_Runs : PySem.W.hasDictIn K C_Runs = true) (po_Runs : PySem.W.plainOver K C_Runs = true) (sa_Runs : PySem.W.findIn K (.ref C_Runs) "__setattr__" = some (some (.builtin "object.__setattr__"))) (mk_Runs : PySem.W.makesIn K C_Runs = true) (kc_Runs : PySem.W.keepIn K (.ref C_Runs) = true)
    (nA_Runs_shelves : PySem.W.findIn K (.ref C_Runs) "shelves" = some none)
    (nA_Runs_standing : PySem.W.findIn K (.ref C_Runs) "standing" = some none)
    (nA_Runs_made : PySem.W.findIn K (.ref C_Runs) "made" = some none)
    (nA_Runs_line : PySem.W.findIn K (.ref C_Runs) "line" = some none)
    (nA_Runs_broken : PySem.W.findIn K (.ref C_Runs) "broken" = some none)
    (nA_Runs_met : PySem.W.findIn K (.ref C_Runs) "met" = some none)
    (nA_Runs_fates : PySem.W.findIn K (.ref C_Runs) "fates" = some none)
    (nA_Runs_notes : PySem.W.findIn K (.ref C_Runs) "notes" = some none)
    (nA_Runs_waits : PySem.W.findIn K (.ref C_Runs) "waits" = some none)
    {t_MOST_LETTERS t_LETTERS t_DOT t_MOST_NAMES t_MOST_ROWS t_MOST_TRIES : Tok}
    {a_FAULT_WORDS : Addr} {o_FAULT_WORDS : Obj} {i_FAULT_WORDS : Array Value} {e_FAULT_WORDS : Nat}
    {a_LEADING : Addr} {o_LEADING : Obj} {i_LEADING : Array Value} {e_LEADING : Nat}
    (a_is_name : PySem.W.nsIn K mainGlobals "is_name" = some (some (.ref f_is_name))) (l_is_name : K.lookup f_is_name = some ⟨oc_is_name, od_is_name, .func (PySem.W.fnOf "is_name" "is_name" (defArgs s_is_name) (defBody s_is_name) (defScope s_is_name) .none kV_is_name dc_is_name pm_is_name an_is_name cd_is_name ct_is_name), sl_is_name⟩) (c_is_name : PySem.W.codeIn K cd_is_name "is_name" = true) (k_is_name : PySem.W.keepIn K (.ref f_is_name) = true)
    (a_is_path : PySem.W.nsIn K mainGlobals "is_path" = some (some (.ref f_is_path))) (l_is_path : K.lookup f_is_path = some ⟨oc_is_path, od_is_path, .func (PySem.W.fnOf "is_path" "is_path" (defArgs s_is_path) (defBody s_is_path) (defScope s_is_path) .none kV_is_path dc_is_path pm_is_path an_is_path cd_is_path ct_is_path), sl_is_path⟩) (c_is_path : PySem.W.codeIn K cd_is_path "is_path" = true) (k_is_path : PySem.W.keepIn K (.ref f_is_path) = true)
    (a_is_whole : PySem.W.nsIn K mainGlobals "is_whole" = some (some (.ref f_is_whole))) (l_is_whole : K.lookup f_is_whole = some ⟨oc_is_whole, od_is_whole, .func (PySem.W.fnOf "is_whole" "is_whole" (defArgs s_is_whole) (defBody s_is_whole) (defScope s_is_whole) .none kV_is_whole dc_is_whole pm_is_whole an_is_whole cd_is_whole ct_is_whole), sl_is_whole⟩) (c_is_whole : PySem.W.codeIn K cd_is_whole "is_whole" = true) (k_is_whole : PySem.W.keepIn K (.ref f_is_whole) = true)
    (a_is_word : PySem.W.nsIn K mainGlobals "is_word" = some (some (.ref f_is_word))) (l_is_word : K.lookup f_is_word = some ⟨oc_is_word, od_is_word, .func (PySem.W.fnOf "is_word" "is_word" (defArgs s_is_word) (defBody s_is_word) (defScope s_is_word) .none kV_is_word dc_is_word pm_is_word an_is_word cd_is_word ct_is_word), sl_is_word⟩) (c_is_word : PySem.W.codeIn K cd_is_word "is_word" = true) (k_is_word : PySem.W.keepIn K (.ref f_is_word) = true)
    (a_are_words : PySem.W.nsIn K mainGlobals "are_words" = some (some (.ref f_are_words))) (l_are_words : K.lookup f_are_words = some ⟨oc_are_words, od_are_words, .func (PySem.W.fnOf "are_words" "are_words" (defArgs s_are_words) (defBody s_are_words) (defScope s_are_words) .none kV_are_words dc_are_words pm_are_words an_are_words cd_are_words ct_are_words), sl_are_words⟩) (c_are_words : PySem.W.codeIn K cd_are_words "are_words" = true) (k_are_words : PySem.W.keepIn K (.ref f_are_words) = true)
    (a_is_bare : PySem.W.nsIn K mainGlobals "is_bare" = some (some (.ref f_is_bare))) (l_is_bare : K.lookup f_is_bare = some ⟨oc_is_bare, od_is_bare, .func (PySem.W.fnOf "is_bare" "is_bare" (defArgs s_is_bare) (defBody s_is_bare) (defScope s_is_bare) .none kV_is_bare dc_is_bare pm_is_bare an_is_bare cd_is_bare ct_is_bare), sl_is_bare⟩) (c_is_bare : PySem.W.codeIn K cd_is_bare "is_bare" = true) (k_is_bare : PySem.W.keepIn K (.ref f_is_bare) = true)
    (a_is_row_within : PySem.W.nsIn K mainGlobals "is_row_within" = some (some (.ref f_is_row_within))) (l_is_row_within : K.lookup f_is_row_within = some ⟨oc_is_row_within, od_is_row_within, .func (PySem.W.fnOf "is_row_within" "is_row_within" (defArgs s_is_row_within) (defBody s_is_row_within) (defScope s_is_row_within) .none kV_is_row_within dc_is_row_within pm_is_row_within an_is_row_within cd_is_row_within ct_is_row_within), sl_is_row_within⟩) (c_is_row_within : PySem.W.codeIn K cd_is_row_within "is_row_within" = true) (k_is_row_within : PySem.W.keepIn K (.ref f_is_row_within) = true)
    (a_are_rows : PySem.W.nsIn K mainGlobals "are_rows" = some (some (.ref f_are_rows))) (l_are_rows : K.lookup f_are_rows = some ⟨oc_are_rows, od_are_rows, .func (PySem.W.fnOf "are_rows" "are_rows" (defArgs s_are_rows) (defBody s_are_rows) (defScope s_are_rows) .none kV_are_rows dc_are_rows pm_are_rows an_are_rows cd_are_rows ct_are_rows), sl_are_rows⟩) (c_are_rows : PySem.W.codeIn K cd_are_rows "are_rows" = true) (k_are_rows : PySem.W.keepIn K (.ref f_are_rows) = true)
    (a_counted : PySem.W.nsIn K mainGlobals "counted" = some (some (.ref f_counted))) (l_counted : K.lookup f_counted = some ⟨oc_counted, od_counted, .func (PySem.W.fnOf "counted" "counted" (defArgs s_counted) (defBody s_counted) (defScope s_counted) .none kV_counted dc_counted pm_counted an_counted cd_counted ct_counted), sl_counted⟩) (c_counted : PySem.W.codeIn K cd_counted "counted" = true) (k_counted : PySem.W.keepIn K (.ref f_counted) = true)
    (a_is_body : PySem.W.nsIn K mainGlobals "is_body" = some (some (.ref f_is_body))) (l_is_body : K.lookup f_is_body = some ⟨oc_is_body, od_is_body, .func (PySem.W.fnOf "is_body" "is_body" (defArgs s_is_body) (defBody s_is_body) (defScope s_is_body) .none kV_is_body dc_is_body pm_is_body an_is_body cd_is_body ct_is_body), sl_is_body⟩) (c_is_body : PySem.W.codeIn K cd_is_body "is_body" = true) (k_is_body : PySem.W.keepIn K (.ref f_is_body) = true)
    (a_Module_init : PySem.W.findIn K (.ref C_Module) "__init__" = some (some (.ref f_Module_init))) (l_Module_init : K.lookup f_Module_init = some ⟨oc_Module_init, od_Module_init, .func (PySem.W.fnOf "__init__" "Module.__init__" (defArgs s_Module_init) (defBody s_Module_init) (defScope s_Module_init) .none kV_Module_init dc_Module_init pm_Module_init an_Module_init cd_Module_init ct_Module_init), sl_Module_init⟩) (c_Module_init : PySem.W.codeIn K cd_Module_init "Module.__init__" = true) (k_Module_init : PySem.W.keepIn K (.ref f_Module_init) = true)
    (i_Module_init : PySem.W.isFn K (.ref f_Module_init) = true)
    (a_Module_bind : PySem.W.findIn K (.ref C_Module) "bind" = some (some (.ref f_Module_bind))) (l_Module_bind : K.lookup f_Module_bind = some ⟨oc_Module_bind, od_Module_bind, .func (PySem.W.fnOf "bind" "Module.bind" (defArgs s_Module_bind) (defBody s_Module_bind) (defScope s_Module_bind) .none kV_Module_bind dc_Module_bind pm_Module_bind an_Module_bind cd_Module_bind ct_Module_bind), sl_Module_bind⟩) (c_Module_bind : PySem.W.codeIn K cd_Module_bind "Module.bind" = true) (k_Module_bind : PySem.W.keepIn K (.ref f_Module_bind) = true)
    (i_Module_bind : PySem.W.isFn K (.ref f_Module_bind) = true)
    (a_Module_bound : PySem.W.findIn K (.ref C_Module) "bound" = some (some (.ref f_Module_bound))) (l_Module_bound : K.lookup f_Module_bound = some ⟨oc_Module_bound, od_Module_bound, .func (PySem.W.fnOf "bound" "Module.bound" (defArgs s_Module_bound) (defBody s_Module_bound) (defScope s_Module_bound) .none kV_Module_bound dc_Module_bound pm_Module_bound an_Module_bound cd_Module_bound ct_Module_bound), sl_Module_bound⟩) (c_Module_bound : PySem.W.codeIn K cd_Module_bound "Module.bound" = true) (k_Module_bound : PySem.W.keepIn K (.ref f_Module_bound) = true)
    (i_Module_bound : PySem.W.isFn K (.ref f_Module_bound) = true)
    (a_want_finders : PySem.W.nsIn K mainGlobals "want_finders" = some (some (.ref f_want_finders))) (l_want_finders : K.lookup f_want_finders = some ⟨oc_want_finders, od_want_finders, .func (PySem.W.fnOf "want_finders" "want_finders" (defArgs s_want_finders) (defBody s_want_finders) (defScope s_want_finders) .none kV_want_finders dc_want_finders pm_want_finders an_want_finders cd_want_finders ct_want_finders), sl_want_finders⟩) (c_want_finders : PySem.W.codeIn K cd_want_finders "want_finders" = true) (k_want_finders : PySem.W.keepIn K (.ref f_want_finders) = true)
    (a_want_path : PySem.W.nsIn K mainGlobals "want_path" = some (some (.ref f_want_path))) (l_want_path : K.lookup f_want_path = some ⟨oc_want_path, od_want_path, .func (PySem.W.fnOf "want_path" "want_path" (defArgs s_want_path) (defBody s_want_path) (defScope s_want_path) .none kV_want_path dc_want_path pm_want_path an_want_path cd_want_path ct_want_path), sl_want_path⟩) (c_want_path : PySem.W.codeIn K cd_want_path "want_path" = true) (k_want_path : PySem.W.keepIn K (.ref f_want_path) = true)
    (a_Runs_init : PySem.W.findIn K (.ref C_Runs) "__init__" = some (some (.ref f_Runs_init))) (l_Runs_init : K.lookup f_Runs_init = some ⟨oc_Runs_init, od_Runs_init, .func (PySem.W.fnOf "__init__" "Runs.__init__" (defArgs s_Runs_init) (defBody s_Runs_init) (defScope s_Runs_init) .none kV_Runs_init dc_Runs_init pm_Runs_init an_Runs_init cd_Runs_init ct_Runs_init), sl_Runs_init⟩) (c_Runs_init : PySem.W.codeIn K cd_Runs_init "Runs.__init__" = true) (k_Runs_init : PySem.W.keepIn K (.ref f_Runs_init) = true)
    (i_Runs_init : PySem.W.isFn K (.ref f_Runs_init) = true)
    (a_Runs_take : PySem.W.findIn K (.ref C_Runs) "take" = some (some (.ref f_Runs_take))) (l_Runs_take : K.lookup f_Runs_take = some ⟨oc_Runs_take, od_Runs_take, .func (PySem.W.fnOf "take" "Runs.take" (defArgs s_Runs_take) (defBody s_Runs_take) (defScope s_Runs_take) .none kV_Runs_take dc_Runs_take pm_Runs_take an_Runs_take cd_Runs_take ct_Runs_take), sl_Runs_take⟩) (c_Runs_take : PySem.W.codeIn K cd_Runs_take "Runs.take" = true) (k_Runs_take : PySem.W.keepIn K (.ref f_Runs_take) = true)
    (i_Runs_take : PySem.W.isFn K (.ref f_Runs_take) = true)
    (a_Runs_log : PySem.W.findIn K (.ref C_Runs) "log" = some (some (.ref f_Runs_log))) (l_Runs_log : K.lookup f_Runs_log = some ⟨oc_Runs_log, od_Runs_log, .func (PySem.W.fnOf "log" "Runs.log" (defArgs s_Runs_log) (defBody s_Runs_log) (defScope s_Runs_log) .none kV_Runs_log dc_Runs_log pm_Runs_log an_Runs_log cd_Runs_log ct_Runs_log), sl_Runs_log⟩) (c_Runs_log : PySem.W.codeIn K cd_Runs_log "Runs.log" = true) (k_Runs_log : PySem.W.keepIn K (.ref f_Runs_log) = true)
    (i_Runs_log : PySem.W.isFn K (.ref f_Runs_log) = true)
    (a_Runs_paper : PySem.W.findIn K (.ref C_Runs) "paper" = some (some (.ref f_Runs_paper))) (l_Runs_paper : K.lookup f_Runs_paper = some ⟨oc_Runs_paper, od_Runs_paper, .func (PySem.W.fnOf "paper" "Runs.paper" (defArgs s_Runs_paper) (defBody s_Runs_paper) (defScope s_Runs_paper) .none kV_Runs_paper dc_Runs_paper pm_Runs_paper an_Runs_paper cd_Runs_paper ct_Runs_paper), sl_Runs_paper⟩) (c_Runs_paper : PySem.W.codeIn K cd_Runs_paper "Runs.paper" = true) (k_Runs_paper : PySem.W.keepIn K (.ref f_Runs_paper) = true)
    (i_Runs_paper : PySem.W.isFn K (.ref f_Runs_paper) = true)
    (a_Runs_found : PySem.W.findIn K (.ref C_Runs) "found" = some (some (.ref f_Runs_found))) (l_Runs_found : K.lookup f_Runs_found = some ⟨oc_Runs_found, od_Runs_found, .func (PySem.W.fnOf "found" "Runs.found" (defArgs s_Runs_found) (defBody s_Runs_found) (defScope s_Runs_found) .none kV_Runs_found dc_Runs_found pm_Runs_found an_Runs_found cd_Runs_found ct_Runs_found), sl_Runs_found⟩) (c_Runs_found : PySem.W.codeIn K cd_Runs_found "Runs.found" = true) (k_Runs_found : PySem.W.keepIn K (.ref f_Runs_found) = true)
    (i_Runs_found : PySem.W.isFn K (.ref f_Runs_found) = true)
    (a_Runs_taken : PySem.W.findIn K (.ref C_Runs) "taken" = some (some (.ref f_Runs_taken))) (l_Runs_taken : K.lookup f_Runs_taken = some ⟨oc_Runs_taken, od_Runs_taken, .func (PySem.W.fnOf "taken" "Runs.taken" (defArgs s_Runs_taken) (defBody s_Runs_taken) (defScope s_Runs_taken) .none kV_Runs_taken dc_Runs_taken pm_Runs_taken an_Runs_taken cd_Runs_taken ct_Runs_taken), sl_Runs_taken⟩) (c_Runs_taken : PySem.W.codeIn K cd_Runs_taken "Runs.taken" = true) (k_Runs_taken : PySem.W.keepIn K (.ref f_Runs_taken) = true)
    (i_Runs_taken : PySem.W.isFn K (.ref f_Runs_taken) = true)
    (a_Runs_taken_one : PySem.W.findIn K (.ref C_Runs) "taken_one" = some (some (.ref f_Runs_taken_one))) (l_Runs_taken_one : K.lookup f_Runs_taken_one = some ⟨oc_Runs_taken_one, od_Runs_taken_one, .func (PySem.W.fnOf "taken_one" "Runs.taken_one" (defArgs s_Runs_taken_one) (defBody s_Runs_taken_one) (defScope s_Runs_taken_one) .none kV_Runs_taken_one dc_Runs_taken_one pm_Runs_taken_one an_Runs_taken_one cd_Runs_taken_one ct_Runs_taken_one), sl_Runs_taken_one⟩) (c_Runs_taken_one : PySem.W.codeIn K cd_Runs_taken_one "Runs.taken_one" = true) (k_Runs_taken_one : PySem.W.keepIn K (.ref f_Runs_taken_one) = true)
    (i_Runs_taken_one : PySem.W.isFn K (.ref f_Runs_taken_one) = true)
    (a_Runs_begin : PySem.W.findIn K (.ref C_Runs) "begin" = some (some (.ref f_Runs_begin))) (l_Runs_begin : K.lookup f_Runs_begin = some ⟨oc_Runs_begin, od_Runs_begin, .func (PySem.W.fnOf "begin" "Runs.begin" (defArgs s_Runs_begin) (defBody s_Runs_begin) (defScope s_Runs_begin) .none kV_Runs_begin dc_Runs_begin pm_Runs_begin an_Runs_begin cd_Runs_begin ct_Runs_begin), sl_Runs_begin⟩) (c_Runs_begin : PySem.W.codeIn K cd_Runs_begin "Runs.begin" = true) (k_Runs_begin : PySem.W.keepIn K (.ref f_Runs_begin) = true)
    (i_Runs_begin : PySem.W.isFn K (.ref f_Runs_begin) = true)
    (a_Runs_came_whole : PySem.W.findIn K (.ref C_Runs) "came_whole" = some (some (.ref f_Runs_came_whole))) (l_Runs_came_whole : K.lookup f_Runs_came_whole = some ⟨oc_Runs_came_whole, od_Runs_came_whole, .func (PySem.W.fnOf "came_whole" "Runs.came_whole" (defArgs s_Runs_came_whole) (defBody s_Runs_came_whole) (defScope s_Runs_came_whole) .none kV_Runs_came_whole dc_Runs_came_whole pm_Runs_came_whole an_Runs_came_whole cd_Runs_came_whole ct_Runs_came_whole), sl_Runs_came_whole⟩) (c_Runs_came_whole : PySem.W.codeIn K cd_Runs_came_whole "Runs.came_whole" = true) (k_Runs_came_whole : PySem.W.keepIn K (.ref f_Runs_came_whole) = true)
    (i_Runs_came_whole : PySem.W.isFn K (.ref f_Runs_came_whole) = true)
    (a_Runs_run_body : PySem.W.findIn K (.ref C_Runs) "run_body" = some (some (.ref f_Runs_run_body))) (l_Runs_run_body : K.lookup f_Runs_run_body = some ⟨oc_Runs_run_body, od_Runs_run_body, .func (PySem.W.fnOf "run_body" "Runs.run_body" (defArgs s_Runs_run_body) (defBody s_Runs_run_body) (defScope s_Runs_run_body) .none kV_Runs_run_body dc_Runs_run_body pm_Runs_run_body an_Runs_run_body cd_Runs_run_body ct_Runs_run_body), sl_Runs_run_body⟩) (c_Runs_run_body : PySem.W.codeIn K cd_Runs_run_body "Runs.run_body" = true) (k_Runs_run_body : PySem.W.keepIn K (.ref f_Runs_run_body) = true)
    (i_Runs_run_body : PySem.W.isFn K (.ref f_Runs_run_body) = true)
    (a_Runs_do_body : PySem.W.findIn K (.ref C_Runs) "do_body" = some (some (.ref f_Runs_do_body))) (l_Runs_do_body : K.lookup f_Runs_do_body = some ⟨oc_Runs_do_body, od_Runs_do_body, .func (PySem.W.fnOf "do_body" "Runs.do_body" (defArgs s_Runs_do_body) (defBody s_Runs_do_body) (defScope s_Runs_do_body) .none kV_Runs_do_body dc_Runs_do_body pm_Runs_do_body an_Runs_do_body cd_Runs_do_body ct_Runs_do_body), sl_Runs_do_body⟩) (c_Runs_do_body : PySem.W.codeIn K cd_Runs_do_body "Runs.do_body" = true) (k_Runs_do_body : PySem.W.keepIn K (.ref f_Runs_do_body) = true)
    (i_Runs_do_body : PySem.W.isFn K (.ref f_Runs_do_body) = true)
    (a_Runs_do : PySem.W.findIn K (.ref C_Runs) "do" = some (some (.ref f_Runs_do))) (l_Runs_do : K.lookup f_Runs_do = some ⟨oc_Runs_do, od_Runs_do, .func (PySem.W.fnOf "do" "Runs.do" (defArgs s_Runs_do) (defBody s_Runs_do) (defScope s_Runs_do) .none kV_Runs_do dc_Runs_do pm_Runs_do an_Runs_do cd_Runs_do ct_Runs_do), sl_Runs_do⟩) (c_Runs_do : PySem.W.codeIn K cd_Runs_do "Runs.do" = true) (k_Runs_do : PySem.W.keepIn K (.ref f_Runs_do) = true)
    (i_Runs_do : PySem.W.isFn K (.ref f_Runs_do) = true)
    (a_Runs_do_note : PySem.W.findIn K (.ref C_Runs) "do_note" = some (some (.ref f_Runs_do_note))) (l_Runs_do_note : K.lookup f_Runs_do_note = some ⟨oc_Runs_do_note, od_Runs_do_note, .func (PySem.W.fnOf "do_note" "Runs.do_note" (defArgs s_Runs_do_note) (defBody s_Runs_do_note) (defScope s_Runs_do_note) .none kV_Runs_do_note dc_Runs_do_note pm_Runs_do_note an_Runs_do_note cd_Runs_do_note ct_Runs_do_note), sl_Runs_do_note⟩) (c_Runs_do_note : PySem.W.codeIn K cd_Runs_do_note "Runs.do_note" = true) (k_Runs_do_note : PySem.W.keepIn K (.ref f_Runs_do_note) = true)
    (i_Runs_do_note : PySem.W.isFn K (.ref f_Runs_do_note) = true)
    (a_l_at : PySem.W.nsIn K mainGlobals "_law_at" = some (some (.ref f_l_at))) (l_l_at : K.lookup f_l_at = some ⟨oc_l_at, od_l_at, .func (PySem.W.fnOf "_law_at" "_law_at" (defArgs s_l_at) (defBody s_l_at) (defScope s_l_at) .none kV_l_at dc_l_at pm_l_at an_l_at cd_l_at ct_l_at), sl_l_at⟩) (c_l_at : PySem.W.codeIn K cd_l_at "_law_at" = true) (k_l_at : PySem.W.keepIn K (.ref f_l_at) = true)
    (a_l_pot : PySem.W.nsIn K mainGlobals "_law_pot" = some (some (.ref f_l_pot))) (l_l_pot : K.lookup f_l_pot = some ⟨oc_l_pot, od_l_pot, .func (PySem.W.fnOf "_law_pot" "_law_pot" (defArgs s_l_pot) (defBody s_l_pot) (defScope s_l_pot) .none kV_l_pot dc_l_pot pm_l_pot an_l_pot cd_l_pot ct_l_pot), sl_l_pot⟩) (c_l_pot : PySem.W.codeIn K cd_l_pot "_law_pot" = true) (k_l_pot : PySem.W.keepIn K (.ref f_l_pot) = true)
    (a_l_draw : PySem.W.nsIn K mainGlobals "_law_draw" = some (some (.ref f_l_draw))) (l_l_draw : K.lookup f_l_draw = some ⟨oc_l_draw, od_l_draw, .func (PySem.W.fnOf "_law_draw" "_law_draw" (defArgs s_l_draw) (defBody s_l_draw) (defScope s_l_draw) .none kV_l_draw dc_l_draw pm_l_draw an_l_draw cd_l_draw ct_l_draw), sl_l_draw⟩) (c_l_draw : PySem.W.codeIn K cd_l_draw "_law_draw" = true) (k_l_draw : PySem.W.keepIn K (.ref f_l_draw) = true)
    (a_l_name : PySem.W.nsIn K mainGlobals "_law_name" = some (some (.ref f_l_name))) (l_l_name : K.lookup f_l_name = some ⟨oc_l_name, od_l_name, .func (PySem.W.fnOf "_law_name" "_law_name" (defArgs s_l_name) (defBody s_l_name) (defScope s_l_name) .none kV_l_name dc_l_name pm_l_name an_l_name cd_l_name ct_l_name), sl_l_name⟩) (c_l_name : PySem.W.codeIn K cd_l_name "_law_name" = true) (k_l_name : PySem.W.keepIn K (.ref f_l_name) = true)
    (a_l_number : PySem.W.nsIn K mainGlobals "_law_number" = some (some (.ref f_l_number))) (l_l_number : K.lookup f_l_number = some ⟨oc_l_number, od_l_number, .func (PySem.W.fnOf "_law_number" "_law_number" (defArgs s_l_number) (defBody s_l_number) (defScope s_l_number) .none kV_l_number dc_l_number pm_l_number an_l_number cd_l_number ct_l_number), sl_l_number⟩) (c_l_number : PySem.W.codeIn K cd_l_number "_law_number" = true) (k_l_number : PySem.W.keepIn K (.ref f_l_number) = true)
    (a_l_row : PySem.W.nsIn K mainGlobals "_law_row" = some (some (.ref f_l_row))) (l_l_row : K.lookup f_l_row = some ⟨oc_l_row, od_l_row, .func (PySem.W.fnOf "_law_row" "_law_row" (defArgs s_l_row) (defBody s_l_row) (defScope s_l_row) .none kV_l_row dc_l_row pm_l_row an_l_row cd_l_row ct_l_row), sl_l_row⟩) (c_l_row : PySem.W.codeIn K cd_l_row "_law_row" = true) (k_l_row : PySem.W.keepIn K (.ref f_l_row) = true)
    (a_l_stock : PySem.W.nsIn K mainGlobals "_law_stock" = some (some (.ref f_l_stock))) (l_l_stock : K.lookup f_l_stock = some ⟨oc_l_stock, od_l_stock, .func (PySem.W.fnOf "_law_stock" "_law_stock" (defArgs s_l_stock) (defBody s_l_stock) (defScope s_l_stock) .none kV_l_stock dc_l_stock pm_l_stock an_l_stock cd_l_stock ct_l_stock), sl_l_stock⟩) (c_l_stock : PySem.W.codeIn K cd_l_stock "_law_stock" = true) (k_l_stock : PySem.W.keepIn K (.ref f_l_stock) = true)
    (a_l_dealt : PySem.W.nsIn K mainGlobals "_law_dealt" = some (some (.ref f_l_dealt))) (l_l_dealt : K.lookup f_l_dealt = some ⟨oc_l_dealt, od_l_dealt, .func (PySem.W.fnOf "_law_dealt" "_law_dealt" (defArgs s_l_dealt) (defBody s_l_dealt) (defScope s_l_dealt) .none kV_l_dealt dc_l_dealt pm_l_dealt an_l_dealt cd_l_dealt ct_l_dealt), sl_l_dealt⟩) (c_l_dealt : PySem.W.codeIn K cd_l_dealt "_law_dealt" = true) (k_l_dealt : PySem.W.keepIn K (.ref f_l_dealt) = true)
    (a_l_house : PySem.W.nsIn K mainGlobals "_law_house" = some (some (.ref f_l_house))) (l_l_house : K.lookup f_l_house = some ⟨oc_l_house, od_l_house, .func (PySem.W.fnOf "_law_house" "_law_house" (defArgs s_l_house) (defBody s_l_house) (defScope s_l_house) .none kV_l_house dc_l_house pm_l_house an_l_house cd_l_house ct_l_house), sl_l_house⟩) (c_l_house : PySem.W.codeIn K cd_l_house "_law_house" = true) (k_l_house : PySem.W.keepIn K (.ref f_l_house) = true)
    (a_l_done : PySem.W.nsIn K mainGlobals "_law_done" = some (some (.ref f_l_done))) (l_l_done : K.lookup f_l_done = some ⟨oc_l_done, od_l_done, .func (PySem.W.fnOf "_law_done" "_law_done" (defArgs s_l_done) (defBody s_l_done) (defScope s_l_done) .none kV_l_done dc_l_done pm_l_done an_l_done cd_l_done ct_l_done), sl_l_done⟩) (c_l_done : PySem.W.codeIn K cd_l_done "_law_done" = true) (k_l_done : PySem.W.keepIn K (.ref f_l_done) = true)
    (a_l_taken : PySem.W.nsIn K mainGlobals "_law_taken" = some (some (.ref f_l_taken))) (l_l_taken : K.lookup f_l_taken = some ⟨oc_l_taken, od_l_taken, .func (PySem.W.fnOf "_law_taken" "_law_taken" (defArgs s_l_taken) (defBody s_l_taken) (defScope s_l_taken) .none kV_l_taken dc_l_taken pm_l_taken an_l_taken cd_l_taken ct_l_taken), sl_l_taken⟩) (c_l_taken : PySem.W.codeIn K cd_l_taken "_law_taken" = true) (k_l_taken : PySem.W.keepIn K (.ref f_l_taken) = true)
    (a_l_right : PySem.W.nsIn K mainGlobals "_law_right" = some (some (.ref f_l_right))) (l_l_right : K.lookup f_l_right = some ⟨oc_l_right, od_l_right, .func (PySem.W.fnOf "_law_right" "_law_right" (defArgs s_l_right) (defBody s_l_right) (defScope s_l_right) .none kV_l_right dc_l_right pm_l_right an_l_right cd_l_right ct_l_right), sl_l_right⟩) (c_l_right : PySem.W.codeIn K cd_l_right "_law_right" = true) (k_l_right : PySem.W.keepIn K (.ref f_l_right) = true)
    (a_law : PySem.W.nsIn K mainGlobals "law" = some (some (.ref f_law))) (l_law : K.lookup f_law = some ⟨oc_law, od_law, .func (PySem.W.fnOf "law" "law" (defArgs s_law) (defBody s_law) (defScope s_law) .none kV_law dc_law pm_law an_law cd_law ct_law), sl_law⟩) (c_law : PySem.W.codeIn K cd_law "law" = true) (k_law : PySem.W.keepIn K (.ref f_law) = true)
    (z_len : PySem.W.nsIn K mainGlobals "len" = some none)
    (z_isinstance : PySem.W.nsIn K mainGlobals "isinstance" = some none)
    (z_str : PySem.W.nsIn K mainGlobals "str" = some none)
    (z_all : PySem.W.nsIn K mainGlobals "all" = some none)
    (z_bool : PySem.W.nsIn K mainGlobals "bool" = some none)
    (z_int : PySem.W.nsIn K mainGlobals "int" = some none)
    (z_tuple : PySem.W.nsIn K mainGlobals "tuple" = some none)
    (z_set : PySem.W.nsIn K mainGlobals "set" = some none)
    (z_sorted : PySem.W.nsIn K mainGlobals "sorted" = some none)
    (z_dict : PySem.W.nsIn K mainGlobals "dict" = some none)
    (z_list : PySem.W.nsIn K mainGlobals "list" = some none)
    (z_enumerate : PySem.W.nsIn K mainGlobals "enumerate" = some none)
    (z_max : PySem.W.nsIn K mainGlobals "max" = some none)
    (z_divmod : PySem.W.nsIn K mainGlobals "divmod" = some none)
    (z_range : PySem.W.nsIn K mainGlobals "range" = some none)
    (z_repr : PySem.W.nsIn K mainGlobals "repr" = some none)
    (v_MOST_LETTERS : PySem.W.nsIn K mainGlobals "MOST_LETTERS" = some (some (.int 8 t_MOST_LETTERS)))
    (v_LETTERS : PySem.W.nsIn K mainGlobals "LETTERS" = some (some (.str "abcdefghijklmnopqrstuvwxyz" t_LETTERS)))
    (v_DOT : PySem.W.nsIn K mainGlobals "DOT" = some (some (.str "." t_DOT)))
    (v_MOST_NAMES : PySem.W.nsIn K mainGlobals "MOST_NAMES" = some (some (.int 4 t_MOST_NAMES)))
    (v_MOST_ROWS : PySem.W.nsIn K mainGlobals "MOST_ROWS" = some (some (.int 40 t_MOST_ROWS)))
    (v_MOST_TRIES : PySem.W.nsIn K mainGlobals "MOST_TRIES" = some (some (.int 3 t_MOST_TRIES)))
    (v_FAULT_WORDS : PySem.W.nsIn K mainGlobals "FAULT_WORDS" = some (some (.ref a_FAULT_WORDS))) (y_FAULT_WORDS : K.lookup a_FAULT_WORDS = some o_FAULT_WORDS) (w_FAULT_WORDS : o_FAULT_WORDS.cls = .type "tuple" ∧ o_FAULT_WORDS.data = .seq i_FAULT_WORDS e_FAULT_WORDS ∧ i_FAULT_WORDS.size ≤ sizeLine ∧ Vals [.str "NOMODULE", .str "NONAME", .str "HALF", .str "FLAT", .str "NOTASK", .str "ALL"] i_FAULT_WORDS.toList)
    (v_LEADING : PySem.W.nsIn K mainGlobals "LEADING" = some (some (.ref a_LEADING))) (y_LEADING : K.lookup a_LEADING = some o_LEADING) (w_LEADING : o_LEADING.cls = .type "tuple" ∧ o_LEADING.data = .seq i_LEADING e_LEADING ∧ i_LEADING.size ≤ sizeLine ∧ Vals [.str "now", .str "take", .str "late", .str "ask"] i_LEADING.toList) :
    ∃ fd : FuncData, (∀ (s : Shared) (v : Value), BindsTo s fd ⟨[v], []⟩ [("_law_script", v)]) ∧ ∀ base : Heap, K.In base → base.Ns mainGlobals mg → FnG l.prog w K mg base 70 fa fd ["_law_script"] (spLaw K) := by
  have e := hfa.symm.trans (PySem.W.mg_of X G a_law)
  cases e
  have F_is_name := fun_mk (st := s_is_name) l_is_name c_is_name k_is_name
  have b_is_name := F_is_name.binds (ps := ["thing"]) fun _ _ _ _ _ _ us hl => match us, hl with | [_], _ => rfl
  have m_is_name := PySem.W.mg_of X G a_is_name
  have F_is_path := fun_mk (st := s_is_path) l_is_path c_is_path k_is_path
  have b_is_path := F_is_path.binds (ps := ["thing"]) fun _ _ _ _ _ _ us hl => match us, hl with | [_], _ => rfl
  have m_is_path := PySem.W.mg_of X G a_is_path
  have F_is_whole := fun_mk (st := s_is_whole) l_is_whole c_is_whole k_is_whole
  have b_is_whole := F_is_whole.binds (ps := ["thing"]) fun _ _ _ _ _ _ us hl => match us, hl with | [_], _ => rfl
  have m_is_whole := PySem.W.mg_of X G a_is_whole
  have F_is_word := fun_mk (st := s_is_word) l_is_word c_is_word k_is_word
  have b_is_word := F_is_word.binds (ps := ["thing"]) fun _ _ _ _ _ _ us hl => match us, hl with | [_], _ => rfl
  have m_is_word := PySem.W.mg_of X G a_is_word
  have F_are_words := fun_mk (st := s_are_words) l_are_words c_are_words k_are_words
  have b_are_words := F_are_words.binds (ps := ["thing"]) fun _ _ _ _ _ _ us hl => match us, hl with | [_], _ => rfl
  have m_are_words := PySem.W.mg_of X G a_are_words
  have F_is_bare := fun_mk (st := s_is_bare) l_is_bare c_is_bare k_is_bare
  have b_is_bare := F_is_bare.binds (ps := ["row"]) fun _ _ _ _ _ _ us hl => match us, hl with | [_], _ => rfl
  have m_is_bare := PySem.W.mg_of X G a_is_bare
  have F_is_row_within := fun_mk (st := s_is_row_within) l_is_row_within c_is_row_within k_is_row_within
  have b_is_row_within := F_is_row_within.binds (ps := ["thing", "tries"]) fun _ _ _ _ _ _ us hl => match us, hl with | [_, _], _ => rfl
  have m_is_row_within := PySem.W.mg_of X G a_is_row_within
  have F_are_rows := fun_mk (st := s_are_rows) l_are_rows c_are_rows k_are_rows
  have b_are_rows := F_are_rows.binds (ps := ["thing", "tries"]) fun _ _ _ _ _ _ us hl => match us, hl with | [_, _], _ => rfl
  have m_are_rows := PySem.W.mg_of X G a_are_rows
  have F_counted := fun_mk (st := s_counted) l_counted c_counted k_counted
  have b_counted := F_counted.binds (ps := ["body"]) fun _ _ _ _ _ _ us hl => match us, hl with | [_], _ => rfl
  have m_counted := PySem.W.mg_of X G a_counted
  have F_is_body := fun_mk (st := s_is_body) l_is_body c_is_body k_is_body
  have b_is_body := F_is_body.binds (ps := ["thing"]) fun _ _ _ _ _ _ us hl => match us, hl with | [_], _ => rfl
  have m_is_body := PySem.W.mg_of X G a_is_body
  have F_Module_init := fun_mk (st := s_Module_init) l_Module_init c_Module_init k_Module_init
  have b_Module_init := F_Module_init.binds (ps := ["self", "number", "path"]) fun _ _ _ _ _ _ us hl => match us, hl with | [_, _, _], _ => rfl
  have M_Module : Mk K C_Module f_Module_init := ⟨mk_Module, a_Module_init, i_Module_init, kc_Module⟩
  have F_Module_bind := fun_mk (st := s_Module_bind) l_Module_bind c_Module_bind k_Module_bind
  have b_Module_bind := F_Module_bind.binds (ps := ["self", "name", "thing"]) fun _ _ _ _ _ _ us hl => match us, hl with | [_, _, _], _ => rfl
  have mt_Module_bind : Meth K C_Module "bind" f_Module_bind := ⟨a_Module_bind, i_Module_bind, k_Module_bind⟩
  have F_Module_bound := fun_mk (st := s_Module_bound) l_Module_bound c_Module_bound k_Module_bound
  have b_Module_bound := F_Module_bound.binds (ps := ["self"]) fun _ _ _ _ _ _ us hl => match us, hl with | [_], _ => rfl
  have mt_Module_bound : Meth K C_Module "bound" f_Module_bound := ⟨a_Module_bound, i_Module_bound, k_Module_bound⟩
  have F_want_finders := fun_mk (st := s_want_finders) l_want_finders c_want_finders k_want_finders
  have b_want_finders := F_want_finders.binds (ps := ["finders"]) fun _ _ _ _ _ _ us hl => match us, hl with | [_], _ => rfl
  have m_want_finders := PySem.W.mg_of X G a_want_finders
  have F_want_path := fun_mk (st := s_want_path) l_want_path c_want_path k_want_path
  have b_want_path := F_want_path.binds (ps := ["path"]) fun _ _ _ _ _ _ us hl => match us, hl with | [_], _ => rfl
  have m_want_path := PySem.W.mg_of X G a_want_path
  have F_Runs_init := fun_mk (st := s_Runs_init) l_Runs_init c_Runs_init k_Runs_init
  have b_Runs_init := F_Runs_init.binds (ps := ["self", "finders"]) fun _ _ _ _ _ _ us hl => match us, hl with | [_, _], _ => rfl
  have M_Runs : Mk K C_Runs f_Runs_init := ⟨mk_Runs, a_Runs_init, i_Runs_init, kc_Runs⟩
  have F_Runs_take := fun_mk (st := s_Runs_take) l_Runs_take c_Runs_take k_Runs_take
  have b_Runs_take := F_Runs_take.binds (ps := ["self", "path"]) fun _ _ _ _ _ _ us hl => match us, hl with | [_, _], _ => rfl
  have mt_Runs_take : Meth K C_Runs "take" f_Runs_take := ⟨a_Runs_take, i_Runs_take, k_Runs_take⟩
  have F_Runs_log := fun_mk (st := s_Runs_log) l_Runs_log c_Runs_log k_Runs_log
  have b_Runs_log := F_Runs_log.binds (ps := ["self"]) fun _ _ _ _ _ _ us hl => match us, hl with | [_], _ => rfl
  have mt_Runs_log : Meth K C_Runs "log" f_Runs_log := ⟨a_Runs_log, i_Runs_log, k_Runs_log⟩
  have F_Runs_paper := fun_mk (st := s_Runs_paper) l_Runs_paper c_Runs_paper k_Runs_paper
  have b_Runs_paper := F_Runs_paper.binds (ps := ["self"]) fun _ _ _ _ _ _ us hl => match us, hl with | [_], _ => rfl
  have mt_Runs_paper : Meth K C_Runs "paper" f_Runs_paper := ⟨a_Runs_paper, i_Runs_paper, k_Runs_paper⟩
  have F_Runs_found := fun_mk (st := s_Runs_found) l_Runs_found c_Runs_found k_Runs_found
  have b_Runs_found := F_Runs_found.binds (ps := ["self", "path"]) fun _ _ _ _ _ _ us hl => match us, hl with | [_, _], _ => rfl
  have mt_Runs_found : Meth K C_Runs "found" f_Runs_found := ⟨a_Runs_found, i_Runs_found, k_Runs_found⟩
  have F_Runs_taken := fun_mk (st := s_Runs_taken) l_Runs_taken c_Runs_taken k_Runs_taken
  have b_Runs_taken := F_Runs_taken.binds (ps := ["self", "path"]) fun _ _ _ _ _ _ us hl => match us, hl with | [_, _], _ => rfl
  have mt_Runs_taken : Meth K C_Runs "taken" f_Runs_taken := ⟨a_Runs_taken, i_Runs_taken, k_Runs_taken⟩
  have F_Runs_taken_one := fun_mk (st := s_Runs_taken_one) l_Runs_taken_one c_Runs_taken_one k_Runs_taken_one
  have b_Runs_taken_one := F_Runs_taken_one.binds (ps := ["self", "path"]) fun _ _ _ _ _ _ us hl => match us, hl with | [_, _], _ => rfl
  have mt_Runs_taken_one : Meth K C_Runs "taken_one" f_Runs_taken_one := ⟨a_Runs_taken_one, i_Runs_taken_one, k_Runs_taken_one⟩
  have F_Runs_begin := fun_mk (st := s_Runs_begin) l_Runs_begin c_Runs_begin k_Runs_begin
  have b_Runs_begin := F_Runs_begin.binds (ps := ["self", "path", "body"]) fun _ _ _ _ _ _ us hl => match us, hl with | [_, _, _], _ => rfl
  have mt_Runs_begin : Meth K C_Runs "begin" f_Runs_begin := ⟨a_Runs_begin, i_Runs_begin, k_Runs_begin⟩
  have F_Runs_came_whole := fun_mk (st := s_Runs_came_whole) l_Runs_came_whole c_Runs_came_whole k_Runs_came_whole
  have b_Runs_came_whole := F_Runs_came_whole.binds (ps := ["self", "module"]) fun _ _ _ _ _ _ us hl => match us, hl with | [_, _], _ => rfl
  have mt_Runs_came_whole : Meth K C_Runs "came_whole" f_Runs_came_whole := ⟨a_Runs_came_whole, i_Runs_came_whole, k_Runs_came_whole⟩
  have F_Runs_run_body := fun_mk (st := s_Runs_run_body) l_Runs_run_body c_Runs_run_body k_Runs_run_body
  have b_Runs_run_body := F_Runs_run_body.binds (ps := ["self", "module", "body"]) fun _ _ _ _ _ _ us hl => match us, hl with | [_, _, _], _ => rfl
  have mt_Runs_run_body : Meth K C_Runs "run_body" f_Runs_run_body := ⟨a_Runs_run_body, i_Runs_run_body, k_Runs_run_body⟩
  have F_Runs_do_body := fun_mk (st := s_Runs_do_body) l_Runs_do_body c_Runs_do_body k_Runs_do_body
  have b_Runs_do_body := F_Runs_do_body.binds (ps := ["self", "body"]) fun _ _ _ _ _ _ us hl => match us, hl with | [_, _], _ => rfl
  have mt_Runs_do_body : Meth K C_Runs "do_body" f_Runs_do_body := ⟨a_Runs_do_body, i_Runs_do_body, k_Runs_do_body⟩
  have F_Runs_do := fun_mk (st := s_Runs_do) l_Runs_do c_Runs_do k_Runs_do
  have b_Runs_do := F_Runs_do.binds (ps := ["self", "row"]) fun _ _ _ _ _ _ us hl => match us, hl with | [_, _], _ => rfl
  have mt_Runs_do : Meth K C_Runs "do" f_Runs_do := ⟨a_Runs_do, i_Runs_do, k_Runs_do⟩
  have F_Runs_do_note := fun_mk (st := s_Runs_do_note) l_Runs_do_note c_Runs_do_note k_Runs_do_note
  have b_Runs_do_note := F_Runs_do_note.binds (ps := ["self", "path"]) fun _ _ _ _ _ _ us hl => match us, hl with | [_, _], _ => rfl
  have mt_Runs_do_note : Meth K C_Runs "do_note" f_Runs_do_note := ⟨a_Runs_do_note, i_Runs_do_note, k_Runs_do_note⟩
  have F_l_at := fun_mk (st := s_l_at) l_l_at c_l_at k_l_at
  have b_l_at := F_l_at.binds (ps := ["_law_script", "_law_k"]) fun _ _ _ _ _ _ us hl => match us, hl with | [_, _], _ => rfl
  have m_l_at := PySem.W.mg_of X G a_l_at
  have F_l_pot := fun_mk (st := s_l_pot) l_l_pot c_l_pot k_l_pot
  have b_l_pot := F_l_pot.binds (ps := ["_law_script", "_law_k"]) fun _ _ _ _ _ _ us hl => match us, hl with | [_, _], _ => rfl
  have m_l_pot := PySem.W.mg_of X G a_l_pot
  have F_l_draw := fun_mk (st := s_l_draw) l_l_draw c_l_draw k_l_draw
  have b_l_draw := F_l_draw.binds (ps := ["_law_pot_here", "_law_many"]) fun _ _ _ _ _ _ us hl => match us, hl with | [_, _], _ => rfl
  have m_l_draw := PySem.W.mg_of X G a_l_draw
  have F_l_name := fun_mk (st := s_l_name) l_l_name c_l_name k_l_name
  have b_l_name := F_l_name.binds (ps := ["_law_pot_here", "_law_taken_here"]) fun _ _ _ _ _ _ us hl => match us, hl with | [_, _], _ => rfl
  have m_l_name := PySem.W.mg_of X G a_l_name
  have F_l_number := fun_mk (st := s_l_number) l_l_number c_l_number k_l_number
  have b_l_number := F_l_number.binds (ps := ["_law_pot_here"]) fun _ _ _ _ _ _ us hl => match us, hl with | [_], _ => rfl
  have m_l_number := PySem.W.mg_of X G a_l_number
  have F_l_row := fun_mk (st := s_l_row) l_l_row c_l_row k_l_row
  have b_l_row := F_l_row.binds (ps := ["_law_pot_here", "_law_paths", "_law_names"]) fun _ _ _ _ _ _ us hl => match us, hl with | [_, _, _], _ => rfl
  have m_l_row := PySem.W.mg_of X G a_l_row
  have F_l_stock := fun_mk (st := s_l_stock) l_l_stock c_l_stock k_l_stock
  have b_l_stock := F_l_stock.binds (ps := ["_law_pot_here"]) fun _ _ _ _ _ _ us hl => match us, hl with | [_], _ => rfl
  have m_l_stock := PySem.W.mg_of X G a_l_stock
  have F_l_dealt := fun_mk (st := s_l_dealt) l_l_dealt c_l_dealt k_l_dealt
  have b_l_dealt := F_l_dealt.binds (ps := ["_law_pot_here", "_law_stock_here"]) fun _ _ _ _ _ _ us hl => match us, hl with | [_, _], _ => rfl
  have m_l_dealt := PySem.W.mg_of X G a_l_dealt
  have F_l_house := fun_mk (st := s_l_house) l_l_house c_l_house k_l_house
  have b_l_house := F_l_house.binds (ps := ["_law_stock_here"]) fun _ _ _ _ _ _ us hl => match us, hl with | [_], _ => rfl
  have m_l_house := PySem.W.mg_of X G a_l_house
  have F_l_done := fun_mk (st := s_l_done) l_l_done c_l_done k_l_done
  have b_l_done := F_l_done.binds (ps := ["_law_house_here", "_law_number_here", "_law_row_here"]) fun _ _ _ _ _ _ us hl => match us, hl with | [_, _, _], _ => rfl
  have m_l_done := PySem.W.mg_of X G a_l_done
  have F_l_taken := fun_mk (st := s_l_taken) l_l_taken c_l_taken k_l_taken
  have b_l_taken := F_l_taken.binds (ps := ["_law_house_here", "_law_path"]) fun _ _ _ _ _ _ us hl => match us, hl with | [_, _], _ => rfl
  have m_l_taken := PySem.W.mg_of X G a_l_taken
  have F_l_right := fun_mk (st := s_l_right) l_l_right c_l_right k_l_right
  have b_l_right := F_l_right.binds (ps := ["_law_house_here", "_law_own"]) fun _ _ _ _ _ _ us hl => match us, hl with | [_, _], _ => rfl
  have m_l_right := PySem.W.mg_of X G a_l_right
  have F_law := fun_mk (st := s_law) l_law c_law k_law
  have b_law := F_law.binds (ps := ["_law_script"]) fun _ _ _ _ _ _ us hl => match us, hl with | [_], _ => rfl
  have m_law := PySem.W.mg_of X G a_law
  have n_len := PySem.W.mg_none_of X G z_len
  have n_isinstance := PySem.W.mg_none_of X G z_isinstance
  have n_str := PySem.W.mg_none_of X G z_str
  have n_all := PySem.W.mg_none_of X G z_all
  have n_bool := PySem.W.mg_none_of X G z_bool
  have n_int := PySem.W.mg_none_of X G z_int
  have n_tuple := PySem.W.mg_none_of X G z_tuple
  have n_set := PySem.W.mg_none_of X G z_set
  have n_sorted := PySem.W.mg_none_of X G z_sorted
  have n_dict := PySem.W.mg_none_of X G z_dict
  have n_list := PySem.W.mg_none_of X G z_list
  have n_enumerate := PySem.W.mg_none_of X G z_enumerate
  have n_max := PySem.W.mg_none_of X G z_max
  have n_divmod := PySem.W.mg_none_of X G z_divmod
  have n_range := PySem.W.mg_none_of X G z_range
  have n_repr := PySem.W.mg_none_of X G z_repr
  have g_MOST_LETTERS := PySem.W.mg_of X G v_MOST_LETTERS
  have g_LETTERS := PySem.W.mg_of X G v_LETTERS
  have g_DOT := PySem.W.mg_of X G v_DOT
  have g_MOST_NAMES := PySem.W.mg_of X G v_MOST_NAMES
  have g_FAULT_WORDS := PySem.W.mg_of X G v_FAULT_WORDS
  have q_FAULT_WORDS : ∀ H, SqT K H a_FAULT_WORDS [.str "NOMODULE", .str "NONAME", .str "HALF", .str "FLAT", .str "NOTASK", .str "ALL"] := fun H => .inr ⟨o_FAULT_WORDS, i_FAULT_WORDS, e_FAULT_WORDS, y_FAULT_WORDS, w_FAULT_WORDS.1, w_FAULT_WORDS.2.1, w_FAULT_WORDS.2.2.1, w_FAULT_WORDS.2.2.2⟩
  have g_LEADING := PySem.W.mg_of X G v_LEADING
  have q_LEADING : ∀ H, SqT K H a_LEADING [.str "now", .str "take", .str "late", .str "ask"] := fun H => .inr ⟨o_LEADING, i_LEADING, e_LEADING, y_LEADING, w_LEADING.1, w_LEADING.2.1, w_LEADING.2.2.1, w_LEADING.2.2.2⟩
  have g_MOST_ROWS := PySem.W.mg_of X G v_MOST_ROWS
  have g_MOST_TRIES := PySem.W.mg_of X G v_MOST_TRIES
  refine ⟨PySem.W.fnOf "law" "law" (defArgs s_law) (defBody s_law) (defScope s_law) .none kV_law dc_law pm_law an_law cd_law ct_law, fun s v => .of_eq rfl, fun base _ _ => ?_⟩
  have T : Txt K mg C_Module C_Runs := ⟨⟨pg_Module, hd_Module, po_Module, sa_Module⟩, PySem.W.mg_of X G aC_Module, nA_Module_number, nA_Module_path, nA_Module_things, ⟨pg_Runs, hd_Runs, po_Runs, sa_Runs⟩, PySem.W.mg_of X G aC_Runs, nA_Runs_shelves, nA_Runs_standing, nA_Runs_made, nA_Runs_line, nA_Runs_broken, nA_Runs_met, nA_Runs_fates, nA_Runs_notes, nA_Runs_waits, n_len, n_isinstance, n_str, n_all, n_bool, n_int, n_tuple, n_set, n_sorted, n_dict, n_list, n_enumerate, n_max, n_divmod, n_range, n_repr, ⟨_, g_MOST_LETTERS⟩, ⟨_, g_LETTERS⟩, ⟨_, g_DOT⟩, ⟨_, g_MOST_NAMES⟩, ⟨_, g_FAULT_WORDS, q_FAULT_WORDS⟩, ⟨_, g_LEADING, q_LEADING⟩, ⟨_, g_MOST_ROWS⟩, ⟨_, g_MOST_TRIES⟩⟩
  have D_l_at : DnF l.prog w K mg base 1 "_law_at" ["_law_script", "_law_k"] (spAt K) := ⟨_, _, ok_at F_l_at T, m_l_at, k_l_at, b_l_at⟩
  have D_l_pot : DnF l.prog w K mg base 2 "_law_pot" ["_law_script", "_law_k"] (spPot K) := ⟨_, _, ok_pot F_l_pot T D_l_at, m_l_pot, k_l_pot, b_l_pot⟩
  have D_l_draw : DnF l.prog w K mg base 1 "_law_draw" ["_law_pot_here", "_law_many"] spDraw := ⟨_, _, ok_draw F_l_draw T, m_l_draw, k_l_draw, b_l_draw⟩
  have D_Module_init : DkF l.prog w K mg base 1 C_Module ["self", "number", "path"] (spMInit C_Module) := ⟨_, _, ok_m_init F_Module_init T, M_Module, b_Module_init⟩
  have D_Module_bind : DmF l.prog w K mg base 1 C_Module "bind" ["self", "name", "thing"] (spBind C_Module) := ⟨_, _, ok_bind F_Module_bind T, mt_Module_bind, b_Module_bind⟩
  have D_Module_bound : DmF l.prog w K mg base 1 C_Module "bound" ["self"] (spBound C_Module) := ⟨_, _, ok_bound F_Module_bound T, mt_Module_bound, b_Module_bound⟩
  have D_l_name : DnF l.prog w K mg base 2 "_law_name" ["_law_pot_here", "_law_taken_here"] spName := ⟨_, _, ok_l_name F_l_name T D_l_draw, m_l_name, k_l_name, b_l_name⟩
  have D_l_number : DnF l.prog w K mg base 2 "_law_number" ["_law_pot_here"] spNumber := ⟨_, _, ok_l_number F_l_number T D_l_draw, m_l_number, k_l_number, b_l_number⟩
  have D_l_row : DnF l.prog w K mg base 3 "_law_row" ["_law_pot_here", "_law_paths", "_law_names"] (spRow K) := ⟨_, _, ok_l_row F_l_row T D_l_draw D_l_number, m_l_row, k_l_row, b_l_row⟩
  have D_l_stock : DnF l.prog w K mg base 4 "_law_stock" ["_law_pot_here"] (spStock K) := ⟨_, _, ok_l_stock F_l_stock T D_l_draw D_l_name D_l_row, m_l_stock, k_l_stock, b_l_stock⟩
  have D_l_dealt : DnF l.prog w K mg base 2 "_law_dealt" ["_law_pot_here", "_law_stock_here"] (spDealt K) := ⟨_, _, ok_l_dealt F_l_dealt T D_l_draw, m_l_dealt, k_l_dealt, b_l_dealt⟩
  have D_is_name : DnF l.prog w K mg base 1 "is_name" ["thing"] (spIsName K) := ⟨_, _, ok_is_name F_is_name T, m_is_name, k_is_name, b_is_name⟩
  have D_is_path : DnF l.prog w K mg base 2 "is_path" ["thing"] (spIsPath K) := ⟨_, _, ok_is_path F_is_path T D_is_name, m_is_path, k_is_path, b_is_path⟩
  have D_is_whole : DnF l.prog w K mg base 1 "is_whole" ["thing"] (spIsWhole K) := ⟨_, _, ok_is_whole F_is_whole T, m_is_whole, k_is_whole, b_is_whole⟩
  have D_is_word : DnF l.prog w K mg base 2 "is_word" ["thing"] spIsWord := ⟨_, _, ok_is_word F_is_word T D_is_name, m_is_word, k_is_word, b_is_word⟩
  have D_are_words : DnF l.prog w K mg base 3 "are_words" ["thing"] (spAreWords K) := ⟨_, _, ok_are_words F_are_words T D_is_word, m_are_words, k_are_words, b_are_words⟩
  have D_is_bare : DnF l.prog w K mg base 3 "is_bare" ["row"] (spIsBare K) := ⟨_, _, ok_is_bare F_is_bare T D_is_name D_is_path D_is_whole, m_is_bare, k_is_bare, b_is_bare⟩
  have D_are_rows : DnF l.prog w K mg base 11 "are_rows" ["thing", "tries"] (spAreRows K 3) := ⟨_, _, are_rows_all F_are_rows F_is_row_within T D_is_bare D_are_words m_are_rows k_are_rows b_are_rows m_is_row_within k_is_row_within b_is_row_within 3, m_are_rows, k_are_rows, b_are_rows⟩
  have D_counted : DnF l.prog w K mg base 4 "counted" ["body"] (spCounted K 3) := ⟨_, _, counted_all F_counted m_counted k_counted b_counted 3, m_counted, k_counted, b_counted⟩
  have D_is_body : DnF l.prog w K mg base 12 "is_body" ["thing"] (spIsBody K) := ⟨_, _, ok_is_body F_is_body T D_are_rows D_counted, m_is_body, k_is_body, b_is_body⟩
  have D_Runs_found : DmF l.prog w K mg base 1 C_Runs "found" ["self", "path"] (spFound K C_Runs C_Module) := ⟨_, _, ok_Runs_found F_Runs_found T, mt_Runs_found, b_Runs_found⟩
  have D_Runs_came_whole : DmF l.prog w K mg base 1 C_Runs "came_whole" ["self", "module"] (spWholeR C_Runs) := ⟨_, _, ok_Runs_came_whole F_Runs_came_whole T, mt_Runs_came_whole, b_Runs_came_whole⟩
  have D_Runs_do_note : DmF l.prog w K mg base 2 C_Runs "do_note" ["self", "path"] (spNoteR K C_Runs C_Module) := ⟨_, _, ok_Runs_do_note F_Runs_do_note T D_Module_bound, mt_Runs_do_note, b_Runs_do_note⟩
  have D_want_path : DnF l.prog w K mg base 3 "want_path" ["path"] (spWantPath K) := ⟨_, _, ok_want_path F_want_path T D_is_path, m_want_path, k_want_path, b_want_path⟩
  have D_want_finders : DnF l.prog w K mg base 13 "want_finders" ["finders"] (spWantFinders K) := ⟨_, _, ok_want_finders F_want_finders T D_is_path D_is_body, m_want_finders, k_want_finders, b_want_finders⟩
  have D_Runs_log : DmF l.prog w K mg base 1 C_Runs "log" ["self"] (spLogR K C_Runs C_Module) := ⟨_, _, ok_Runs_log F_Runs_log T, mt_Runs_log, b_Runs_log⟩
  have D_Runs_paper : DmF l.prog w K mg base 1 C_Runs "paper" ["self"] (spPaperR K C_Runs C_Module) := ⟨_, _, ok_Runs_paper F_Runs_paper T, mt_Runs_paper, b_Runs_paper⟩
  have D_Runs_taken := taken_all (P := l.prog) (w := w) (base := base) T F_Runs_do F_Runs_do_body F_Runs_run_body F_Runs_begin F_Runs_taken_one F_Runs_taken D_Module_bind D_Module_init D_Runs_found D_Runs_came_whole D_Runs_do_note mt_Runs_do b_Runs_do mt_Runs_do_body b_Runs_do_body mt_Runs_run_body b_Runs_run_body mt_Runs_begin b_Runs_begin mt_Runs_taken_one b_Runs_taken_one mt_Runs_taken b_Runs_taken 9
  have D_Runs_take : DmF l.prog w K mg base 65 C_Runs "take" ["self", "path"] (spTakeR K C_Runs C_Module) := ⟨_, _, ok_Runs_take F_Runs_take T D_want_path D_Runs_taken, mt_Runs_take, b_Runs_take⟩
  have D_Runs_init : DkF l.prog w K mg base 14 C_Runs ["self", "finders"] (spRInit K C_Runs C_Module) := ⟨_, _, ok_Runs_init F_Runs_init T D_want_finders, M_Runs, b_Runs_init⟩
  have D_l_house : DnF l.prog w K mg base 1 "_law_house" ["_law_stock_here"] (spHouseL K) := ⟨_, _, ok_l_house F_l_house T, m_l_house, k_l_house, b_l_house⟩
  have D_l_taken := ltaken_all (P := l.prog) (w := w) (base := base) T F_l_taken F_l_done m_l_taken k_l_taken b_l_taken m_l_done k_l_done b_l_done 9
  have D_l_right : DnG l.prog w K mg base 2 "_law_right" ["_law_house_here", "_law_own"] (spRight K C_Runs C_Module) := ⟨_, _, ok_l_right F_l_right T D_Runs_paper D_Runs_log, m_l_right, k_l_right, b_l_right⟩
  exact ok_law F_law T D_l_pot D_l_stock D_l_dealt D_l_house D_l_at D_l_taken D_l_right D_Runs_init D_Runs_paper D_Runs_log D_Runs_take
end K31
open PySem PySem.W PyProof.Rows in
set_option maxRecDepth 100000 in
set_option maxHeartbeats 0 in
theorem PySem.Challenge.cw_halfmade_k31_whole_runs_in_order_holds : PySem.Challenge.rw_halfmade_k31_whole_runs_in_order.Holds := by
  w_on; o_law; k_head; (case hw => w_witness2)
  k_fill
  refine HL.walk_ofG (l := PySem.Challenge.rw_halfmade_k31_whole_runs_in_order) (n := 63) (k := 70) (x := "_law_script") (sp := fun w => K31.spLaw _) rfl (by decide) rfl ⟨rfl, by decide, by decide⟩ (fun w h Y => PySem.W.kIn_of Y) ?F (fun _ _ a ns hl _ hS => ⟨a, ns, rfl, hS, hl, fun _ => rfl⟩)
  case F =>
    intro w mg fa h KX G hmg
    refine' K31.all_mk KX G hmg ?aC_Module ?pg_Module ?hd_Module ?po_Module ?sa_Module ?mk_Module ?kc_Module ?nA_Module_number ?nA_Module_path ?nA_Module_things ?aC_Runs ?pg_Runs ?hd_Runs ?po_Runs ?sa_Runs ?mk_Runs ?kc_Runs ?nA_Runs_shelves ?nA_Runs_standing ?nA_Runs_made ?nA_Runs_line ?nA_Runs_broken ?nA_Runs_met ?nA_Runs_fates ?nA_Runs_notes ?nA_Runs_waits ?a_is_name ?l_is_name ?c_is_name ?k_is_name ?a_is_path ?l_is_path ?c_is_path ?k_is_path ?a_is_whole ?l_is_whole ?c_is_whole ?k_is_whole ?a_is_word ?l_is_word ?c_is_word ?k_is_word ?a_are_words ?l_are_words ?c_are_words ?k_are_words ?a_is_bare ?l_is_bare ?c_is_bare ?k_is_bare ?a_is_row_within ?l_is_row_within ?c_is_row_within ?k_is_row_within ?a_are_rows ?l_are_rows ?c_are_rows ?k_are_rows ?a_counted ?l_counted ?c_counted ?k_counted ?a_is_body ?l_is_body ?c_is_body ?k_is_body ?a_Module_init ?l_Module_init ?c_Module_init ?k_Module_init ?i_Module_init ?a_Module_bind ?l_Module_bind ?c_Module_bind ?k_Module_bind ?i_Module_bind ?a_Module_bound ?l_Module_bound ?c_Module_bound ?k_Module_bound ?i_Module_bound ?a_want_finders ?l_want_finders ?c_want_finders ?k_want_finders ?a_want_path ?l_want_path ?c_want_path ?k_want_path ?a_Runs_init ?l_Runs_init ?c_Runs_init ?k_Runs_init ?i_Runs_init ?a_Runs_take ?l_Runs_take ?c_Runs_take ?k_Runs_take ?i_Runs_take ?a_Runs_log ?l_Runs_log ?c_Runs_log ?k_Runs_log ?i_Runs_log ?a_Runs_paper ?l_Runs_paper ?c_Runs_paper ?k_Runs_paper ?i_Runs_paper ?a_Runs_found ?l_Runs_found ?c_Runs_found ?k_Runs_found ?i_Runs_found ?a_Runs_taken ?l_Runs_taken ?c_Runs_taken ?k_Runs_taken ?i_Runs_taken ?a_Runs_taken_one ?l_Runs_taken_one ?c_Runs_taken_one ?k_Runs_taken_one ?i_Runs_taken_one ?a_Runs_begin ?l_Runs_begin ?c_Runs_begin ?k_Runs_begin ?i_Runs_begin ?a_Runs_came_whole ?l_Runs_came_whole ?c_Runs_came_whole ?k_Runs_came_whole ?i_Runs_came_whole ?a_Runs_run_body ?l_Runs_run_body ?c_Runs_run_body ?k_Runs_run_body ?i_Runs_run_body ?a_Runs_do_body ?l_Runs_do_body ?c_Runs_do_body ?k_Runs_do_body ?i_Runs_do_body ?a_Runs_do ?l_Runs_do ?c_Runs_do ?k_Runs_do ?i_Runs_do ?a_Runs_do_note ?l_Runs_do_note ?c_Runs_do_note ?k_Runs_do_note ?i_Runs_do_note ?a_l_at ?l_l_at ?c_l_at ?k_l_at ?a_l_pot ?l_l_pot ?c_l_pot ?k_l_pot ?a_l_draw ?l_l_draw ?c_l_draw ?k_l_draw ?a_l_name ?l_l_name ?c_l_name ?k_l_name ?a_l_number ?l_l_number ?c_l_number ?k_l_number ?a_l_row ?l_l_row ?c_l_row ?k_l_row ?a_l_stock ?l_l_stock ?c_l_stock ?k_l_stock ?a_l_dealt ?l_l_dealt ?c_l_dealt ?k_l_dealt ?a_l_house ?l_l_house ?c_l_house ?k_l_house ?a_l_done ?l_l_done ?c_l_done ?k_l_done ?a_l_taken ?l_l_taken ?c_l_taken ?k_l_taken ?a_l_right ?l_l_right ?c_l_right ?k_l_right ?a_law ?l_law ?c_law ?k_law ?z_len ?z_isinstance ?z_str ?z_all ?z_bool ?z_int ?z_tuple ?z_set ?z_sorted ?z_dict ?z_list ?z_enumerate ?z_max ?z_divmod ?z_range ?z_repr ?v_MOST_LETTERS ?v_LETTERS ?v_DOT ?v_MOST_NAMES ?v_MOST_ROWS ?v_MOST_TRIES ?v_FAULT_WORDS ?y_FAULT_WORDS ?w_FAULT_WORDS ?v_LEADING ?y_LEADING ?w_LEADING
    (case aC_Module => k_is)
    (case pg_Module => k_is)
    (case hd_Module => k_is)
    (case po_Module => k_is)
    (case sa_Module => k_is)
    (case mk_Module => k_is)
    (case kc_Module => k_is)
    (case nA_Module_number => k_is)
    (case nA_Module_path => k_is)
    (case nA_Module_things => k_is)
    (case aC_Runs => k_is)
    (case pg_Runs => k_is)
    (case hd_Runs => k_is)
    (case po_Runs => k_is)
    (case sa_Runs => k_is)
    (case mk_Runs => k_is)
    (case kc_Runs => k_is)
    (case nA_Runs_shelves => k_is)
    (case nA_Runs_standing => k_is)
    (case nA_Runs_made => k_is)
    (case nA_Runs_line => k_is)
    (case nA_Runs_broken => k_is)
    (case nA_Runs_met => k_is)
    (case nA_Runs_fates => k_is)
    (case nA_Runs_notes => k_is)
    (case nA_Runs_waits => k_is)
    (case a_is_name => k_is)
    (case l_is_name => k_is)
    (case c_is_name => k_is)
    (case k_is_name => k_is)
    (case a_is_path => k_is)
    (case l_is_path => k_is)
    (case c_is_path => k_is)
    (case k_is_path => k_is)
    (case a_is_whole => k_is)
    (case l_is_whole => k_is)
    (case c_is_whole => k_is)
    (case k_is_whole => k_is)
    (case a_is_word => k_is)
    (case l_is_word => k_is)
    (case c_is_word => k_is)
    (case k_is_word => k_is)
    (case a_are_words => k_is)
    (case l_are_words => k_is)
    (case c_are_words => k_is)
    (case k_are_words => k_is)
    (case a_is_bare => k_is)
    (case l_is_bare => k_is)
    (case c_is_bare => k_is)
    (case k_is_bare => k_is)
    (case a_is_row_within => k_is)
    (case l_is_row_within => k_is)
    (case c_is_row_within => k_is)
    (case k_is_row_within => k_is)
    (case a_are_rows => k_is)
    (case l_are_rows => k_is)
    (case c_are_rows => k_is)
    (case k_are_rows => k_is)
    (case a_counted => k_is)
    (case l_counted => k_is)
    (case c_counted => k_is)
    (case k_counted => k_is)
    (case a_is_body => k_is)
    (case l_is_body => k_is)
    (case c_is_body => k_is)
    (case k_is_body => k_is)
    (case a_Module_init => k_is)
    (case l_Module_init => k_is)
    (case c_Module_init => k_is)
    (case k_Module_init => k_is)
    (case i_Module_init => k_is)
    (case a_Module_bind => k_is)
    (case l_Module_bind => k_is)
    (case c_Module_bind => k_is)
    (case k_Module_bind => k_is)
    (case i_Module_bind => k_is)
    (case a_Module_bound => k_is)
    (case l_Module_bound => k_is)
    (case c_Module_bound => k_is)
    (case k_Module_bound => k_is)
    (case i_Module_bound => k_is)
    (case a_want_finders => k_is)
    (case l_want_finders => k_is)
    (case c_want_finders => k_is)
    (case k_want_finders => k_is)
    (case a_want_path => k_is)
    (case l_want_path => k_is)
    (case c_want_path => k_is)
    (case k_want_path => k_is)
    (case a_Runs_init => k_is)
    (case l_Runs_init => k_is)
    (case c_Runs_init => k_is)
    (case k_Runs_init => k_is)
    (case i_Runs_init => k_is)
    (case a_Runs_take => k_is)
    (case l_Runs_take => k_is)
    (case c_Runs_take => k_is)
    (case k_Runs_take => k_is)
    (case i_Runs_take => k_is)
    (case a_Runs_log => k_is)
    (case l_Runs_log => k_is)
    (case c_Runs_log => k_is)
    (case k_Runs_log => k_is)
    (case i_Runs_log => k_is)
    (case a_Runs_paper => k_is)
    (case l_Runs_paper => k_is)
    (case c_Runs_paper => k_is)
    (case k_Runs_paper => k_is)
    (case i_Runs_paper => k_is)
    (case a_Runs_found => k_is)
    (case l_Runs_found => k_is)
    (case c_Runs_found => k_is)
    (case k_Runs_found => k_is)
    (case i_Runs_found => k_is)
    (case a_Runs_taken => k_is)
    (case l_Runs_taken => k_is)
    (case c_Runs_taken => k_is)
    (case k_Runs_taken => k_is)
    (case i_Runs_taken => k_is)
    (case a_Runs_taken_one => k_is)
    (case l_Runs_taken_one => k_is)
    (case c_Runs_taken_one => k_is)
    (case k_Runs_taken_one => k_is)
    (case i_Runs_taken_one => k_is)
    (case a_Runs_begin => k_is)
    (case l_Runs_begin => k_is)
    (case c_Runs_begin => k_is)
    (case k_Runs_begin => k_is)
    (case i_Runs_begin => k_is)
    (case a_Runs_came_whole => k_is)
    (case l_Runs_came_whole => k_is)
    (case c_Runs_came_whole => k_is)
    (case k_Runs_came_whole => k_is)
    (case i_Runs_came_whole => k_is)
    (case a_Runs_run_body => k_is)
    (case l_Runs_run_body => k_is)
    (case c_Runs_run_body => k_is)
    (case k_Runs_run_body => k_is)
    (case i_Runs_run_body => k_is)
    (case a_Runs_do_body => k_is)
    (case l_Runs_do_body => k_is)
    (case c_Runs_do_body => k_is)
    (case k_Runs_do_body => k_is)
    (case i_Runs_do_body => k_is)
    (case a_Runs_do => k_is)
    (case l_Runs_do => k_is)
    (case c_Runs_do => k_is)
    (case k_Runs_do => k_is)
    (case i_Runs_do => k_is)
    (case a_Runs_do_note => k_is)
    (case l_Runs_do_note => k_is)
    (case c_Runs_do_note => k_is)
    (case k_Runs_do_note => k_is)
    (case i_Runs_do_note => k_is)
    (case a_l_at => k_is)
    (case l_l_at => k_is)
    (case c_l_at => k_is)
    (case k_l_at => k_is)
    (case a_l_pot => k_is)
    (case l_l_pot => k_is)
    (case c_l_pot => k_is)
    (case k_l_pot => k_is)
    (case a_l_draw => k_is)
    (case l_l_draw => k_is)
    (case c_l_draw => k_is)
    (case k_l_draw => k_is)
    (case a_l_name => k_is)
    (case l_l_name => k_is)
    (case c_l_name => k_is)
    (case k_l_name => k_is)
    (case a_l_number => k_is)
    (case l_l_number => k_is)
    (case c_l_number => k_is)
    (case k_l_number => k_is)
    (case a_l_row => k_is)
    (case l_l_row => k_is)
    (case c_l_row => k_is)
    (case k_l_row => k_is)
    (case a_l_stock => k_is)
    (case l_l_stock => k_is)
    (case c_l_stock => k_is)
    (case k_l_stock => k_is)
    (case a_l_dealt => k_is)
    (case l_l_dealt => k_is)
    (case c_l_dealt => k_is)
    (case k_l_dealt => k_is)
    (case a_l_house => k_is)
    (case l_l_house => k_is)
    (case c_l_house => k_is)
    (case k_l_house => k_is)
    (case a_l_done => k_is)
    (case l_l_done => k_is)
    (case c_l_done => k_is)
    (case k_l_done => k_is)
    (case a_l_taken => k_is)
    (case l_l_taken => k_is)
    (case c_l_taken => k_is)
    (case k_l_taken => k_is)
    (case a_l_right => k_is)
    (case l_l_right => k_is)
    (case c_l_right => k_is)
    (case k_l_right => k_is)
    (case a_law => k_is)
    (case l_law => k_is)
    (case c_law => k_is)
    (case k_law => k_is)
    (case z_len => k_is)
    (case z_isinstance => k_is)
    (case z_str => k_is)
    (case z_all => k_is)
    (case z_bool => k_is)
    (case z_int => k_is)
    (case z_tuple => k_is)
    (case z_set => k_is)
    (case z_sorted => k_is)
    (case z_dict => k_is)
    (case z_list => k_is)
    (case z_enumerate => k_is)
    (case z_max => k_is)
    (case z_divmod => k_is)
    (case z_range => k_is)
    (case z_repr => k_is)
    (case v_MOST_LETTERS => k_is)
    (case v_LETTERS => k_is)
    (case v_DOT => k_is)
    (case v_MOST_NAMES => k_is)
    (case v_MOST_ROWS => k_is)
    (case v_MOST_TRIES => k_is)
    (case v_FAULT_WORDS => k_is)
    (case y_FAULT_WORDS => k_is)
    (case w_FAULT_WORDS => exact ⟨rfl, rfl, by decide, (.cons ⟨_, rfl⟩ (.cons ⟨_, rfl⟩ (.cons ⟨_, rfl⟩ (.cons ⟨_, rfl⟩ (.cons ⟨_, rfl⟩ (.cons ⟨_, rfl⟩ .nil))))))⟩)
    (case v_LEADING => k_is)
    (case y_LEADING => k_is)
    (case w_LEADING => exact ⟨rfl, rfl, by decide, (.cons ⟨_, rfl⟩ (.cons ⟨_, rfl⟩ (.cons ⟨_, rfl⟩ (.cons ⟨_, rfl⟩ .nil))))⟩)

