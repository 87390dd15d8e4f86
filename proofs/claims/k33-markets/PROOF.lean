import PyProof.Rows.All
import Wide.All
import OpenK.AllK
import Wide.FinOn
import HandS.ForMost
import HandS.ForExc
import HandS.Wide
import HandS.Deep
import HandS.IsInst
import HandS.Zip
import HandS.CallSlots
import HandS.ExcCtx
import HandS.ExcIs
import HandS.HotCalls
import HandS.Dict
import HandS.Conv
import HandS.SetFor
import HandS.Strs
import HandS.Text
import HandS.Style
import PyProof.Rows.StrRev
import HandS.TupAny
import HandS.WideBits
import KE.KTupSum
import PyProof.StrOps2
import HandS.TupMul
import KE.GoesEnum
import HandS.Iter
import HandS.WordsExc
import HandS.Ends
import KE.IntTextLaws
import KE.KIntText
import PySem.Challenge.RW_wishmart_k33_markets_as_texts
set_option Elab.async false
set_option linter.all false
set_option maxRecDepth 100000
set_option autoImplicit false
set_option maxHeartbeats 4000003
/-! WM: a comprehension where an exception is handled. -/
namespace WM
open PySem PySem.Spec PyProof.Rows L2 L2H
abbrev hblk (X : Cx) (s : Shared) (H : Hp) (scope : Scope) (ce : PySem.Env) (fp : List Addr) : Cx := (X.blk s H scope ce fp).tr X.pn fun _ _ => False
section
variable {X : Cx}
theorem hot_blk (hc : HotC X) (s : Shared) (H : Hp) (scope : Scope) (ce : PySem.Env) (fp : List Addr) : HotC (hblk X s H scope ce fp) := hc
theorem start_hot {pins : List (Addr × Obj)} {σ : L2.St} {H : Hp} {s : Shared} {scope : Scope} {own : List (Str × Nat)} {fp : List Addr} (I : Inv X pins σ H s) (ok : BlkOk X.N X.env.scope scope own) (hN : X.N.Nodup)
    (hfp : ∀ b ∈ fp, FpOk X pins H b ∧ b < s.heap.objs.size) :
    Inv (hblk X s H scope (compEnvC scope (cellsFrom (s.heap.objs.size + 1) scope.names (cloFrom X.env.cells scope.names [])) s.heap.objs.size X.env) fp) [] (wipe σ (own.map (·.2))) H { s with heap := pushCells (s.heap.push { cls := .type "dict", data := .dict #[] }) scope.names } := by
  have J := block_start I ok hN hfp
  refine ⟨J.ok.toTry _ _, J.os, J.bare, J.base, J.loc, J.cell, J.free, J.freeC, fun p hp => ?_, J.hok, J.len⟩
  have hp : p ∈ X.pn := by simpa using hp
  obtain ⟨q1, q2, q3, q4, q5⟩ := I.pin p (List.mem_append_left _ hp)
  refine ⟨pushCells_keeps _ _ _ _ (Heap.get?_push_of_some _ q1), q2, ?_, fun hm => (List.mem_cons.mp (I.stkSub p.1 hm)).elim q3 q4, q5⟩
  exact Nat.ne_of_lt (Heap.lt_size q1)
theorem lc_hot {pins : List (Addr × Obj)} {s : Shared} {σ : L2.St} {H : Hp} {Q : VK} {elt tg iter : Expr} {ifs : List Expr} {scope : Scope} {own : List (Str × Nat)} {pos pos' : Pos} {wi : TI} {g : TG} {tt : TT} {te : TE} {use : Option (Value → Sem Unit)} {Qf : Value → Shared → Prop}
    (hc : HotC X) (hN : X.N.Nodup) (I : Inv X pins σ H s) (hi : PIH X tg iter wi) (ok : BlkOk X.N X.env.scope scope own)
    (hg : ∀ (s : Shared) (H : Hp) (C : Addr) (cl : List (Str × Addr)) (fp : List Addr), PG (hblk X s H scope (compEnvC scope cl C X.env) fp) tg g)
    (ht : ∀ (s : Shared) (H : Hp) (C : Addr) (cl : List (Str × Addr)) (fp : List Addr), PTs (hblk X s H scope (compEnvC scope cl C X.env) fp) ifs tt)
    (he : ∀ (s : Shared) (H : Hp) (C : Addr) (cl : List (Str × Addr)) (fp : List Addr), PE (hblk X s H scope (compEnvC scope cl C X.env) fp) elt te)
    (hs : ∀ x, foldedSetIterable iter X.env x = pure x) (h : tLc wi g tt te (own.map (·.2)) σ H Q)
    (hR : ∀ D C s' m H', Inv X pins σ H' s' → Q (.ref D) H' → s'.heap.Ns C m → FpOk X pins H' C → compPost (model X.prog X.w) X.A X.xe use Qf (.ref D) C (.ok .next) s') :
    wpAny (model X.prog X.w) X.A (comprehension (.ListComp elt [⟨tg, iter, ifs, 0⟩] scope pos) scope X.env pos' (newList []) false (eval iter X.env) use) Qf X.xe s := by
  have clo : ∀ y ∈ scope.names, y.2 = .free → ∃ c, X.env.cells.lookup y.1 = some c := fun y hy e => I.ok.has _ (ok.free y hy e)
  refine wpAny_comprehension_free (use := use) rfl hs (closure_ok clo) ok.kind (fun y hy e => by rw [ok.uniq y hy, e]) (thn (hi.run pins s σ H _ I h) fun xv s1 hx => thn hx fun itv s2 h2 => ?_)
  obtain ⟨it, fp, tn, J, H2, rfl, I2, T, st2, f2, q⟩ := h2
  refine wpAny_newObj_type (newEnv_comp ?_) (by show 0 ≤ sizeLine; decide)
  generalize hD : s2.heap.objs.size = D
  obtain ⟨W, ⟨m0, w0⟩, turn⟩ := q D (I2.hok.fresh (Nat.le_of_eq hD))
  have h3 : ({ s2 with heap := s2.heap.push { cls := .type "list", data := .seq ([] : List Value).toArray } } : Shared).heap = s2.heap.push { cls := .type "list", data := .seq ([] : List Value).toArray } := rfl
  have I3 : Inv X pins σ (upd H2 D (.lst [])) { s2 with heap := s2.heap.push { cls := .type "list", data := .seq ([] : List Value).toArray } } := by
    refine I2.laid (t' := s2.toks) (fun b o e => Heap.get?_push_of_some _ e) (Nat.le_of_eq hD) ⟨Nat.zero_le _, [], 0, .nil, ?_⟩
    rw [← hD]; exact Heap.get?_push_size _ rfl
  have st3 := T.keep _ _ _ st2 fun b _ o e => show (s2.heap.push { cls := .type "list", data := .seq ([] : List Value).toArray }).get? b = some o from Heap.get?_push_of_some _ e
  have f3 : ∀ b ∈ fp, FpOk X pins (upd H2 D (.lst [])) b ∧ b < (s2.heap.push { cls := .type "list", data := .seq ([] : List Value).toArray }).objs.size := fun b hb => by
    obtain ⟨o, e, _⟩ := T.obj _ _ st2 b hb
    have lt := Heap.lt_size e
    refine ⟨⟨?_, (f2 b hb).2⟩, by rw [Heap.size_push]; exact Nat.lt_succ_of_lt lt⟩
    rw [upd_ne (by rw [← hD]; exact Nat.ne_of_lt lt)]
    exact (f2 b hb).1
  generalize ({ s2 with heap := s2.heap.push { cls := .type "list", data := .seq ([] : List Value).toArray } } : Shared) = s3 at I3 h3 ⊢
  rw [← h3] at st3 f3
  have I4 := start_hot I3 ok hN f3
  generalize hcl : cellsFrom (s3.heap.objs.size + 1) scope.names (cloFrom X.env.cells scope.names []) = cl at I4 ⊢
  have pg := hg s3 (upd H2 D (.lst [])) s3.heap.objs.size cl fp
  have pt := ht s3 (upd H2 D (.lst [])) s3.heap.objs.size cl fp
  have pe := he s3 (upd H2 D (.lst [])) s3.heap.objs.size cl fp
  have hot := hot_blk hc s3 (upd H2 D (.lst [])) scope (compEnvC scope cl s3.heap.objs.size X.env) fp
  show codeAny _ _ (.compStart (.ListComp elt [⟨tg, iter, ifs, 0⟩] scope pos) 0 (.ref it) (.ref D) (compEnvC scope cl s3.heap.objs.size X.env)) (compPost (model X.prog X.w) X.A X.xe use Qf (.ref D) s3.heap.objs.size) { s3 with heap := pushCells (s3.heap.push { cls := .type "dict", data := .dict #[] }) scope.names }
  have nfp : ∀ b ∈ fp, (upd H2 D (.lst [])) b = none := fun b hb => (f3 b hb).1.1
  have cL : (compEnvC scope cl s3.heap.objs.size X.env).locals = s3.heap.objs.size := rfl
  generalize hce : compEnvC scope cl s3.heap.objs.size X.env = ce at I4 pg pt pe hot cL ⊢
  generalize hH3 : upd H2 D (.lst []) = H3 at I3 I4 pg pt pe w0 nfp f3 hot
  have st4 : tn 0 (pushCells (s3.heap.push { cls := .type "dict", data := .dict #[] }) scope.names) := T.keep _ _ _ st3 fun b _ o e => pushCells_keeps _ _ _ _ (Heap.get?_push_of_some _ e)
  generalize hs4 : ({ s3 with heap := pushCells (s3.heap.push { cls := .type "dict", data := .dict #[] }) scope.names } : Shared) = s4 at I4 ⊢
  have st4 : tn 0 s4.heap := by rw [← hs4]; exact st4
  have stat : ∀ {σ' : L2.St} {H' : Hp} {s' : Shared}, Inv (hblk X s3 H3 scope ce fp) [] σ' H' s' → (∀ b ∈ fp, H' b = none) → ∀ b ∈ fp, FpOk (hblk X s3 H3 scope ce fp) [] H' b := fun {σ' H' s'} I' hn b hb =>
    ⟨hn b hb, (I'.ok.exf b hb).1, I'.ok.exfs b hb, .inl hb, fun x c e => (I'.ok.exf b hb).2 x c e, fun p hp => (f3 b hb).1.2.2.2.2.2 p (List.mem_append_left _ (by simpa using hp))⟩
  have loop : codeAny (model X.prog X.w) X.A (.compLoop (.ListComp elt [⟨tg, iter, ifs, 0⟩] scope pos) 0 (.ref it) (.ref D) ce) (compPost (model X.prog X.w) X.A X.xe use Qf (.ref D) s3.heap.objs.size) s4 := by
    refine compLoop_any (fun n s' => ∃ i H', Inv (hblk X s3 H3 scope ce fp) [] (wipe σ (own.map (·.2))) H' s' ∧ tn i s'.heap ∧ (∀ b ∈ fp, H' b = none) ∧ W i n H') ?_ m0 ⟨0, H3, I4, st4, nfp, w0⟩
    rintro n s5 ⟨i, H5, I5, st5, n5, w5⟩
    rcases turn i n H5 w5 with ⟨stop, qq⟩ | ⟨go, Nx, hNx, step⟩
    · refine thnF (T.done (hblk X s3 H3 scope ce fp) rfl rfl rfl hot i [] s5 _ H5 (fun _ _ => False) I5 (stat I5 n5) st5 stop) fun r s6 ⟨hr, I6⟩ => ?_
      subst hr
      have nC : H5 s3.heap.objs.size = none := by
        have z : H5 ce.locals = none := I6.free
        rwa [cL] at z
      obtain ⟨m, hn, _⟩ := I6.loc
      have hn : s6.heap.Ns ce.locals m := hn
      rw [cL] at hn
      exact hR D s3.heap.objs.size s6 m H5 (I3.call' (ch := fp) I6.os I6.base I6.hok I6.bare fun b hb => (f3 b hb).1.2.2.2 |> fun z => ⟨z.1, (f3 b hb).1.2.1, z.2.1, z.2.2⟩) qq hn (I3.fpOk (Nat.le_refl _) nC)
    · refine thnF (T.item (hblk X s3 H3 scope ce fp) rfl rfl rfl hot i [] s5 _ H5 (fun _ _ => False) I5 (stat I5 n5) st5 go) fun r s6 ⟨u, hr, h6⟩ => ?_
      subst hr
      refine thnF h6 fun _ s7 ⟨x, H7, I7, r7, y7, st7, n7⟩ => ?_
      refine thnF (pg.run _ s7 _ H7 x u _ (I7.pinned (stat I7 n7) (T.obj _ _ st7)) r7 (step x H7 y7)) fun _ s8 ⟨σ8, H8, I8, hw8, q8⟩ => ?_
      refine thnF (pt.run _ s8 σ8 H8 _ I8 q8) fun b s9 ⟨H9, I9, q9⟩ => ?_
      have fin : ∀ {s' : Shared} {H' : Hp}, Inv (hblk X s3 H3 scope ce fp) ([] ++ pinsAt fp s7.heap) σ8 H' s' → Nx H' → ∃ m, m < n ∧ ∃ i H', Inv (hblk X s3 H3 scope ce fp) [] (wipe σ (own.map (·.2))) H' s' ∧ tn i s'.heap ∧ (∀ b ∈ fp, H' b = none) ∧ W i m H' := fun {s' H'} I' nx => by
        obtain ⟨m', hm, w'⟩ := hNx H' nx
        have at_ : ∀ b ∈ fp, ∀ o, s7.heap.get? b = some o → s'.heap.get? b = some o ∧ H' b = none := fun b hb o e => by
          obtain ⟨z1, z2, _⟩ := I'.pin (b, o) (List.mem_append_right _ (List.mem_append_right _ (mem_pinsAt hb e)))
          exact ⟨z1, z2⟩
        refine ⟨m', hm, i + 1, H', (I'.unpinned (pins := [])).weak (by rw [← hw8, wipe_length]) (fun j v e => ?_), T.keep _ _ _ st7 fun b hb o e => (at_ b hb o e).1, fun b hb => ?_, w'⟩
        · rw [← hw8] at e; exact (wipe_some e).1
        · obtain ⟨o, e, _⟩ := T.obj _ _ st7 b hb
          exact (at_ b hb o e).2
      cases b with
      | false =>
        simp only [Bool.false_eq_true, if_false] at q9 ⊢
        exact fin I9 q9
      | true =>
        simp only [if_true] at q9 ⊢
        refine thnF (pe.run _ s9 σ8 H9 _ I9 q9) fun z s10 ⟨yv, H10, I10, r10, acc, hD10, hz10, nx⟩ => ?_
        exact app_ok (X := hblk X s3 H3 scope ce fp) I10 hD10 hz10 r10 fun s11 I11 => fin I11 nx
  exact codeAny_compStart_list loop (T.self X.A 0 _ _ _ st4 loop)
theorem pe_lcH {elt tg iter : Expr} {ifs : List Expr} {scope : Scope} {own : List (Str × Nat)} {pos : Pos} {wi : TI} {g : TG} {tt : TT} {te : TE} (hc : HotC X) (hN : X.N.Nodup) (hi : PIH X tg iter wi) (ok : BlkOk X.N X.env.scope scope own)
    (hg : ∀ (s : Shared) (H : Hp) (C : Addr) (cl : List (Str × Addr)) (fp : List Addr), PG (hblk X s H scope (compEnvC scope cl C X.env) fp) tg g)
    (ht : ∀ (s : Shared) (H : Hp) (C : Addr) (cl : List (Str × Addr)) (fp : List Addr), PTs (hblk X s H scope (compEnvC scope cl C X.env) fp) ifs tt)
    (he : ∀ (s : Shared) (H : Hp) (C : Addr) (cl : List (Str × Addr)) (fp : List Addr), PE (hblk X s H scope (compEnvC scope cl C X.env) fp) elt te)
    (hs : ∀ x, foldedSetIterable iter X.env x = pure x := by intro _; rfl) : PE X (.ListComp elt [⟨tg, iter, ifs, 0⟩] scope pos) (tLc wi g tt te (own.map (·.2))) := by
  constructor
  intro pins s σ H Q I h
  rw [eval_ListComp]
  refine lc_hot hc hN I hi ok hg ht he hs h fun D C s' m H' J q hn ⟨f0, f1, f2, f3, f4, f5⟩ => ⟨m, hn, fun h'' sb => ?_⟩
  exact ⟨.ref D, H', J.turned (t' := s'.toks) (fun b o hb e => (sb.2 b hb).trans e) f0 f1 f3 f4 f5, rfl, q⟩
end
end WM

/-! WM: the def that names the class of a caught exception. -/
namespace WM
open PySem PySem.Spec PyProof.Rows L2 L2H
/-! ### a def called on the exception that is handled -/
structure FnK (P : Program) (w : World) (K : PySem.W.Frag) (mg : Str → Option Value) (base : Heap) (CX : CXT) (k : Nat) (f : Addr) (fd : FuncData) (ps : List Str) (u : Value) (tx : Str) : Prop where
  run : ∀ (A : Around) (outer : List PySem.Env) (s : Shared) (H : Hp) (args : Args) (Q : VK) (E : XK) (p : Addr × Obj), RoomH k A → Hot1 A p → p.2.cls = u → p.2.dict = none → PinOk outer H s p → Env0 P w K mg base A outer s H →
    BindsTo s fd args (ps.zip [.ref p.1]) → (∀ H', Same H H' → Q (.str tx) H') → codeAny (model P w) A (.call (.ref f) args) (CR CX outer P w H s Q E) s
section
variable {P : Program} {w : World} {K : PySem.W.Frag} {mg : Str → Option Value} {base : Heap} {CX : CXT}
theorem fn_ofK {k : Nat} {f : Addr} {name qual : Str} {params : Arguments} {body : List Stmt} {scope : Scope} {dV kV doc pm cdv ct oc : Value} {an od : Option Addr} {osl : Array (Option Value)} {N ps : List Str} {u : Value} {tx : Str}
    (lk : K.lookup f = some ⟨oc, od, .func (PySem.W.fnOf name qual params body scope dV kV doc pm an cdv ct), osl⟩) (hcd : PySem.W.codeIn K cdv qual = true) (S : FnScope N ps scope) (h1 : ps.length = 1)
    (hbody : ∀ (A : Around) (outer : List PySem.Env) (s : Shared) (H : Hp) (Q : VK) (E : XK) (p : Addr × Obj), Hot1 A p → p.2.cls = u → p.2.dict = none → (∀ H', Same H H' → Q (.str tx) H') →
      ∃ t, PSs (cxH CX P w K mg base N qual scope f cdv A outer s H E p) body t ∧ t { nx := fun _ H' => Q .non H', rt := Q } (L2.start N [.ref p.1]) H) :
    FnK P w K mg base CX (k + 1) f (PySem.W.fnOf name qual params body scope dV kV doc pm an cdv ct) ps u tx := by
  constructor
  intro A outer s H args Q E p hr hot hu hd hpin e0 hb hq
  have KX : K.In s.heap := e0.mod.kin.keeps fun b o e => (e0.bs b o e).1
  have lim := e0.mod.nolimit.keeps fun b o e => (e0.bs b o e).1
  have hk : ∀ y ∈ ps.zip [Value.ref p.1], scope.names.lookup y.1 = some .local ∨ (scope.names.lookup y.1 = some .cell ∧ ((cellsFrom (s.heap.objs.size + 1) scope.names []).lookup y.1).isSome = true) := fun ⟨n, v⟩ hy =>
    (S.par n (List.of_mem_zip hy).1).imp id fun q => ⟨q, PySem.W.cellsFrom_some _ _ _ (.inl q)⟩
  refine codeAny_call_function hr.depth (KX _ _ lk) rfl S.co S.gen rfl (PySem.W.codeRec_of KX hcd) (hb _ _ _ _ ?_)
  refine wpAny_newFunctionEnv_cells S.kind hk fun env he s1 x => ?_
  subst he
  refine ⟨lim.keeps x.toInCall.keep, codeAny_func ?_⟩
  obtain ⟨t, ht, hw⟩ := hbody A outer s H Q E p hot hu hd hq
  have I := inv_startH (CX := CX) (base := base) (E := E) (N := N) (vs := [V.ref p.1]) S hpin e0 (by rw [h1]; rfl) (.cons rfl .nil) x
  refine wpAny_mono (ht.run [] s1 (L2.start N [.ref p.1]) H _ I hw) (fun fl s' hs => ?_) fun e s' hs => hs
  cases fl with
  | ret u => obtain ⟨v, σ', H', J, rv, q⟩ := hs; exact ⟨v, H', J.os, J.bare, J.base, J.hok, rv, q⟩
  | next => obtain ⟨σ', H', J, q⟩ := hs; exact ⟨.non, H', J.os, J.bare, J.base, J.hok, rfl, q⟩
  | brk => obtain ⟨_, _, _, q⟩ := hs; exact q.elim
  | cont => obtain ⟨_, _, _, q⟩ := hs; exact q.elim
end
section
variable {X : Cx} {CX : CXT} {k : Nat} {f : Addr} {fd : FuncData} {ps : List Str} {E : L2.St → XK} {x y : Str} {q q1 pos : Pos} {u : Value} {tx : Str} {i : Nat}
theorem pe_callK (F : FnK X.prog X.w X.K X.mg X.base CX k f fd ps u tx) (h1 : ps.length = 1) (hr : RoomH k X.A) (p : Addr × Obj) (hot : Hot1 X.A p) (hp : p ∈ X.pn) (hu : p.2.cls = u) (hd : p.2.dict = none) (hg : Gl X x) (hm : X.mg x = some (.ref f))
    (hk : PySem.W.keepIn X.K (.ref f) = true) (hb : Binds X.K fd ps []) (hx : ∀ σ, PassesAt CX X σ (E σ)) (hv : PE X (.Name y q1) (tVar i)) (hdb : (x == ("__debug__" : Str)) = false := by decide) :
    PE X (.Call (.Name x q) [.Name y q1] [] pos) (fun σ H Q => σ[i]? = some (some (.ref p.1)) ∧ ∀ H', Same H H' → Q (.str tx) H') := by
  constructor
  rintro pins s σ H Q I ⟨hi, h⟩
  refine wpAny_Call_Name_kw (ld_glob I hg hm ?_ hdb)
  refine PySem.W.callWith_K (h₀ := X.base) I.ok.mod.kin hk (thn ((pa_cons hv pa_nil).run pos pins s σ H (fun vs H1 => vs = [.ref p.1] ∧ H1 = H) I ⟨_, hi, rfl, rfl⟩) fun us s1 ⟨vs, H1, I1, r, e1, e2⟩ => ?_) rfl rfl
  subst e1 e2
  refine ⟨I1.kIn, ?_⟩
  have hl : us.length = ps.length := by rw [← r.length, h1]; rfl
  have b := hb s1 us I1.kIn (by rw [List.append_nil]; exact hl)
  rw [List.append_nil] at b
  cases r with
  | cons r0 rr =>
    cases rr
    cases r0
    obtain ⟨P1, P2, P3, P4, P5⟩ := I1.pin p (List.mem_append_left _ hp)
    have hpin : PinOk X.stack H1 s1 p := ⟨P1, P2, fun hm => (List.mem_cons.mp (I1.stkSub p.1 hm)).elim P3 P4, P5⟩
    refine wpAny_call (codeAny_mono (F.run X.A X.stack s1 H1 _ Q (E σ) p hr hot hu hd hpin I1.env0 b h) fun r s' hq => ?_)
    cases r with
    | error e => exact hx σ pins H1 s1 e s' I1 hq
    | ok fl => cases fl with
      | ret u => exact I1.after hq
      | next => exact hq.elim
      | brk => exact hq.elim
      | cont => exact hq.elim
end
end WM

/-! WM: the def that names the class of a caught exception, walked. -/
namespace WM
open PySem PySem.Spec PyProof.Rows L2 L2H
section
variable {X : Cx}
theorem call_isK {p : Addr × Obj} {D : Addr} (C : ExcC X.K D) (hp : p ∈ X.pn) (hu : p.2.cls = .ref D) (hd : p.2.dict = none) (hf : ∃ vs, p.2.data = .fields vs) : CallR X (.builtin "isinstance") (rIsE X.K D p.1) := by
  rintro pins s σ H xs us Q I r ⟨c, cv, b, rfl, hcv, e, q⟩
  cases r with
  | cons rx rr => cases rr with
    | cons rt rr =>
      cases rr
      cases rx
      obtain rfl := hcv _ rt
      have hget := (I.pin p (List.mem_append_left _ hp)).1
      have J : PySem.W.InstAt s.heap p.1 p.2 D none := by
        obtain ⟨a, oc, od, oda, osl⟩ := p
        obtain ⟨vs, hv⟩ := hf
        dsimp only at hu hd hv hget ⊢
        subst hu hd hv
        exact ⟨hget, rfl, rfl, trivial⟩
      exact PySem.W.kia_one (PySem.W.handS_kitx_exc C.hg C.hk C.hs C.hd C.ha C.hn C.ht C.hm) I.kIn J e nofun fun tk => ⟨.bl b, H, I.kept (t' := tk) fun _ _ z => z, rfl, q⟩
end
def kNames : List Str := ["Dear", "NoBuyer", "NoDealing", "NoGood", "NoMarket", "NoNumber", "NoPrices", "NoRow", "NoText", "Nothing", "Unwished"]
def kWords : List Str := kNames ++ [("+" : Str)]
def kG (x : Str) : Str × NameKind := (x, .globalImplicit)
def kF (x : Str) : Str × Const := ("fast", .str x)
def kSc : Scope := { kind := .function, names := [("e", .local), ("some", .cell), ("words", .cell), kG "isinstance", kG "Dear", kG "NoBuyer", kG "NoDealing", kG "NoGood", kG "NoMarket", kG "NoNumber", kG "NoPrices", kG "NoRow", kG "NoText", kG "Nothing", kG "Unwished", kG "ValueError", kG "range"], isGenerator := false, isCoroutine := false, more := [kF "e", kF "some", kF "words", kF "k"] }
def kLSc : Scope := ⟨.function, [(".0", .local), ("k", .local), ("some", .free), ("words", .free)], false, false, []⟩
def kIsS (q : Nat → Pos) (i : Nat) (x : Str) : Expr := .Call (.Name "isinstance" (q i)) [.Name "e" (q (i + 1)), .Name x (q (i + 2))] [] (q (i + 3))
def kIs4 (q : Nat → Pos) (i : Nat) (a b c d : Str) : List Expr := [kIsS q i a, kIsS q (i + 4) b, kIsS q (i + 8) c, kIsS q (i + 12) d]
def kKwS (q : Nat → Pos) (i : Nat) (x : Str) : Expr := .Constant (.str x) 0 (q i)
def kIxS (q : Nat → Pos) (i : Nat) (x : Str) : Expr := .Subscript (.Name x (q i)) (.Name "k" (q (i + 1))) (q (i + 2))
def kSetS (q : Nat → Pos) (i : Nat) (x : Str) (e : Expr) (j : Nat) : Stmt := .Assign [.Name x (q i)] e (q j)
def kPlusS (q : Nat → Pos) (i : Nat) (x : Str) (es : List Expr) (j : Nat) : Expr := .BinOp (.Name x (q i)) .Add (.List es (q j)) (q (j + 1))
def kLcS (q : Nat → Pos) : Expr := .ListComp (kIxS q 83 "words") [⟨.Name "k" (q 86), .Call (.Name "range" (q 87)) [.Constant (.int 12) 0 (q 88)] [] (q 89), [kIxS q 90 "some"], 0⟩] kLSc (q 93)
def kBody (q : Nat → Pos) : List Stmt :=
  [kSetS q 0 "some" (.List (kIs4 q 1 "Dear" "NoBuyer" "NoDealing" "NoGood") (q 17)) 18,
   kSetS q 19 "some" (kPlusS q 20 "some" (kIs4 q 21 "NoMarket" "NoNumber" "NoPrices" "NoRow") 37) 39,
   kSetS q 40 "some" (kPlusS q 41 "some" (kIs4 q 42 "NoText" "Nothing" "Unwished" "ValueError") 58) 60,
   kSetS q 61 "words" (.List [kKwS q 62 "Dear", kKwS q 63 "NoBuyer", kKwS q 64 "NoDealing", kKwS q 65 "NoGood", kKwS q 66 "NoMarket", kKwS q 67 "NoNumber", kKwS q 68 "NoPrices", kKwS q 69 "NoRow"] (q 70)) 71,
   kSetS q 72 "words" (kPlusS q 73 "words" [kKwS q 74 "NoText", kKwS q 75 "Nothing", kKwS q 76 "Unwished", kKwS q 77 "+"] 78) 80,
   .Return (some (.Call (.Attribute (kKwS q 81 "") "join" (q 82)) [kLcS q] [] (q 94))) (q 95)]
def kN : List Str := ["e", "some", "words", "k"]
/-- what isinstance answers -/
def kBits (c : Str) : List Bool := kNames.map (fun x => decide (x = c)) ++ [true]
def kPick (bs : List Bool) (ws : List Str) (i : Nat) : List Str := ((bs.zip ws).take i).filterMap fun p => if p.1 = true then some p.2 else none
def kText (c : Str) : Str := Txt.join "" (kPick (kBits c) kWords 12)
structure KOk (X : Cx) (p : Addr × Obj) (D : Addr) (c : Str) : Prop where
  n : X.N = kN
  scp : X.env.scope = kSc
  fn : ∀ y, kSc.names.lookup y = some .cell → X.fn y = true
  hot : HotC X
  pn : p ∈ X.pn
  cls : p.2.cls = .ref D
  dict : p.2.dict = none
  dat : ∃ vs, p.2.data = .fields vs
  ec : ExcC X.K D
  mem : c ∈ kNames
  cl : ∀ x ∈ kNames, ∃ C, X.mg x = some (.ref C) ∧ PySem.W.kitOne X.K (.ref D) (.ref C) = some (decide (x = c))
  ve : X.mg "ValueError" = none ∧ PySem.W.kitOne X.K (.ref D) (.type "ValueError") = some true
  bi : X.mg "isinstance" = none ∧ X.mg "range" = none
section
variable {X : Cx} {p : Addr × Obj} {D : Addr} {c : Str}
theorem KOk.gl (h : KOk X p D c) {x : Str} (hx : kSc.names.lookup x = some .globalImplicit) : Gl X x := by
  show X.env.scope.names.lookup x = _
  rw [h.scp]; exact hx
theorem KOk.isE (h : KOk X p D c) (q : Nat → Pos) (i : Nat) (x : Str) (hx : x ∈ kNames) (hg : kSc.names.lookup x = some .globalImplicit) (hd : (x == ("__debug__" : Str)) = false) : PE X (kIsS q i x) (fun σ H Q => σ[0]? = some (some (.ref p.1)) ∧ Q (.bl (decide (x = c))) H) := by
  obtain ⟨C, hC, hk⟩ := h.cl x hx
  have hv : PE X (.Name "e" (q (i + 1))) (tVar 0) := pe_var (by rw [h.n]; rfl) (.inl (by rw [h.scp]; rfl))
  refine weakE' (pe_callB (call_isK h.ec h.pn h.cls h.dict h.dat) (h.gl rfl) h.bi.1 (by rfl) (pa_cons hv (pa_cons (pe_glob (v := .ref C) (h.gl hg) hC rfl hd) pa_nil))) fun σ H Q ⟨h1, h2⟩ => ?_
  exact ⟨_, h1, .ref C, .ref C, _, rfl, fun u hu => hu, hk, h2⟩
where
  weakE' {e : Expr} {t t' : TE} (h : PE X e t) (w : ∀ σ H Q, t' σ H Q → t σ H Q) : PE X e t' := ⟨fun pins s σ H Q I q => h.run pins s σ H Q I (w σ H Q q)⟩
end
end WM

namespace WM
open PySem PySem.Spec PyProof.Rows L2 L2H
section
variable {X : Cx} {p : Addr × Obj} {D : Addr} {c : Str}
def notStarK : Expr → Bool
  | .Starred _ _ => false
  | _ => true
/-- an expression whose value is known where slot 0 bears the exception -/
def tKnd (p : Addr × Obj) (v : V) : TE := fun σ H Q => σ[0]? = some (some (.ref p.1)) ∧ Q v H
theorem KOk.isV (h : KOk X p D c) (q : Nat → Pos) (i : Nat) : PE X (kIsS q i "ValueError") (tKnd p (.bl true)) := by
  have hv : PE X (.Name "e" (q (i + 1))) (tVar 0) := pe_var (by rw [h.n]; rfl) (.inl (by rw [h.scp]; rfl))
  refine KOk.isE.weakE' (pe_callB (call_isK h.ec h.pn h.cls h.dict h.dat) (h.gl rfl) h.bi.1 (by rfl) (pa_cons hv (pa_cons (pe_bltn (v := .ty "ValueError") (h.gl rfl) h.ve.1 (by rfl) rfl) pa_nil))) fun σ H Q ⟨h1, h2⟩ => ?_
  exact ⟨_, h1, .ty "ValueError", .type "ValueError", _, rfl, fun u hu => hu, h.ve.2, h2⟩
theorem KOk.list4 {p : Addr × Obj} {a b c d : Expr} {v1 v2 v3 v4 : V} {pos : Pos} (h1 : PE X a (tKnd p v1)) (h2 : PE X b (tKnd p v2)) (h3 : PE X c (tKnd p v3)) (h4 : PE X d (tKnd p v4))
    (n1 : starEach [a, b, c, d] X.env = (false, eval a X.env) :: starEach [b, c, d] X.env) (n2 : starEach [b, c, d] X.env = (false, eval b X.env) :: starEach [c, d] X.env) (n3 : starEach [c, d] X.env = (false, eval c X.env) :: starEach [d] X.env) (n4 : starEach [d] X.env = (false, eval d X.env) :: starEach [] X.env) :
    PE X (.List [a, b, c, d] pos) (fun σ H Q => σ[0]? = some (some (.ref p.1)) ∧ ∀ r, H r = none → Q (.ref r) (upd H r (.lst [v1, v2, v3, v4]))) := by
  refine KOk.isE.weakE' (pe_lst (pa_cons h1 (pa_cons h2 (pa_cons h3 (pa_cons h4 pa_nil n4) n3) n2) n1)) fun σ H Q ⟨e, q⟩ => ?_
  exact ⟨e, e, e, e, (by rw [sizeLine_eq]; show 4 ≤ 16777216; omega), q⟩
theorem KOk.set (h : KOk X p D c) (q : Nat → Pos) {i s j : Nat} {x : Str} {e : Expr} {te : TE} (hi : kN[s]? = some x) (hx : kSc.names.lookup x = some .cell) (he : PE X e te) (hs : swapsWith e (some (.Name x (q i))) (q j).line X.env = pure false) : PS X (kSetS q i x e j) (tAsg te (gName s)) :=
  ps_set (by rw [h.n]; decide) (by rw [h.n]; exact hi) (.inr (by rw [h.scp]; exact hx)) he hs (.inl (h.fn x hx))
theorem KOk.var (h : KOk X p D c) {i : Nat} {x : Str} {pos : Pos} (hi : kN[i]? = some x) (hx : kSc.names.lookup x = some .cell) (hd : (x == ("__debug__" : Str)) = false := by decide) (hcd : (x == ("__classdict__" : Str)) = false := by decide) : PE X (.Name x pos) (tVar i) :=
  pe_var (by rw [h.n]; exact hi) (.inr (.inl (by rw [h.scp]; exact hx))) hd hcd
def kBitV (c x : Str) : V := .bl (decide (x = c))
theorem kSameU {H : Hp} {r : Addr} {o : HO} (h : H r = none) : Same H (upd H r o) := fun b u e => by
  by_cases hb : b = r
  · subst hb; rw [h] at e; cases e
  · rw [upd_ne hb]; exact e
/-- x = x + [..] -/
theorem KOk.plus (h : KOk X p D c) (q : Nat → Pos) {i j s : Nat} {x : Str} {es : List Expr} {zs : List V} (hi : kN[s]? = some x) (hx : kSc.names.lookup x = some .cell) (hd : (x == ("__debug__" : Str)) = false) (hcd : (x == ("__classdict__" : Str)) = false)
    (he : PE X (.List es (q j)) (fun σ H Q => σ[0]? = some (some (.ref p.1)) ∧ ∀ r, H r = none → Q (.ref r) (upd H r (.lst zs)))) (hz : zs.length ≤ 100) :
    PE X (kPlusS q i x es j) (fun σ H Q => σ[0]? = some (some (.ref p.1)) ∧ ∃ l xs, σ[s]? = some (some (.ref l)) ∧ H l = some (.lst xs) ∧ xs.length ≤ 100 ∧ ∀ r H', Same H H' → H' r = none → Q (.ref r) (upd H' r (.lst (xs ++ zs)))) := by
  refine KOk.isE.weakE' (pe_op op_cat (h.var hi hx hd hcd) he) ?_
  rintro σ H Q ⟨e, l, xs, hl, hL, hn, k⟩
  refine ⟨.ref l, hl, e, fun r hr => ⟨l, r, xs, zs, rfl, rfl, ?_, upd_same, by rw [sizeLine_eq]; omega, fun r' hr' => k r' _ (kSameU hr) hr'⟩⟩
  exact kSameU hr _ _ hL
theorem kStarE {e : Expr} {es : List Expr} {env : PySem.Env} (h : notStarK e = true) : starEach (e :: es) env = (false, eval e env) :: starEach es env := by
  cases e <;> first | rfl | (cases h; done)
theorem kPickS {bs : List Bool} {ws : List Str} {i : Nat} {b : Bool} {w : Str} (h1 : bs[i]? = some b) (h2 : ws[i]? = some w) : kPick bs ws (i + 1) = kPick bs ws i ++ if b = true then [w] else [] := by
  unfold kPick
  have hz : (bs.zip ws)[i]? = some (b, w) := by rw [List.getElem?_zip_eq_some]; exact ⟨h1, h2⟩
  rw [List.take_add_one, hz, List.filterMap_append]
  cases b <;> rfl
/-- the words of the bits -/
theorem KOk.lc (h : KOk X p D c) (q : Nat → Pos) {bs : List Bool} {ws : List Str} (hb : bs.length = 12) (hw : ws.length = 12) :
    PE X (kLcS q) (fun σ H Q => σ.length = 4 ∧ ∃ ls lw, σ[1]? = some (some (.ref ls)) ∧ σ[2]? = some (some (.ref lw)) ∧ H ls = some (.lst (bs.map V.bl)) ∧ H lw = some (.lst (ws.map V.str)) ∧ ∀ r H', Same H H' → H' r = some (.lst ((kPick bs ws 12).map V.str)) → Q (.ref r) H') := by
  have sl : (relS kLSc X.env.scope).names.lookup ("k" : Str) = some .local := by rw [h.scp]; rfl
  have ss : (relS kLSc X.env.scope).names.lookup ("some" : Str) = some .cell := by rw [h.scp]; rfl
  have sw : (relS kLSc X.env.scope).names.lookup ("words" : Str) = some .cell := by rw [h.scp]; rfl
  refine KOk.isE.weakE' (pe_lcH (own := [("k", 3)]) (wi := iRng1 (tCons (tC (.int 12)) tNil)) (g := gName 3) (tt := tB (tOp (rIxL X.K) (tVar 1) (tVar 3))) (te := tOp (rIxL X.K) (tVar 2) (tVar 3)) h.hot (by rw [h.n]; decide) (pi_range1H (h.gl rfl) h.bi.2 (pa_cons pe_int pa_nil)) ⟨rfl, by decide, by rw [h.n]; decide, by rw [h.scp]; decide, by rw [h.n]; decide⟩
    (fun s H C cl fp => pg_name (by rw [h.n]; decide) (by rw [h.n]; rfl) (.inl sl) (.inr sl))
    (fun s H C cl fp => pts_one (pt_val (pe_ix ix_list (pe_var (by rw [h.n]; rfl) (.inr (.inl ss))) (pe_var (by rw [h.n]; rfl) (.inl sl)) (by intro _ _; rfl))))
    (fun s H C cl fp => pe_ix ix_list (pe_var (by rw [h.n]; rfl) (.inr (.inl sw))) (pe_var (by rw [h.n]; rfl) (.inl sl)) (by intro _ _; rfl))) ?_
  rintro σ H Q ⟨hl, ls, lw, e1, e2, H1, H2, k⟩
  refine ⟨12, rfl, by decide, by decide, fun Dn hD => ?_⟩
  have nD : ∀ {a o}, H a = some o → a ≠ Dn := fun e z => by rw [z, hD] at e; cases e
  refine lc_range (lo := 0) (n := 12) (vs := [3]) (fun i H' => Same H H' ∧ H' Dn = some (.lst ((kPick bs ws i).map V.str)) ∧ (kPick bs ws i).length ≤ i) ⟨kSameU hD, upd_same, by simp [kPick]⟩ (fun i H' hi ⟨g1, g2, g3⟩ => ?_) (fun H' ⟨g1, g2, _⟩ => k Dn H' g1 g2)
  obtain ⟨b, hbi⟩ : ∃ b, bs[i]? = some b := ⟨_, List.getElem?_eq_getElem (by omega)⟩
  obtain ⟨w, hwi⟩ : ∃ w, ws[i]? = some w := ⟨_, List.getElem?_eq_getElem (by omega)⟩
  have l3 : ((wipe σ [3]).set 3 (some (V.int (0 + (i : Int)))))[3]? = some (some (.int (0 + (i : Int)))) := List.getElem?_set_self (by rw [wipe_length]; omega)
  have lx : ∀ {j : Nat}, j < 3 → ((wipe σ [3]).set 3 (some (V.int (0 + (i : Int)))))[j]? = σ[j]? := fun {j} hj => by
    rw [List.getElem?_set_ne (by omega)]
    show (σ.set 3 none)[j]? = _
    rw [List.getElem?_set_ne (by omega)]
  have at_ : ∀ {α : Type} {xs : List α} {x : α}, xs.length = 12 → xs[i]? = some x → atI xs (0 + (i : Int)) = some x := fun {α xs x} hx e => by
    rw [Int.zero_add]
    show (ixN xs.length (i : Int)).bind _ = _
    have : ixN xs.length (i : Int) = some i := by
      unfold ixN
      rw [if_pos (by omega), if_pos (by omega)]
      simp
    rw [this]; exact e
  refine ⟨by simp [wipe], .ref ls, by rw [lx (by omega)]; exact e1, _, l3, ls, bs.map V.bl, _, .bl b, rfl, rfl, .of (g1 _ _ H1), at_ (by simp [hb]) (by rw [List.getElem?_map, hbi]; rfl), b, rfl, ?_⟩
  cases b with
  | false =>
    rw [if_neg Bool.false_ne_true]
    rw [kPickS hbi hwi]
    exact ⟨g1, by simpa using g2, by simp; omega⟩
  | true =>
    rw [if_pos rfl]
    refine ⟨.ref lw, by rw [lx (by omega)]; exact e2, _, l3, lw, ws.map V.str, _, .str w, rfl, rfl, .of (g1 _ _ H2), at_ (by simp [hw]) (by rw [List.getElem?_map, hwi]; rfl), _, g2, by rw [sizeLine_eq, List.length_map]; omega, ?_⟩
    rw [kPickS hbi hwi]
    refine ⟨fun a o e => by rw [upd_ne (nD e)]; exact g1 a o e, ?_, by simp; omega⟩
    rw [upd_same]; simp
end
end WM

namespace WM
open PySem PySem.Spec PyProof.Rows L2 L2H
section
variable {X : Cx} {p : Addr × Obj} {D : Addr} {c : Str}
theorem KOk.isE' (h : KOk X p D c) (q : Nat → Pos) (i : Nat) (x : Str) (hx : x ∈ kNames) (hg : kSc.names.lookup x = some .globalImplicit) (hd : (x == ("__debug__" : Str)) = false) : PE X (kIsS q i x) (tKnd p (kBitV c x)) := h.isE q i x hx hg hd
theorem kStrE {q : Nat → Pos} {i : Nat} {x : Str} : PE X (kKwS q i x) (tKnd p (.str x)) := KOk.isE.weakE' pe_str fun σ H Q ⟨_, h⟩ => h
theorem KOk.list8 {p : Addr × Obj} {q : Nat → Pos} {i : Nat} {a1 a2 a3 a4 a5 a6 a7 a8 : Str} {pos : Pos} :
    PE X (.List [kKwS q i a1, kKwS q (i + 1) a2, kKwS q (i + 2) a3, kKwS q (i + 3) a4, kKwS q (i + 4) a5, kKwS q (i + 5) a6, kKwS q (i + 6) a7, kKwS q (i + 7) a8] pos) (fun σ H Q => ∀ r, H r = none → Q (.ref r) (upd H r (.lst [.str a1, .str a2, .str a3, .str a4, .str a5, .str a6, .str a7, .str a8]))) :=
  KOk.isE.weakE' (pe_lst (pa_cons pe_str (pa_cons pe_str (pa_cons pe_str (pa_cons pe_str (pa_cons pe_str (pa_cons pe_str (pa_cons pe_str (pa_cons pe_str pa_nil))))))))) fun σ H Q k => ⟨by rw [sizeLine_eq]; show 8 ≤ 16777216; omega, k⟩
def kLines (q : Nat → Pos) : Bool := (q 82).endLine == (q 94).line
theorem KOk.body (h : KOk X p D c) (q : Nat → Pos) (hq : kLines q = true) :
    ∃ t, PSs X (kBody q) t ∧ ∀ (Ds : Ends) (H : Hp), (∀ H', Same H H' → Ds.rt (.str (kText c)) H') → t Ds [some (.ref p.1), none, none, none] H := by
  have L1 := KOk.list4 (X := X) (pos := q 17) (h.isE' q 1 "Dear" (by decide) rfl rfl) (h.isE' q 5 "NoBuyer" (by decide) rfl rfl) (h.isE' q 9 "NoDealing" (by decide) rfl rfl) (h.isE' q 13 "NoGood" (by decide) rfl rfl) rfl rfl rfl rfl
  have L2 := KOk.list4 (X := X) (pos := q 37) (h.isE' q 21 "NoMarket" (by decide) rfl rfl) (h.isE' q 25 "NoNumber" (by decide) rfl rfl) (h.isE' q 29 "NoPrices" (by decide) rfl rfl) (h.isE' q 33 "NoRow" (by decide) rfl rfl) rfl rfl rfl rfl
  have L3 := KOk.list4 (X := X) (pos := q 58) (h.isE' q 42 "NoText" (by decide) rfl rfl) (h.isE' q 46 "Nothing" (by decide) rfl rfl) (h.isE' q 50 "Unwished" (by decide) rfl rfl) (h.isV q 54) rfl rfl rfl rfl
  have L5 := KOk.list4 (X := X) (p := p) (pos := q 78) (kStrE (q := q) (i := 74) (x := "NoText")) (kStrE (q := q) (i := 75) (x := "Nothing")) (kStrE (q := q) (i := 76) (x := "Unwished")) (kStrE (q := q) (i := 77) (x := "+")) rfl rfl rfl rfl
  have P2 := h.plus q (i := 20) (j := 37) (s := 1) (x := "some") rfl rfl rfl rfl L2 (by show 4 ≤ 100; omega)
  have P3 := h.plus q (i := 41) (j := 58) (s := 1) (x := "some") rfl rfl rfl rfl L3 (by show 4 ≤ 100; omega)
  have P5 := h.plus q (i := 73) (j := 78) (s := 2) (x := "words") rfl rfl rfl rfl L5 (by show 4 ≤ 100; omega)
  have C := h.lc q (bs := kBits c) (ws := kWords) rfl rfl
  refine ⟨_, pss_cons (h.set q (s := 1) rfl rfl L1 rfl) (pss_cons (h.set q (s := 1) rfl rfl P2 rfl) (pss_cons (h.set q (s := 1) rfl rfl P3 rfl) (pss_cons (h.set q (s := 2) rfl rfl (KOk.list8 (p := p) (i := 62)) rfl)
    (pss_cons (h.set q (s := 2) rfl rfl P5 rfl) (pss_one (ps_ret (pe_join pe_str C rfl rfl hq))))))), ?_⟩
  intro Ds H k
  refine ⟨rfl, fun r1 n1 => ?_⟩
  refine ⟨rfl, r1, _, rfl, upd_same, by show 4 ≤ 100; omega, fun r2 H2 s2 n2 => ?_⟩
  refine ⟨rfl, r2, _, rfl, upd_same, by show 8 ≤ 100; omega, fun r3 H3 s3 n3 => ?_⟩
  intro r4 n4
  refine ⟨rfl, r4, _, rfl, upd_same, by show 8 ≤ 100; omega, fun r5 H5 s5 n5 => ?_⟩
  have t3 := kSameU (o := .lst (((([kBitV c "Dear", kBitV c "NoBuyer", kBitV c "NoDealing", kBitV c "NoGood"] ++ [kBitV c "NoMarket", kBitV c "NoNumber", kBitV c "NoPrices", kBitV c "NoRow"])) ++ [kBitV c "NoText", kBitV c "Nothing", kBitV c "Unwished", .bl true]))) n3
  refine ⟨⟨_, rfl⟩, ?_⟩
  refine ⟨rfl, r3, r5, rfl, rfl, ?_, ?_, fun r H' s6 e6 => ?_⟩
  · refine kSameU n5 _ _ (s5 _ _ (kSameU n4 _ _ ?_))
    rw [upd_same]; rfl
  · rw [upd_same]; rfl
  · refine ⟨_, r, kPick (kBits c) kWords 12, rfl, rfl, .inl (.of e6), ?_, k H' ?_⟩
    · have : ∀ x ∈ kNames, ((kPick (kBits x) kWords 12).map (·.length)).sum + (kPick (kBits x) kWords 12).length * ("" : Str).length ≤ 16777216 := by decide +kernel
      exact this c h.mem
    · intro a o e
      refine s6 _ _ (kSameU n5 _ _ (s5 _ _ (kSameU n4 _ _ (t3 _ _ (s3 _ _ (kSameU n2 _ _ (s2 _ _ (kSameU n1 _ _ e))))))))
end
end WM

/-! dicts whose keys are pairs told by tuples of any kind (a display's, a constant's, a frozen one's) -/
namespace WM
open PySem PySem.Spec PyProof.Rows L2
section
variable {X : Cx} {pins : List (Addr × Obj)} {σ : L2.St} {H : Hp} {s : Shared} {a : Addr} {y v : V} {u r : Value} {o : Option V} {A : Around} {E : Value → Shared → Prop}
theorem key_sq {ks : List Key} {b : Addr} (I : Inv X pins σ H s) (h : SqT X.K H b (ks.map kV)) : (tupleKind (mixKind X.prog X.w)).is s.heap ks b := by
  obtain ⟨its, r, p, _⟩ := I.tuple h
  obtain ⟨o, h1, h2, n, h3⟩ := p
  exact ⟨o, its.toArray, n, h1, h2, h3, by simpa using items_are r⟩
/-- what the dict at a holds at the key y -/
def DG (K : PySem.W.Frag) (H : Hp) (a : Addr) (y : V) (r : Option V) : Prop :=
  ∃ kvs k b, H a = some (.dT kvs) ∧ y = .ref b ∧ SqT K H b (k.map kV) ∧ r = valV kvs k
/-- the heap behind a[y] = v: at a key that is there, or by a new tuple -/
def DP (K : PySem.W.Frag) (H : Hp) (a : Addr) (y v : V) (H' : Hp) : Prop :=
  ∃ kvs k b, H a = some (.dT kvs) ∧ y = .ref b ∧ kvs.length < sizeLine ∧ H' = upd H a (.dT (putK kvs k v)) ∧ (H b = some (.tup (k.map kV)) ∨ (SqT K H b (k.map kV) ∧ (valV kvs k).isSome = true))
theorem dg_getItem {Q : Value → Shared → Prop} (hu : A.units + 1 < cLine) (I : Inv X pins σ H s) (g : DG X.K H a y (some v)) (ry : RelV y u) (h : ∀ w' s', Inv X pins σ H s' → RelV v w' → Q w' s') :
    wpAny (model X.prog X.w) A (getItem (.ref a) u) Q E s := by
  obtain ⟨kvs, k, b, e, ey, eb, l⟩ := g
  subst ey
  cases (show u = Value.ref b from ry)
  obtain ⟨z, hd, xs, rel, dd⟩ := dt_of I.hok e
  obtain ⟨w', hw, rw'⟩ := RelO.some_of (v := v) (o := (atKey xs k).map (·.2)) (by rw [l]; exact rel.val k)
  obtain ⟨p, hp, hp2⟩ := Option.map_eq_some_iff.mp hw
  refine wpAny_getItem_heap (tupleKind_room_in1 hu) (key_sq I eb) dd hp ?_
  rw [hp2]
  exact h w' _ (I.tok _) rw'
theorem dg_in {Q : Value → Shared → Prop} (hu : A.units + 1 < cLine) (I : Inv X pins σ H s) (g : DG X.K H a y o) (ry : RelV y u) (h : ∀ s', Inv X pins σ H s' → Q (.bool o.isSome) s') :
    wpAny (model X.prog X.w) A (compareOp .In u (.ref a)) Q E s := by
  obtain ⟨kvs, k, b, e, ey, eb, l⟩ := g
  subst ey
  cases (show u = Value.ref b from ry)
  obtain ⟨z, hd, xs, rel, dd⟩ := dt_of I.hok e
  refine wpAny_in_heap (tupleKind_room_in1 hu) (key_sq I eb) hd dd ?_
  have q := (rel.val k).isSome_eq
  rw [Option.isSome_map] at q
  rw [← q, ← l]
  exact h _ (I.tok _)
theorem dg_notIn {Q : Value → Shared → Prop} (hu : A.units + 1 < cLine) (I : Inv X pins σ H s) (g : DG X.K H a y o) (ry : RelV y u) (h : ∀ s', Inv X pins σ H s' → Q (.bool (!o.isSome)) s') :
    wpAny (model X.prog X.w) A (compareOp .NotIn u (.ref a)) Q E s := by
  obtain ⟨kvs, k, b, e, ey, eb, l⟩ := g
  subst ey
  cases (show u = Value.ref b from ry)
  obtain ⟨z, hd, xs, rel, dd⟩ := dt_of I.hok e
  refine wpAny_notIn_heap (tupleKind_room_in1 hu) (key_sq I eb) hd dd ?_
  have q := (rel.val k).isSome_eq
  rw [Option.isSome_map] at q
  rw [← q, ← l]
  exact h _ (I.tok _)
theorem dp_setItem {H' : Hp} {Q : Unit → Shared → Prop} (hu : A.units + 1 < cLine) (I : Inv X pins σ H s) (g : DP X.K H a y v H') (ry : RelV y u) (rv : RelV v r) (h : ∀ s', Inv X pins σ H' s' → Q () s') :
    wpAny (model X.prog X.w) A (setItem (.ref a) u r) Q E s := by
  obtain ⟨kvs, k, b, e, ey, l, eH, eb⟩ := g
  subst ey eH
  rcases eb with eb | ⟨eb, ev⟩
  · exact d_setItem hu I (DPut.t e eb l) ry rv h
  cases (show u = Value.ref b from ry)
  obtain ⟨z, hd, xs, rel, dd⟩ := dt_of I.hok e
  have hz : xs.length ≤ sizeLine := by rw [← Paired.length rel]; exact z
  have hl : (putK kvs k v).length ≤ sizeLine := by have := length_putK kvs k v; omega
  refine wpAny_setItem_heap (hsz := hz) (tupleKind_room_in1 hu) (key_sq I eb) dd fun h' dd' hs => h _ ?_
  obtain ⟨q, es, ep, hq, h2, h3, h4, _, h5⟩ := dd'
  have put : KT H (putK kvs k v) (storedH xs k b r) := by
    have e1 : (atKey xs k).isSome = true := by
      have q := (rel.val k).isSome_eq
      rw [Option.isSome_map] at q
      rw [← q]; exact ev
    have e2 : (kvs.any fun kv => decide (kv.1 = k)) = true := by rw [valV_any]; exact ev
    unfold putK storedH
    rw [if_pos e1, if_pos e2]
    exact rel.repl k rv
  refine d_write I (by rw [e]; exact True.intro) hs ⟨q, hq⟩ ⟨hl, hd, _, put.keeps fun c ys ec => ?_, q, es, ep, hq, h2, h3, h4, h5⟩
  rw [upd_ne (ne_of ec e (fun z => nomatch z))]
  exact ec
/-- d[y] -/
def rDG (K : PySem.W.Frag) : R2 := fun x y H Q => ∃ a v, x = .ref a ∧ DG K H a y (some v) ∧ Q v H
def rDIn (K : PySem.W.Frag) (neg : Bool) : R2 := fun y x H Q => ∃ a o, x = .ref a ∧ DG K H a y o ∧ Q (.bl (if neg then !o.isSome else o.isSome)) H
theorem dg_typeIs (I : Inv X pins σ H s) (g : DG X.K H a y o) : s.TypeIs (.ref a) "dict" := by
  obtain ⟨kvs, k, b, e, _, _, _⟩ := g
  obtain ⟨_, _, xs, _, dd⟩ := dt_of I.hok e
  exact dd.typeIs
theorem op_din (hu : X.A.units + 1 < cLine) : OpR X (compareOp .In) (rDIn X.K false) := by
  intro pins s σ H x y v u Q I rx ry h
  obtain ⟨a, ov, ex, g, q⟩ := h
  subst ex
  obtain rfl : u = Value.ref a := ry
  exact dg_in hu I g rx fun s3 I3 => ⟨.bl ov.isSome, H, I3, rfl, q⟩
theorem op_dnin (hu : X.A.units + 1 < cLine) : OpR X (compareOp .NotIn) (rDIn X.K true) := by
  intro pins s σ H x y v u Q I rx ry h
  obtain ⟨a, ov, ex, g, q⟩ := h
  subst ex
  obtain rfl : u = Value.ref a := ry
  exact dg_notIn hu I g rx fun s3 I3 => ⟨.bl (!ov.isSome), H, I3, rfl, q⟩
end
section
variable {X : Cx} {o i e value : Expr} {pos pos' : Pos} {td ty tv : TE}
theorem pe_dg (hu : X.A.units + 1 < cLine) (ho : PE X o td) (hi : PE X i ty) (hs : NoSl i) : PE X (.Subscript o i pos) (fun σ H Q => td σ H fun x H1 => ty σ H1 fun y H2 => rDG X.K x y H2 Q) := by
  refine ⟨fun pins s σ H Q I h => ?_⟩
  refine subD_of PySem.F.slot_dict_getitem.lookup hs (thn (ho.run pins s σ H _ I h) fun u s1 ⟨x, H1, I1, rx, q1⟩ => thn (hi.run pins s1 σ H1 _ I1 q1) fun iv s2 ⟨y, H2, I2, ry, a, v, ex, g, q2⟩ => ?_)
  subst ex
  obtain rfl : u = Value.ref a := rx
  exact ⟨dg_typeIs I2 g, dg_getItem hu I2 g ry fun w' s3 I3 rw' => ⟨v, H2, I3, rw', q2⟩⟩
def sDP (K : PySem.W.Frag) (td ty tv : TE) : TS := fun D σ H => tv σ H fun v H1 => td σ H1 fun x H2 => ty σ H2 fun y H3 => ∃ a H4, x = .ref a ∧ DP K H3 a y v H4 ∧ D.nx σ H4
theorem ps_dp (hu : X.A.units + 1 < cLine) (ho : PE X o td) (hi : PE X i ty) (hv : PE X value tv) (hs : swapsWith value (some (.Subscript o i pos')) pos.line X.env = pure false) :
    PS X (.Assign [.Subscript o i pos'] value pos) (sDP X.K td ty tv) := by
  refine ⟨fun pins s σ H D I h => ?_⟩
  refine wpAny_Assign_Subscript (thn (hv.run pins s σ H _ I h) fun r s1 ⟨v, H1, I1, rv, q1⟩ => thn (ho.run pins s1 σ H1 _ I1 q1) fun u s2 ⟨x, H2, I2, rx, q2⟩ => thn (hi.run pins s2 σ H2 _ I2 q2) fun iv s3 ⟨y, H3, I3, ry, a, H4, ex, g, q3⟩ => ?_) hs
  subst ex
  obtain rfl : u = Value.ref a := rx
  exact dp_setItem hu I3 g ry rv fun s4 I4 => ⟨σ, H4, I4, q3⟩
end
end WM

/-! set of a tuple of whole numbers, to be sorted at once -/
namespace WM
open PySem PySem.Spec PyProof.Rows L2
section
variable {X : Cx}
def rSetT (K : PySem.W.Frag) (w : World) : List V → Hp → VK → Prop := fun xs H Q => ∃ (p : Addr) (ns : List Int), xs = [.ref p] ∧ SqT K H p (ns.map V.int) ∧ ns.length ≤ 1000 ∧
  ∀ (q : Addr) (c : Nat), H q = none → c ≤ ns.length → Q (.ref q) (upd H q (SetO w q (fun j => decide (j ∈ ns)) c))
theorem cr_setT (hc : X.calm = true) : CallR X (.type "set") (rSetT X.K X.w) := by
  intro pins s σ H xs us Q I r h
  obtain ⟨p0, ns, rfl, hq, hl, q⟩ := h
  rw [Vals.ref1 r]
  obtain ⟨its, rv, pt, hz⟩ := I.tuple hq
  have hi : IntsAre its.toArray.toList ns := ints_of_vals rv
  refine call_set_tupI ns (I.ok.hd hc) (show s.heap.IsTuple p0 its.toArray from pt) hi (by unfold scanBound; omega) fun h' tk c R1 hcn k => ?_
  exact ⟨.ref _, upd H s.heap.objs.size (SetO X.w s.heap.objs.size (fun j => decide (j ∈ ns)) c), I.laid (t' := tk) (fun b u e => k b u e) (Nat.le_refl _) (setO_new R1), rfl, q _ c (I.hok.fresh (Nat.le_refl _)) hcn⟩
end
/-- put in among rising numbers -/
def insU (n : Int) : List Int → List Int
  | [] => [n]
  | m :: ms => if n < m then n :: m :: ms else if n = m then m :: ms else m :: insU n ms
/-- the members, rising -/
def sortU : List Int → List Int
  | [] => []
  | n :: ns => insU n (sortU ns)
theorem insU_mem (n k : Int) : ∀ ms : List Int, k ∈ insU n ms ↔ k = n ∨ k ∈ ms
  | [] => by simp [insU]
  | m :: ms => by
    unfold insU
    split
    · simp
    · split
      · rename_i h; subst h; simp
      · simp only [List.mem_cons, insU_mem n k ms]
        constructor
        · rintro (h | h | h)
          · exact .inr (.inl h)
          · exact .inl h
          · exact .inr (.inr h)
        · rintro (h | h | h)
          · exact .inr (.inl h)
          · exact .inl h
          · exact .inr (.inr h)
theorem insU_up (n : Int) : ∀ ms : List Int, ms.Pairwise (· < ·) → (insU n ms).Pairwise (· < ·)
  | [], _ => by simp [insU]
  | m :: ms, h => by
    rw [List.pairwise_cons] at h
    unfold insU
    split
    · rename_i hn
      rw [List.pairwise_cons]
      refine ⟨fun a ha => ?_, List.pairwise_cons.mpr h⟩
      rcases List.mem_cons.mp ha with rfl | ha
      · exact hn
      · have := h.1 a ha; omega
    · split
      · exact List.pairwise_cons.mpr h
      · rw [List.pairwise_cons]
        refine ⟨fun a ha => ?_, insU_up n ms h.2⟩
        rcases (insU_mem n a ms).mp ha with rfl | ha
        · omega
        · exact h.1 a ha
theorem sortU_mem (k : Int) : ∀ ns : List Int, k ∈ sortU ns ↔ k ∈ ns
  | [] => Iff.rfl
  | n :: ns => by
    show k ∈ insU n (sortU ns) ↔ _
    rw [insU_mem, sortU_mem k ns, List.mem_cons]
theorem sortU_up : ∀ ns : List Int, (sortU ns).Pairwise (· < ·)
  | [] => .nil
  | n :: ns => insU_up n _ (sortU_up ns)
theorem up_uniq : ∀ {a b : List Int}, a.Pairwise (· < ·) → b.Pairwise (· < ·) → (∀ k, k ∈ a ↔ k ∈ b) → a = b
  | [], [], _, _, _ => rfl
  | [], y :: b, _, _, h => absurd ((h y).mpr List.mem_cons_self) (nofun)
  | x :: a, [], _, _, h => absurd ((h x).mp List.mem_cons_self) (nofun)
  | x :: a, y :: b, ha, hb, h => by
    rw [List.pairwise_cons] at ha hb
    have e : x = y := by
      rcases List.mem_cons.mp ((h x).mp List.mem_cons_self) with e | e
      · exact e
      · rcases List.mem_cons.mp ((h y).mpr List.mem_cons_self) with e2 | e2
        · exact e2.symm
        · have := hb.1 x e
          have := ha.1 y e2
          omega
    subst e
    rw [up_uniq ha.2 hb.2 fun k => ?_]
    constructor
    · intro hk
      rcases List.mem_cons.mp ((h k).mp (List.mem_cons_of_mem _ hk)) with e | e
      · have := ha.1 k hk; omega
      · exact e
    · intro hk
      rcases List.mem_cons.mp ((h k).mpr (List.mem_cons_of_mem _ hk)) with e | e
      · have := hb.1 k hk; omega
      · exact e
end WM

/-! a text turned round: text[::-1] -/
namespace WM
open PySem PySem.Spec PyProof.Rows L2
section
variable {X : Cx}
def revS (z : Str) : Str := ⟨z.cps.toList.reverse.toArray⟩
theorem revS_len (z : Str) : (revS z).length = z.length := by
  show (z.cps.toList.reverse.toArray).size = z.cps.size
  simp
theorem revS_picked (z : Str) : (⟨((Builtin.Str.strSliceIndices none none (-1) z.length).filterMap (z.cps[·]?)).toArray⟩ : Str) = revS z := by
  have e : (Builtin.Str.strSliceIndices none none (-1) z.length).filterMap (z.cps[·]?) = z.cps.toList.reverse := by
    rw [picked_rev, filterMap_get, List.map_map]
    · refine List.ext_getElem? fun i => ?_
      rw [List.getElem?_map]
      by_cases hi : i < z.length
      · have hs : z.length = z.cps.size := rfl
        rw [List.getElem?_range hi, List.getElem?_reverse (by rw [Array.length_toList]; omega), Array.length_toList]
        show some (z.cps.getD (z.length - 1 - i) 0) = _
        have h2 : z.cps.size - 1 - i < z.cps.size := by omega
        rw [Array.getElem?_toList, Array.getElem?_eq_getElem h2, hs]
        simp [Array.getD, h2]
      · rw [List.getElem?_eq_none (by simpa using hi), List.getElem?_eq_none (by rw [List.length_reverse, Array.length_toList]; exact Nat.not_lt.mp hi)]; rfl
    · intro i hi
      obtain ⟨k, hk, rfl⟩ := List.mem_map.mp hi
      have hk' : k < z.length := List.mem_range.mp hk
      show z.length - 1 - k < z.length
      omega
  rw [e]; rfl
def tRevS (te : TE) : TE := fun σ H Q => te σ H fun x H1 => ∃ z, x = .str z ∧ z.length ≤ sizeLine ∧ Q (.str (revS z)) H1
theorem pe_revS {e : Expr} {te : TE} {k : Nat} {p1 p2 p3 pos : Pos} (he : PE X e te) : PE X (.Subscript e (.Slice none none (some (.UnaryOp .USub (.Constant (.int 1) k p1) p2)) p3) pos) (tRevS te) := by
  refine ⟨fun pins s σ H Q I h => ?_⟩
  refine Subscript_ (thn (he.run pins s σ H _ I h) fun v s1 ⟨x, H1, I1, r1, q1⟩ => ?_)
  obtain ⟨z, ex, hz, q⟩ := q1
  subst ex
  obtain ⟨tz, rfl⟩ := r1
  have hst : PO X (some (.UnaryOp .USub (.Constant (.int 1) k p1) p2)) (tPart (tUn (rU fun i => .int (-i)) (tC (.int 1)))) := po_some (pe_un un_neg pe_int)
  refine wpAny_Slice (thn (po_none.run pins s1 σ H1 (fun o H2 => o = none ∧ H2 = H1) I1 ⟨rfl, rfl⟩) fun vl s2 ⟨l, H2, I2, pl, el, e2⟩ => ?_)
  subst el e2
  refine thn (po_none.run pins s2 σ H2 (fun o H3 => o = none ∧ H3 = H2) I2 ⟨rfl, rfl⟩) fun vu s3 ⟨u, H3, I3, pu, eu, e3⟩ => ?_
  subst eu e3
  refine thn (hst.run pins s3 σ H3 (fun o H4 => o = some (-1) ∧ H4 = H3) I3 ⟨1, rfl, -1, rfl, rfl, rfl⟩) fun vs s4 ⟨o, H4, I4, ps, eo, e4⟩ => ?_
  subst eo e4
  have I5 : Inv X pins σ H4 { s4 with heap := s4.heap.push { cls := .type "slice", data := .fields #[vl, vu, vs] } } := I4.kept (t' := s4.toks) fun b ob q => Heap.get?_push_of_some _ q
  obtain ⟨l', rfl, hl'⟩ := IsPart.raw pl
  obtain ⟨u', rfl, hu'⟩ := IsPart.raw pu
  obtain ⟨t', rfl, ht'⟩ := IsPart.raw ps
  have hl0 : l' = none := by cases l' <;> first | rfl | cases hl'
  have hu0 : u' = none := by cases u' <;> first | rfl | cases hu'
  subst hl0
  subst hu0
  obtain ⟨tk, et⟩ : ∃ tk, t' = some (-1, tk) := by
    cases t' with
    | none => cases ht'
    | some p => obtain ⟨a, b⟩ := p; cases ht'; exact ⟨b, rfl⟩
  subst et
  show wpAny (model X.prog X.w) X.A (subscriptTail e (.Slice none none (some (.UnaryOp .USub (.Constant (.int 1) k p1) p2)) p3) (.str z tz) (.ref s4.heap.objs.size)) (EP X pins σ Q) X.xe _
  refine tail_any (ops := [.str z tz, .ref s4.heap.objs.size]) (typeIs_str _ _ _) (PySem.F.slot_str_getitem.lookup) ?_ (by with_unfolding_all rfl)
  refine wpAny_getItem_str_slice (l := none) (u := none) (st := some (-1, tk)) ⟨_, Heap.get?_push_size _ rfl, rfl, rfl⟩ rfl ?_
  show Made.post (if ((-1 : Int) == 1 && (Builtin.Str.strSliceIndices none none (-1) z.length).length == z.length) = true then Made.val (.str z tz)
    else Made.str ⟨((Builtin.Str.strSliceIndices none none (-1) z.length).filterMap (z.cps[·]?)).toArray⟩) (EP X pins σ Q) _
  rw [if_neg (by rw [show ((-1 : Int) == 1) = false from rfl, Bool.false_and]; decide), revS_picked]
  exact ⟨by rw [revS_len]; exact hz, .str _, H4, I5.tok _, ⟨_, rfl⟩, q⟩
end
end WM

/-! WM: trees, owned lists, slots; what it means that a heap bears them. -/
namespace WM
open PySem L2

/-- data: what never changes any more -/
inductive D where
  | non | bl (b : Bool) | int (i : Int) | str (s : Str)
  | tup (xs : List D) | lst (xs : List D)
  | scr (ns : List Int)
  | dic (ks : List (Int × Int)) (ds : List D)
  deriving Inhabited
/-- owned: data, or a list that only we know -/
inductive Ow where
  | d (x : D) | l (xs : List Ow) | m (ks : List (Int × Int)) (ds : List D)
  deriving Inhabited
mutual
def Ow.toD : Ow → D
  | .d x => x
  | .l xs => .lst (Ow.toDs xs)
  | .m ks ds => .dic ks ds
def Ow.toDs : List Ow → List D
  | [] => []
  | x :: xs => x.toD :: Ow.toDs xs
end
theorem Ow.toDs_eq (xs : List Ow) : Ow.toDs xs = xs.map Ow.toD := by
  induction xs with
  | nil => rfl
  | cons x xs ih => simp [Ow.toDs, ih]
/-- a value: owned by whoever holds it, or lent -/
inductive Vl where
  | ow (o : Ow) | bw (o : Ow)
  deriving Inhabited
abbrev dv (x : D) : Vl := .ow (.d x)
/-- lending a part: data is data -/
def Ow.lend : Ow → Vl
  | .d x => .ow (.d x)
  | .l xs => .bw (.l xs)
  | .m ks ds => .bw (.m ks ds)
/-- a dict's entries, its keys being pairs of ints -/
def kvsOf : List (Int × Int) → List V → List (List Key × V)
  | k :: ks, v :: vs => ([.inl k.1, .inl k.2], v) :: kvsOf ks vs
  | _, _ => []
inductive Sl where
  | no | val (o : Ow) | bor (o : Ow) | ref (o : Ow)
  deriving Inhabited
abbrev Env := List Sl

section
variable (K : PySem.W.Frag)
mutual
inductive Rp (H : Hp) : V → D → Prop
  | non : Rp H .non .non
  | bl (b : Bool) : Rp H (.bl b) (.bl b)
  | int (i : Int) : Rp H (.int i) (.int i)
  | str (x : Str) : Rp H (.str x) (.str x)
  | tup {a : Addr} {vs : List V} {ds : List D} : SqT K H a vs → RpL H vs ds → Rp H (.ref a) (.tup ds)
  | lst {a : Addr} {vs : List V} {ds : List D} : H a = some (.lst vs) → RpL H vs ds → Rp H (.ref a) (.lst ds)
  | scr {a : Addr} {ns : List Int} : SqL K H a (ns.map V.int) → Rp H (.ref a) (.scr ns)
  | dic {a : Addr} {ks : List (Int × Int)} {vs : List V} {ds : List D} : H a = some (.dT (kvsOf ks vs)) → ks.length = ds.length → RpL H vs ds → Rp H (.ref a) (.dic ks ds)
inductive RpL (H : Hp) : List V → List D → Prop
  | nil : RpL H [] []
  | cons {v : V} {vs : List V} {d : D} {ds : List D} : Rp H v d → RpL H vs ds → RpL H (v :: vs) (d :: ds)
end
end
abbrev Disj (a b : List Addr) : Prop := ∀ x, x ∈ a → x ∈ b → False
section
variable (K : PySem.W.Frag)
mutual
inductive RO (Hb H : Hp) : V → Ow → List Addr → Prop
  | d {v : V} {x : D} : Rp K Hb v x → RO Hb H v (.d x) []
  | l {p : Addr} {vs : List V} {os : List Ow} {fp : List Addr} : Hb p = none → H p = some (.lst vs) → ROs Hb H vs os fp → p ∉ fp → RO Hb H (.ref p) (.l os) (p :: fp)
  | m {p : Addr} {ks : List (Int × Int)} {vs : List V} {ds : List D} : Hb p = none → H p = some (.dT (kvsOf ks vs)) → ks.length = ds.length → RpL K Hb vs ds → RO Hb H (.ref p) (.m ks ds) [p]
inductive ROs (Hb H : Hp) : List V → List Ow → List Addr → Prop
  | nil : ROs Hb H [] [] []
  | cons {v : V} {vs : List V} {o : Ow} {os : List Ow} {f1 f2 : List Addr} : RO Hb H v o f1 → ROs Hb H vs os f2 → Disj f1 f2 → ROs Hb H (v :: vs) (o :: os) (f1 ++ f2)
end
end

section
variable {K : PySem.W.Frag} {H H' Hb Hb' : Hp}
theorem same_t {a : Addr} {xs : List V} (e : Same H H') (h : SqT K H a xs) : SqT K H' a xs := by
  rcases h with (h | ⟨o, h⟩) | h
  · exact .inl (.inl (e _ _ h))
  · exact .inl (.inr ⟨o, e _ _ h⟩)
  · exact .inr h
mutual
theorem Rp.mono (e : Same H H') : ∀ (d : D) (v : V), Rp K H v d → Rp K H' v d
  | .non, _, h => by cases h; exact .non
  | .bl b, _, h => by cases h; exact .bl b
  | .int i, _, h => by cases h; exact .int i
  | .str x, _, h => by cases h; exact .str x
  | .tup ds, _, h => by
    cases h with
    | tup hs ha => exact .tup (same_t e hs) (RpL.mono e ds _ ha)
  | .lst ds, _, h => by
    cases h with
    | lst hs ha => exact .lst (e _ _ hs) (RpL.mono e ds _ ha)
  | .scr ns, _, h => by
    cases h with
    | scr hs => exact .scr (e.seq hs)
  | .dic ks ds, _, h => by
    cases h with
    | dic hs hl ha => exact .dic (e _ _ hs) hl (RpL.mono e ds _ ha)
theorem RpL.mono (e : Same H H') : ∀ (ds : List D) (vs : List V), RpL K H vs ds → RpL K H' vs ds
  | [], _, h => by cases h; exact .nil
  | d :: ds, _, h => by
    cases h with
    | cons h1 h2 => exact .cons (Rp.mono e d _ h1) (RpL.mono e ds _ h2)
end
theorem RpL.length : ∀ {vs : List V} {ds : List D}, RpL K H vs ds → vs.length = ds.length
  | _, _, .nil => rfl
  | _, _, .cons _ t => by simp [RpL.length t]
theorem RpL.get : ∀ {vs : List V} {ds : List D} {i : Nat} {d : D}, RpL K H vs ds → ds[i]? = some d → ∃ v, vs[i]? = some v ∧ Rp K H v d
  | _, _, _, _, .nil, e => by simp at e
  | _, _, 0, _, .cons r _, e => by simp at e; subst e; exact ⟨_, rfl, r⟩
  | _, _, i + 1, _, .cons _ t, e => by
    obtain ⟨v, h1, h2⟩ := RpL.get (i := i) t (by simpa using e)
    exact ⟨v, by simpa using h1, h2⟩
theorem RpL.getV : ∀ {vs : List V} {ds : List D} {i : Nat} {v : V}, RpL K H vs ds → vs[i]? = some v → ∃ d, ds[i]? = some d ∧ Rp K H v d
  | _, _, _, _, .nil, e => by simp at e
  | _, _, 0, _, .cons r _, e => by simp at e; subst e; exact ⟨_, rfl, r⟩
  | _, _, i + 1, _, .cons _ t, e => by
    obtain ⟨v, h1, h2⟩ := RpL.getV (i := i) t (by simpa using e)
    exact ⟨v, by simpa using h1, h2⟩
theorem RpL.app : ∀ {vs ws : List V} {ds es : List D}, RpL K H vs ds → RpL K H ws es → RpL K H (vs ++ ws) (ds ++ es)
  | _, _, _, _, .nil, s => s
  | _, _, _, _, .cons r t, s => .cons r (RpL.app t s)
theorem RpL.take : ∀ {vs : List V} {ds : List D} (n : Nat), RpL K H vs ds → RpL K H (vs.take n) (ds.take n)
  | _, _, 0, _ => by simp; exact .nil
  | _, _, n + 1, .nil => by simp; exact .nil
  | _, _, n + 1, .cons r t => by simp; exact .cons r (RpL.take n t)
theorem RpL.drop : ∀ {vs : List V} {ds : List D} (n : Nat), RpL K H vs ds → RpL K H (vs.drop n) (ds.drop n)
  | _, _, 0, h => by simpa using h
  | _, _, n + 1, .nil => by simp; exact .nil
  | _, _, n + 1, .cons r t => by simpa using RpL.drop n t
theorem RpL.ints : ∀ {ns : List Int}, RpL K H (ns.map V.int) (ns.map D.int)
  | [] => .nil
  | n :: ns => .cons (.int n) RpL.ints
/- owned stays owned where its own places are untouched -/
mutual
theorem RO.mono (e : Same Hb Hb') : ∀ (o : Ow) (v : V) (fp : List Addr), (∀ a ∈ fp, H' a = H a ∧ Hb' a = none) → RO K Hb H v o fp → RO K Hb' H' v o fp
  | .d x, _, _, _, h => by
    cases h with
    | d h => exact .d (Rp.mono e x _ h)
  | .l os, _, _, k, h => by
    cases h with
    | @l p vs _ fp h1 h2 h3 h4 =>
      have kp := k p List.mem_cons_self
      exact .l kp.2 (by rw [kp.1]; exact h2) (ROs.mono e os _ fp (fun a ha => k a (List.mem_cons_of_mem _ ha)) h3) h4
  | .m ks ds, _, _, k, h => by
    cases h with
    | @m p _ vs _ h1 h2 h3 h4 =>
      have kp := k p List.mem_cons_self
      exact .m kp.2 (by rw [kp.1]; exact h2) h3 (RpL.mono e ds _ h4)
theorem ROs.mono (e : Same Hb Hb') : ∀ (os : List Ow) (vs : List V) (fp : List Addr), (∀ a ∈ fp, H' a = H a ∧ Hb' a = none) → ROs K Hb H vs os fp → ROs K Hb' H' vs os fp
  | [], _, _, _, h => by cases h; exact .nil
  | o :: os, _, _, k, h => by
    cases h with
    | @cons v vs _ _ f1 f2 h1 h2 h3 =>
      exact .cons (RO.mono e o _ f1 (fun a ha => k a (List.mem_append_left _ ha)) h1) (ROs.mono e os _ f2 (fun a ha => k a (List.mem_append_right _ ha)) h2) h3
end
mutual
theorem RO.at_ : ∀ {v : V} {o : Ow} {fp : List Addr}, RO K Hb H v o fp → ∀ a ∈ fp, Hb a = none ∧ H a ≠ none
  | _, _, _, .d _, a, ha => by cases ha
  | _, _, _, .l h1 h2 h3 _, a, ha => by
    rcases List.mem_cons.mp ha with rfl | ha
    · exact ⟨h1, by rw [h2]; exact nofun⟩
    · exact ROs.at_ h3 a ha
  | _, _, _, .m h1 h2 _ _, a, ha => by
    rw [List.mem_singleton.mp ha]
    exact ⟨h1, by rw [h2]; exact nofun⟩
theorem ROs.at_ : ∀ {vs : List V} {os : List Ow} {fp : List Addr}, ROs K Hb H vs os fp → ∀ a ∈ fp, Hb a = none ∧ H a ≠ none
  | _, _, _, .nil, a, ha => by cases ha
  | _, _, _, .cons h1 h2 _, a, ha => by
    rcases List.mem_append.mp ha with ha | ha
    · exact RO.at_ h1 a ha
    · exact ROs.at_ h2 a ha
end
/- the places are told by the value -/
mutual
theorem RO.fpu : ∀ {o : Ow} {v : V} {f g : List Addr}, RO K Hb H v o f → RO K Hb H v o g → f = g
  | .d _, _, _, _, .d _, .d _ => rfl
  | .l _, _, _, _, .l _ h2 h3 _, .l _ k2 k3 _ => by
    rw [h2] at k2; cases k2
    rw [ROs.fpu h3 k3]
  | .m _ _, _, _, _, .m _ _ _ _, .m _ _ _ _ => rfl
theorem ROs.fpu : ∀ {os : List Ow} {vs : List V} {f g : List Addr}, ROs K Hb H vs os f → ROs K Hb H vs os g → f = g
  | [], _, _, _, .nil, .nil => rfl
  | _ :: _, _, _, _, .cons a b _, .cons c d _ => by rw [RO.fpu a c, ROs.fpu b d]
end
theorem ROs.length : ∀ {vs : List V} {os : List Ow} {fp : List Addr}, ROs K Hb H vs os fp → vs.length = os.length
  | _, _, _, .nil => rfl
  | _, _, _, .cons _ t _ => by simp [ROs.length t]
theorem ROs.get : ∀ {vs : List V} {os : List Ow} {fp : List Addr} {i : Nat} {o : Ow}, ROs K Hb H vs os fp → os[i]? = some o → ∃ v f, vs[i]? = some v ∧ RO K Hb H v o f ∧ ∀ a ∈ f, a ∈ fp
  | _, _, _, _, _, .nil, e => by simp at e
  | _, _, _, 0, _, .cons r _ _, e => by simp at e; subst e; exact ⟨_, _, rfl, r, fun a h => List.mem_append_left _ h⟩
  | _, _, _, i + 1, _, .cons _ t _, e => by
    obtain ⟨v, f, h1, h2, h3⟩ := ROs.get (i := i) t (by simpa using e)
    exact ⟨v, f, by simpa using h1, h2, fun a h => List.mem_append_right _ (h3 a h)⟩
theorem ROs.ofD : ∀ {vs : List V} {ds : List D}, RpL K Hb vs ds → ROs K Hb H vs (ds.map Ow.d) []
  | _, _, .nil => .nil
  | _, _, .cons r t => by
    have := ROs.cons (f1 := []) (f2 := []) (RO.d r) (ROs.ofD t) (fun _ h => by cases h)
    simpa using this

/-- to freeze: what stands at fp becomes the frozen part's -/
def froze (Hb H : Hp) (fp : List Addr) : Hp := fun a => if a ∈ fp then H a else Hb a
theorem froze_same {fp : List Addr} (h : ∀ a ∈ fp, Hb a = none) : Same Hb (froze Hb H fp) := fun b o e => by
  unfold froze
  by_cases hb : b ∈ fp
  · rw [h b hb] at e; cases e
  · rw [if_neg hb]; exact e
theorem froze_ex {fp : List Addr} (h : Same Hb H) : Same (froze Hb H fp) H := fun b o e => by
  unfold froze at e
  by_cases hb : b ∈ fp
  · rw [if_pos hb] at e; exact e
  · rw [if_neg hb] at e; exact h b o e
theorem froze_out {fp : List Addr} {a : Addr} (h : a ∉ fp) (n : Hb a = none) : froze Hb H fp a = none := by
  unfold froze; rw [if_neg h]; exact n
theorem froze_in {fp : List Addr} {a : Addr} (h : a ∈ fp) : froze Hb H fp a = H a := by
  unfold froze; rw [if_pos h]
mutual
theorem RO.frz {gp : List Addr} (hs : Same Hb (froze Hb H gp)) : ∀ (o : Ow) (v : V) (fp : List Addr), RO K Hb H v o fp → (∀ a ∈ fp, a ∈ gp) → Rp K (froze Hb H gp) v o.toD
  | .d x, _, _, h, _ => by
    cases h with
    | d h => simpa [Ow.toD] using Rp.mono hs x _ h
  | .l os, _, _, h, k => by
    cases h with
    | @l p vs _ fp h1 h2 h3 h4 =>
      simp only [Ow.toD]
      exact .lst (by rw [froze_in (k p List.mem_cons_self)]; exact h2) (ROs.frz hs os _ fp h3 fun a ha => k a (List.mem_cons_of_mem _ ha))
  | .m ks ds, _, _, h, k => by
    cases h with
    | @m p _ vs _ h1 h2 h3 h4 =>
      simp only [Ow.toD]
      exact .dic (by rw [froze_in (k p List.mem_cons_self)]; exact h2) h3 (RpL.mono hs ds _ h4)
theorem ROs.frz {gp : List Addr} (hs : Same Hb (froze Hb H gp)) : ∀ (os : List Ow) (vs : List V) (fp : List Addr), ROs K Hb H vs os fp → (∀ a ∈ fp, a ∈ gp) → RpL K (froze Hb H gp) vs (Ow.toDs os)
  | [], _, _, h, _ => by cases h; simpa [Ow.toDs] using RpL.nil
  | o :: os, _, _, h, k => by
    cases h with
    | @cons v vs _ _ f1 f2 h1 h2 h3 =>
      simp only [Ow.toDs]
      exact .cons (RO.frz hs o _ f1 h1 fun a ha => k a (List.mem_append_left _ ha)) (ROs.frz hs os _ f2 h2 fun a ha => k a (List.mem_append_right _ ha))
end
end

/-- a frame's constants: F, what others hold and lend; G, what is held meanwhile; Hp: as it stood -/
structure Fz where
  F : Addr → Prop
  G : Addr → Prop
  hp : Hp
/-- the slots of a frame. M: the slots that may be changed now -/
structure StR (K : PySem.W.Frag) (M : Nat → Bool) (bp : List (Nat × Addr)) (Z : Fz) (fpf : Nat → List Addr) (Hb H : Hp) (σ : L2.St) (ρ : Env) : Prop where
  ex : Same Hb H
  fr : ∀ a, Z.F a ∨ Z.G a → H a = Z.hp a ∧ Hb a = none ∧ H a ≠ none
  len : ρ.length = σ.length
  sl : ∀ (i : Nat) (s : Sl), ρ[i]? = some s → match s with
    | .no => True
    | .bor o => ∃ v fp, σ[i]? = some (some v) ∧ RO K Hb H v o fp ∧ ∀ a ∈ fp, Z.F a
    | .val o => if M i = true then ∃ v, σ[i]? = some (some v) ∧ RO K Hb H v o (fpf i) else ∃ v fp, σ[i]? = some (some v) ∧ RO K Hb H v o fp ∧ ∀ a ∈ fp, Z.F a
    | .ref o => (∃ p, (i, p) ∈ bp ∧ σ[i]? = some (some (.ref p))) ∧ if M i = true then ∃ v, σ[i]? = some (some v) ∧ RO K Hb H v o (fpf i) else ∃ v fp, σ[i]? = some (some v) ∧ RO K Hb H v o fp ∧ ∀ a ∈ fp, Z.F a
  sep : ∀ i j, i ≠ j → Disj (fpf i) (fpf j)
  nf : ∀ i, ∀ a ∈ fpf i, ¬ (Z.F a ∨ Z.G a)
  hb : ∀ i, ∀ a ∈ fpf i, Hb a = none ∧ H a ≠ none
  off : ∀ i, M i = false → fpf i = []
/-- a value in hand -/
def RVl (K : PySem.W.Frag) (Z : Fz) (fpf : Nat → List Addr) (Hb H : Hp) (v : V) (x : Vl) (fp : List Addr) : Prop :=
  match x with
  | .ow o => RO K Hb H v o fp ∧ (∀ a ∈ fp, ¬ (Z.F a ∨ Z.G a)) ∧ ∀ i, Disj (fpf i) fp
  | .bw o => ∃ f, RO K Hb H v o f ∧ (∀ a ∈ f, Z.F a) ∧ fp = []
/-- .. while more is held -/
def Fz.more (Z : Fz) (H : Hp) (fp : List Addr) : Fz := ⟨Z.F, fun a => Z.G a ∨ a ∈ fp, H⟩

section
variable {K : PySem.W.Frag} {M : Nat → Bool} {bp : List (Nat × Addr)} {Z : Fz} {fpf fpf' : Nat → List Addr} {Hb Hb' H H' : Hp} {σ : L2.St} {ρ ρ' : Env} {v : V} {x : Vl} {fp : List Addr}
/-- what is in hand is held through what follows -/
theorem StR.hold (S : StR K M bp Z fpf Hb H σ ρ) (r : RVl K Z fpf Hb H v x fp) : StR K M bp (Z.more H fp) fpf Hb H σ ρ := by
  have hfp : ∀ a ∈ fp, Hb a = none ∧ H a ≠ none := by
    cases x with
    | ow o => exact r.1.at_
    | bw o => obtain ⟨f, _, _, e⟩ := r; subst e; exact fun a h => nomatch h
  refine ⟨S.ex, fun a ha => ?_, S.len, S.sl, S.sep, fun i a ha => ?_, S.hb, S.off⟩
  · refine ⟨rfl, ?_⟩
    rcases ha with ha | ha | ha
    · exact (S.fr a (.inl ha)).2
    · exact (S.fr a (.inr ha)).2
    · exact hfp a ha
  · rintro (h | h | h)
    · exact S.nf i a ha (.inl h)
    · exact S.nf i a ha (.inr h)
    · cases x with
      | ow o => exact r.2.2 i a ha h
      | bw o => obtain ⟨f, _, _, e⟩ := r; subst e; cases h
theorem StR.letgo (S : StR K M bp (Z.more H fp) fpf' Hb' H' σ ρ') (fr0 : ∀ a, Z.F a ∨ Z.G a → H a = Z.hp a) : StR K M bp Z fpf' Hb' H' σ ρ' :=
  ⟨S.ex, fun a ha => by
    have q := S.fr a (ha.elim .inl fun h => .inr (.inl h))
    exact ⟨q.1.trans (fr0 a ha), q.2⟩, S.len, S.sl, S.sep, fun i a ha q => S.nf i a ha (q.elim .inl fun h => .inr (.inl h)), S.hb, S.off⟩
/-- .. and still is what it was -/
theorem RVl.kept (r : RVl K Z fpf Hb H v x fp) (S : StR K M bp Z fpf Hb H σ ρ) (e : Same Hb Hb') (S' : StR K M bp (Z.more H fp) fpf' Hb' H' σ ρ') : RVl K Z fpf' Hb' H' v x fp := by
  cases x with
  | ow o =>
    refine ⟨RO.mono e o v fp (fun a ha => ?_) r.1, r.2.1, fun i a h1 h2 => S'.nf i a h1 (.inr (.inr h2))⟩
    have q := S'.fr a (.inr (.inr ha))
    exact ⟨q.1, q.2.1⟩
  | bw o =>
    obtain ⟨f, h1, h2, h3⟩ := r
    refine ⟨f, RO.mono e o v f (fun a ha => ?_) h1, h2, h3⟩
    have q := S'.fr a (.inl (h2 a ha))
    exact ⟨q.1, q.2.1⟩
end
end WM

/-! WM: the evaluator. -/
namespace WM
open PySem L2

/-! ### data as PyData, equality -/
mutual
def D.toP : D → PyData
  | .non => .none
  | .bl b => .bool b
  | .int i => .int i
  | .str s => .str s
  | .tup xs => .tuple (D.toPs xs)
  | .lst xs => .list (D.toPs xs)
  | .scr ns => .list (ns.map PyData.int)
  | .dic _ _ => .none
def D.toPs : List D → List PyData
  | [] => []
  | x :: xs => x.toP :: D.toPs xs
end
mutual
def D.dep : D → Nat
  | .tup xs => D.deps xs + 1
  | .lst xs => D.deps xs + 1
  | .scr _ => 1
  | _ => 0
def D.deps : List D → Nat
  | [] => 0
  | x :: xs => max x.dep (D.deps xs)
end
mutual
def D.lay : D → Bool
  | .str s => PyData.canLay0 (.str s)
  | .tup xs => D.lays xs
  | .lst xs => D.lays xs
  | _ => true
def D.lays : List D → Bool
  | [] => true
  | x :: xs => x.lay && D.lays xs
end
def D.fit (x : D) : Bool := x.lay && decide (x.dep ≤ 64)
mutual
def D.eqv : D → D → Bool
  | .non, .non => true
  | .bl a, .bl b => a == b
  | .bl a, .int j => (if a then 1 else 0) == j
  | .int i, .bl b => i == (if b then 1 else 0)
  | .int i, .int j => i == j
  | .str x, .str y => x == y
  | .tup xs, .tup ys => D.eqvs xs ys
  | .lst xs, .lst ys => D.eqvs xs ys
  | _, _ => false
def D.eqvs : List D → List D → Bool
  | [], [] => true
  | x :: xs, y :: ys => D.eqv x y && D.eqvs xs ys
  | _, _ => false
end
/- no script within -/
mutual
def D.nos : D → Bool
  | .scr _ => false
  | .dic _ _ => false
  | .tup xs => D.noss xs
  | .lst xs => D.noss xs
  | _ => true
def D.noss : List D → Bool
  | [] => true
  | x :: xs => x.nos && D.noss xs
end

/-! ### values -/
def Vl.data : Vl → Option D
  | .ow o => some o.toD
  | .bw (.d x) => some x
  | .bw (.l _) => none
  | .bw (.m _ _) => none
/-- to be looked at -/
def Vl.look : Vl → D
  | .ow o => o.toD
  | .bw o => o.toD
/-- what is walked -/
def Vl.items : Vl → Option (List Vl)
  | .ow (.d (.tup xs)) => some (xs.map dv)
  | .ow (.d (.lst xs)) => some (xs.map dv)
  | .ow (.d (.scr ns)) => some (ns.map fun n => dv (.int n))
  | .ow (.l os) => some (os.map fun o => dv o.toD)
  | .bw (.l os) => some (os.map Ow.lend)
  | _ => none
def Vl.isBw : Vl → Bool
  | .bw _ => true
  | _ => false
/-- no walking of what is lent: told by this slot's number -/
def noW : Nat := 1000000
def itemsM (M : Nat → Bool) (x : Vl) : Option (List Vl) := if M noW && x.isBw then none else x.items
/-- the parts of a list, to be a new list's own -/
def Vl.parts : Vl → Option (List Ow)
  | .ow (.d (.lst xs)) => some (xs.map Ow.d)
  | .ow (.l os) => some os
  | .bw (.l os) => if os.all (fun | .d _ => true | _ => false) then some os else none
  | _ => none
def D.ints? : List D → Option (List Int)
  | [] => some []
  | .int i :: r => (D.ints? r).map (i :: ·)
  | _ :: _ => none
def D.bls? : List D → Option (List Bool)
  | [] => some []
  | .bl b :: r => (D.bls? r).map (b :: ·)
  | _ :: _ => none
/-- a list (no tuple) of which -/
def D.lst? : D → Option (List D)
  | .lst xs => some xs
  | _ => none
/-- a list or a tuple of which -/
def D.lot? : D → Option (List D)
  | .lst xs => some xs
  | .tup xs => some xs
  | _ => none
def D.seq? : D → Option (List D)
  | .lst xs => some xs
  | .tup xs => some xs
  | .scr ns => some (ns.map D.int)
  | _ => none

/-- the whole numbers of a tuple -/
def tupI : D → Option (List Int)
  | .tup ds => D.ints? ds
  | _ => none
inductive BO where
  | add | sub | mul | mod | fdiv | pow | shl | shr | band
  | lt | le | gt | ge | eq | ne | isIn | notIn | cat | rep | tcat | trep | isB | ntB | dget | scat | srep
  deriving DecidableEq, Inhabited
inductive UO where
  | len | abs | tuple | list | sum | any | all | int | max | neg | not | isN | notN | sorted | frz | str
  deriving DecidableEq, Inhabited
inductive Ty where
  | int | bool | tuple | list | str
  deriving DecidableEq, Inhabited

def small (n : Nat) : Bool := decide (n ≤ 100000)
def maxI : List Int → Option Int
  | [] => none
  | x :: xs => some (xs.foldl (fun a b => if a < b then b else a) x)

def intBO (o : BO) (i j : Int) : Option D :=
  match o with
  | .add => some (.int (i + j))
  | .sub => some (.int (i - j))
  | .mul => if i.natAbs.log2 + j.natAbs.log2 < 134000000 then some (.int (i * j)) else none
  | .mod => if j ≠ 0 then some (.int (i.fmod j)) else none
  | .fdiv => if j ≠ 0 then some (.int (i.fdiv j)) else none
  | .pow => if 0 ≤ j ∧ j ≤ 1000000 ∧ i.natAbs < 2 ^ 64 then some (.int (i ^ j.toNat)) else none
  | .shl => if 0 ≤ j ∧ j ≤ 1000000 ∧ i.natAbs < 2 ^ 64 then some (.int (i * 2 ^ j.toNat)) else none
  | .shr => if 0 ≤ j then some (.int (i / 2 ^ j.toNat)) else none
  | .band => some (.int (Builtin.bitAnd i j))
  | .lt => some (.bl (decide (i < j)))
  | .le => some (.bl (decide (i ≤ j)))
  | .gt => some (.bl (decide (j < i)))
  | .ge => some (.bl (decide (j ≤ i)))
  | _ => none
def D.flat : D → Bool
  | .non => true | .bl _ => true | .int _ => true | .str _ => true | _ => false
/-- what a dict holds at a key -/
def valK : List (Int × Int) → List D → Int → Int → Option D
  | k :: ks, d :: ds, a, b => if k.1 = a ∧ k.2 = b then some d else valK ks ds a b
  | _, _, _, _ => none
/-- .. put there -/
def setK : List (Int × Int) → List D → Int → Int → D → List D
  | k :: ks, d :: ds, a, b, x => (if k.1 = a ∧ k.2 = b then x else d) :: setK ks ds a b x
  | _, _, _, _, _ => []
/-- x in xs -/
def isInD (x y : D) : Option Bool :=
  match y with
  | .lst ys => if x.fit && (D.lst ys).fit && x.nos && D.noss ys then some (ys.any fun z => D.eqv z x) else none
  | .tup ys => if x.flat && ys.all D.flat then some (ys.any fun z => D.eqv z x) else if x.fit && (D.tup ys).fit && x.nos && D.noss ys then some (ys.any fun z => D.eqv z x) else none
  | .dic ks ds => match x with
    | .tup [.int a, .int b] => some (valK ks ds a b).isSome
    | _ => none
  | .str z => match x with
    | .str a => (match a.cps.toList with
      | [c] => some (decide (c ∈ z.cps.toList))
      | _ => none)
    | _ => none
  | _ => none
def binV (o : BO) (x y : Vl) : Option Vl :=
  match o with
  | .eq => if x.look.fit && y.look.fit && x.look.nos && y.look.nos then some (dv (.bl (D.eqv x.look y.look))) else none
  | .ne => if x.look.fit && y.look.fit && x.look.nos && y.look.nos then some (dv (.bl (!D.eqv x.look y.look))) else none
  | .isIn => (isInD x.look y.look).map fun b => dv (.bl b)
  | .notIn => (isInD x.look y.look).map fun b => dv (.bl (!b))
  | .cat => match x.parts, y.parts with
    | some a, some b => if small (a.length + b.length) then some (.ow (.l (a ++ b))) else none
    | _, _ => none
  | .rep => match x, y with
    | .ow (.l os), .ow (.d (.int k)) => if os.all (fun | .d _ => true | _ => false) && decide (0 ≤ k) && decide (k ≤ 1000) && small (os.length * k.toNat) then some (.ow (.l (List.replicate k.toNat os).flatten)) else none
    | _, _ => none
  | .tcat => match x, y with
    | .ow (.d (.tup a)), .ow (.d (.tup b)) => if small (a.length + b.length) then some (dv (.tup (a ++ b))) else none
    | _, _ => none
  | .trep => match x, y with
    | .ow (.d (.tup a)), .ow (.d (.int k)) => if !a.isEmpty && decide (0 ≤ k) && decide (k ≤ 1000) && decide (a.length ≤ 1000) then some (dv (.tup (List.replicate k.toNat a).flatten)) else none
    | _, _ => none
  | .isB => match x, y with
    | .ow (.d (.bl a)), .ow (.d (.bl b)) => some (dv (.bl (decide (a = b))))
    | _, _ => none
  | .ntB => match x, y with
    | .ow (.d (.bl a)), .ow (.d (.bl b)) => some (dv (.bl (!decide (a = b))))
    | _, _ => none
  | .scat => match x, y with
    | .ow (.d (.str a)), .ow (.d (.str b)) => if small (a.length + b.length) then some (dv (.str (a ++ b))) else none
    | _, _ => none
  | .srep => match x, y with
    | .ow (.d (.str a)), .ow (.d (.int k)) => if decide (0 ≤ k) && decide (k ≤ 1) && small a.length then some (dv (.str (if k = 0 then Str.empty else a))) else none
    | _, _ => none
  | .dget => match x.look, y with
    | .dic ks ds, .ow (.d (.tup [.int a, .int b])) => (valK ks ds a b).map dv
    | _, _ => none
  | _ => match x, y with
    | .ow (.d (.int i)), .ow (.d (.int j)) => (intBO o i j).map dv
    | _, _ => none
def D.isNon : D → Bool
  | .non => true
  | _ => false
def unV (o : UO) (x : Vl) : Option Vl :=
  match o with
  | .len => match x.look with
    | .lst xs => some (dv (.int xs.length))
    | .tup xs => some (dv (.int xs.length))
    | .scr xs => some (dv (.int xs.length))
    | .str s => if small s.length then some (dv (.int s.length)) else none
    | _ => none
  | .abs => match x with
    | .ow (.d (.int i)) => some (dv (.int (if i < 0 then -i else i)))
    | _ => none
  | .tuple => match x with
    | .ow (.d (.tup xs)) => some (dv (.tup xs))
    | .ow (.d (.lst xs)) => some (dv (.tup xs))
    | .ow (.l os) => some (dv (.tup (Ow.toDs os)))
    | .bw (.l os) => if os.all (fun | .d _ => true | _ => false) then some (dv (.tup (Ow.toDs os))) else none
    | _ => none
  | .list => match x with
    | .ow (.d (.tup xs)) => some (.ow (.l (xs.map Ow.d)))
    | .ow (.d (.lst xs)) => some (.ow (.l (xs.map Ow.d)))
    | .ow (.l os) => some (.ow (.l (os.map fun o => .d o.toD)))
    | .bw (.l os) => if os.all (fun | .d _ => true | _ => false) then some (.ow (.l os)) else none
    | _ => none
  | .sum => (x.look.lot?.bind D.ints?).map fun ns => dv (.int ns.sum)
  | .any => (x.look.lst?.bind D.bls?).map fun bs => dv (.bl (bs.any id))
  | .all => (x.look.lst?.bind D.bls?).map fun bs => dv (.bl (bs.all id))
  | .max => (x.look.lot?.bind D.ints?).bind fun ns => (maxI ns).map fun m => dv (.int m)
  | .int => match x with
    | .ow (.d (.int i)) => some (dv (.int i))
    | .ow (.d (.bl b)) => some (dv (.int (if b then 1 else 0)))
    | .ow (.d (.str a)) => if a.length ≤ 640 then (PySem.intText? a).map fun n => dv (.int n) else none
    | _ => none
  | .str => match x with
    | .ow (.d (.int i)) => if i.natAbs.log2 < 1920 then some (dv (.str (toString i))) else none
    | _ => none
  | .neg => match x with
    | .ow (.d (.int i)) => some (dv (.int (-i)))
    | _ => none
  | .not => match x with
    | .ow (.d (.bl b)) => some (dv (.bl (!b)))
    | _ => none
  | .isN => some (dv (.bl x.look.isNon))
  | .notN => some (dv (.bl (!x.look.isNon)))
  | .frz => match x with
    | .ow o => some (dv o.toD)
    | _ => none
  | .sorted => (x.look.lst?.bind D.ints?).bind fun ns => if ns.length < 64 then some (.ow (.l ((ns.mergeSort (fun a b => decide (a ≤ b))).map fun i => .d (.int i)))) else none
def isaV (t : Ty) (x : D) : Bool :=
  match t, x with
  | .int, .int _ => true | .int, .bl _ => true
  | .bool, .bl _ => true
  | .tuple, .tup _ => true
  | .list, .lst _ => true | .list, .scr _ => true
  | .str, .str _ => true
  | _, _ => false
def ixV (x : Vl) (i : Int) : Option Vl :=
  match x with
  | .ow (.d (.tup xs)) => (atI xs i).map dv
  | .ow (.d (.lst xs)) => (atI xs i).map dv
  | .ow (.d (.scr ns)) => (atI ns i).map fun n => dv (.int n)
  | .ow (.l os) => (atI os i).map .ow
  | .bw (.l os) => (atI os i).map Ow.lend
  | .ow (.d (.str z)) => if small z.length then (atI z.cps.toList i).map fun c => dv (.str ⟨#[c]⟩) else none
  | _ => none
def cutD {α : Type} (xs : List α) (lo hi : Option Int) : List α := (xs.drop (HT.sIx xs.length 0 lo)).take (HT.sIx xs.length xs.length hi - HT.sIx xs.length 0 lo)
def slV (x : Vl) (lo hi : Option Int) : Option Vl :=
  match x with
  | .ow (.d (.tup xs)) => some (dv (.tup (cutD xs lo hi)))
  | .ow (.d (.lst xs)) => some (.ow (.l ((cutD xs lo hi).map Ow.d)))
  | .ow (.l os) => some (.ow (.l ((cutD (Ow.toDs os) lo hi).map Ow.d)))
  | .ow (.d (.str z)) => if small z.length then some (dv (.str (L2.cutS z lo hi))) else none
  | _ => none

/-! ### results -/
inductive R (α : Type) where
  | ok (a : α) (ρ : Env) | exc (c : Nat) (ρ : Env) | bad
  deriving Inhabited
def R.bind {α β : Type} (r : R α) (k : α → Env → R β) : R β :=
  match r with
  | .ok a ρ => k a ρ
  | .exc c ρ => .exc c ρ
  | .bad => .bad
def R.of {α : Type} (o : Option α) (ρ : Env) : R α :=
  match o with
  | some a => .ok a ρ
  | none => .bad
inductive Ar where
  | v (x : Vl) | r (o : Ow)
  deriving Inhabited
inductive FR where
  | ok (o : Ow) (outs : List Ow) | exc (c : Nat) | bad
  deriving Inhabited
abbrev CallS := Nat → List Ar → FR
/-- an argument: a value, or a slot lent for good or ill -/
inductive Ag where
  | v (x : Vl) | r (i : Nat)
  deriving Inhabited
def getArs (M : Nat → Bool) (ρ : Env) : List Ag → Option (List Ar)
  | [] => some []
  | .v x :: r => (getArs M ρ r).map (.v x :: ·)
  | .r i :: r => match ρ[i]?, M i with
    | some (.val (.l os)), true => (getArs M ρ r).map (.r (.l os) :: ·)
    | some (.ref (.l os)), true => (getArs M ρ r).map (.r (.l os) :: ·)
    | some (.val (.m ks ds)), true => (getArs M ρ r).map (.r (.m ks ds) :: ·)
    | some (.ref (.m ks ds)), true => (getArs M ρ r).map (.r (.m ks ds) :: ·)
    | _, _ => none
def agRefs : List Ag → List Nat
  | [] => []
  | .v _ :: r => agRefs r
  | .r i :: r => i :: agRefs r
def putArs (ρ : Env) : List Nat → List Ow → Option Env
  | [], [] => some ρ
  | i :: is, o :: os => match ρ[i]? with
    | some (.val _) => putArs (ρ.set i (.val o)) is os
    | some (.ref _) => putArs (ρ.set i (.ref o)) is os
    | _ => none
  | _, _ => none
def dropArs (ρ : Env) (is : List Nat) : Env := is.foldl (fun ρ i => ρ.set i .no) ρ
def callR (C : CallS) (M : Nat → Bool) (f : Nat) (as : List Ag) (ρ : Env) : R Vl :=
  if (agRefs as).Nodup then
    match getArs M ρ as with
    | none => .bad
    | some ars => match C f ars with
      | .ok o outs => match putArs ρ (agRefs as) outs with
        | some ρ' => .ok (.ow o) ρ'
        | none => .bad
      | .exc c => .exc c (dropArs ρ (agRefs as))
      | .bad => .bad
  else .bad

/-! ### syntax -/
inductive Tg where
  | n (i : Nat) | t (is : List Nat)
  deriving Inhabited
mutual
inductive IE where
  | c (x : D) | v (i : Nat) | mv (i : Nat) | g (k : Nat)
  | bin (o : BO) (a b : IE) | un (o : UO) (a : IE)
  | and (a b : IE) | or (a b : IE)
  | tup (es : IEs) | lst (es : IEs)
  | call (f : Nat) (as : IAs)
  | max2 (a b : IE) | min2 (a b : IE)
  | isa (t : Ty) (a : IE)
  | ix (a i : IE) | sl (a : IE) (lo hi : IO)
  | lc (t : Tg) (it : IT) (hc : Bool) (c e : IE)
  | lrng (a : IE)
  | sset (a : IE)
  | split (a b : IE) | join (a b : IE) | srev (a : IE) | lrev (a : IE)
  | chain (o1 o2 : BO) (a b c : IE)
  | dnew | dget (a k : IE) | frz (a : IE)
inductive IEs where
  | nil | cons (e : IE) (es : IEs)
inductive IAs where
  | nil | val (e : IE) (as : IAs) | ref (i : Nat) (as : IAs)
inductive IO where
  | no | so (e : IE)
inductive IT where
  | e (a : IE) | rng1 (a : IE) | rng2 (a b : IE) | enum (a : IE) | zip (a b : IE) | rng3 (a b : IE) (c : Int) | s (a : IE)
end
instance : Inhabited IE := ⟨.c .non⟩

/-! ### texts -/
/-- x.split(y) -/
def splitV (x y : Vl) : Option Vl :=
  match x, y with
  | .ow (.d (.str a)), .ow (.d (.str b)) => if b.length != 0 && small a.length then some (.ow (.l ((Txt.split a b).map fun p => .d (.str p)))) else none
  | _, _ => none
def D.strs? : List D → Option (List Str)
  | [] => some []
  | .str a :: r => (D.strs? r).map (a :: ·)
  | _ :: _ => none
/-- x.join(y) -/
def joinV (x y : Vl) : Option Vl :=
  match x with
  | .ow (.d (.str a)) => (y.look.lot?.bind D.strs?).bind fun ys => if decide ((ys.map (·.length)).sum + ys.length * a.length ≤ 16777216) then some (dv (.str (Txt.join a ys))) else none
  | _ => none
/-- a new list turned round -/
def lrevV (x : Vl) : Option Vl :=
  match x with
  | .ow (.l os) => some (.ow (.l ((Ow.toDs os).reverse.map Ow.d)))
  | _ => none
/-! ### the evaluator of expressions -/
/-- an item of what is walked -/
inductive Itm where
  | one (x : Vl) | many (xs : List Vl)
  deriving Inhabited
/-- the signs of a text -/
def signI (z : Str) : List Itm := z.cps.toList.map fun c => Itm.one (dv (.str ⟨#[c]⟩))
/-- a name is given what it may not change -/
def setC (M : Nat → Bool) (ρ : Env) (i : Nat) (x : Vl) : Option Env :=
  if M i = true then none else
  match ρ[i]?, x with
  | some (.ref _), _ => none
  | some _, .ow (.d y) => some (ρ.set i (.val (.d y)))
  | some _, .bw o => some (ρ.set i (.bor o))
  | _, _ => none
def setAllC (M : Nat → Bool) (ρ : Env) : List Nat → List Vl → Option Env
  | [], [] => some ρ
  | i :: is, x :: xs => (setC M ρ i x).bind fun ρ' => setAllC M ρ' is xs
  | _, _ => none
def setTC (M : Nat → Bool) (ρ : Env) (t : Tg) (x : Itm) : Option Env :=
  match t, x with
  | .n i, .one x => setC M ρ i x
  | .t is, .one x => (match x with
    | .ow (.d (.tup xs)) => setAllC M ρ is (xs.map dv)
    | .ow (.d (.lst xs)) => setAllC M ρ is (xs.map dv)
    | _ => none)
  | .t is, .many xs => setAllC M ρ is xs
  | _, _ => none
def Tg.slots : Tg → List Nat
  | .n i => [i]
  | .t is => is
def merge (M : Nat → Bool) (ρ ρ' : Env) : Env := (List.range ρ.length).map fun i => if M i = true then ρ'.getD i .no else ρ.getD i .no
/-- behind a comprehension: the slots that it took are as they were -/
def lcL (M : Nat → Bool) (t : Tg) (body : Env → R (Option Ow)) : List Itm → Env → List Ow → R (List Ow)
  | [], ρ, acc => .ok acc ρ
  | x :: xs, ρ, acc => match setTC M ρ t x with
    | none => .bad
    | some ρ1 => match body ρ1 with
      | .ok (some o) ρ2 => if small acc.length then lcL M t body xs (merge M ρ ρ2) (acc ++ [o]) else .bad
      | .ok none ρ2 => lcL M t body xs (merge M ρ ρ2) acc
      | _ => .bad
def wipeS (ρ : Env) (is : List Nat) : Env := is.foldl (fun ρ i => ρ.set i .no) ρ
def Vl.own : Vl → Option Ow
  | .ow o => some o
  | .bw (.d x) => some (.d x)
  | .bw (.l _) => none
  | .bw (.m _ _) => none
/-- a test, then the element -/
def lcTail (fe : Env → R Vl) (b : Vl) (ρ1 : Env) : R (Option Ow) :=
  match b with
    | .ow (.d (.bl true)) => (fe ρ1).bind fun y ρ2 => match y.own with
      | some o => .ok (some o) ρ2
      | none => .bad
    | .ow (.d (.bl false)) => .ok none ρ1
    | _ => .bad
def lcBody (hc : Bool) (fc fe : Env → R Vl) (ρ : Env) : R (Option Ow) :=
  (if hc then fc ρ else .ok (dv (.bl true)) ρ).bind fun b ρ1 => lcTail fe b ρ1
def rngI (lo : Int) (n : Nat) : List Itm := (List.range n).map fun (k : Nat) => .one (dv (.int (lo + (k : Int))))
def rngC (lo c : Int) (n : Nat) : List Itm := (List.range n).map fun (k : Nat) => .one (dv (.int (lo + (k : Int) * c)))
/-- range(i, j, c) -/
def rngV (i j c : Int) : Option (List Itm) := if decide (c ≠ 0) && decide (c.natAbs < 1073741824) && Builtin.Range.small i j c && decide (0 ≤ Builtin.Range.rangeSize i j c) then some (rngC i c (Builtin.Range.rangeSize i j c).toNat) else none
def enumI : Int → List Vl → List Itm
  | _, [] => []
  | i, x :: xs => .many [dv (.int i), x] :: enumI (i + 1) xs
def zipI : List Vl → List Vl → List Itm
  | x :: xs, y :: ys => .many [x, y] :: zipI xs ys
  | _, _ => []
def Vl.isT : Vl → Bool
  | .ow (.d (.tup _)) => true
  | _ => false
def zipV (M : Nat → Bool) (x y : Vl) : Option (List Itm) :=
  if x.isT = y.isT then (match itemsM M x, itemsM M y with
    | some xs, some ys => some (zipI xs ys)
    | _, _ => none) else none
def inSmall (i : Int) : Bool := decide (-(2 ^ 62) ≤ i) && decide (i < 2 ^ 62)
/-- data in hand: what is new and owned is frozen -/
def Vl.frz : Vl → Vl
  | .ow o => dv o.toD
  | x => x
section
variable (C : CallS) (gv : Nat → Option D) (M : Nat → Bool)
mutual
def ev : IE → Env → R Vl
  | .c x, ρ => .ok (dv x) ρ
  | .v i, ρ => match ρ[i]? with
    | some (.val o) => (match o with
      | .d x => .ok (dv x) ρ
      | .l os => if M i = true then .bad else .ok (.bw (.l os)) ρ
      | .m ks ds => if M i = true then .bad else .ok (.bw (.m ks ds)) ρ)
    | some (.ref o) => (match o with
      | .d x => .ok (dv x) ρ
      | .l os => if M i = true then .bad else .ok (.bw (.l os)) ρ
      | .m ks ds => if M i = true then .bad else .ok (.bw (.m ks ds)) ρ)
    | some (.bor o) => .ok o.lend ρ
    | _ => .bad
  | .mv i, ρ => match ρ[i]? with
    | some (.val (.l os)) => if M i = true then .ok (.ow (.l os)) (ρ.set i .no) else .bad
    | some (.val (.m ks ds)) => if M i = true then .ok (.ow (.m ks ds)) (ρ.set i .no) else .bad
    | _ => .bad
  | .g k, ρ => R.of ((gv k).map dv) ρ
  | .bin o a b, ρ => (ev a ρ).bind fun x ρ1 => (ev b ρ1).bind fun y ρ2 => R.of (binV o x y) ρ2
  | .un o a, ρ => (ev a ρ).bind fun x ρ1 => R.of (unV o x) ρ1
  | .and a b, ρ => (ev a ρ).bind fun x ρ1 => match x with
    | .ow (.d (.bl true)) => ev b ρ1
    | .ow (.d (.bl false)) => .ok (dv (.bl false)) ρ1
    | _ => .bad
  | .or a b, ρ => (ev a ρ).bind fun x ρ1 => match x with
    | .ow (.d (.bl true)) => .ok (dv (.bl true)) ρ1
    | .ow (.d (.bl false)) => ev b ρ1
    | _ => .bad
  | .tup es, ρ => (evs es ρ).bind fun xs ρ1 => match xs.mapM Vl.data with
    | some ds => if small ds.length then .ok (dv (.tup ds)) ρ1 else .bad
    | none => .bad
  | .lst es, ρ => (evs es ρ).bind fun xs ρ1 => match xs.mapM Vl.own with
    | some os => if small os.length then .ok (.ow (.l os)) ρ1 else .bad
    | none => .bad
  | .call f as, ρ => (evA as ρ).bind fun ags ρ1 => callR C M f ags ρ1
  | .max2 a b, ρ => (ev a ρ).bind fun x ρ1 => (ev b ρ1).bind fun y ρ2 => match x, y with
    | .ow (.d (.int i)), .ow (.d (.int j)) => .ok (dv (.int (if j > i then j else i))) ρ2
    | _, _ => .bad
  | .min2 a b, ρ => (ev a ρ).bind fun x ρ1 => (ev b ρ1).bind fun y ρ2 => match x, y with
    | .ow (.d (.int i)), .ow (.d (.int j)) => .ok (dv (.int (if j < i then j else i))) ρ2
    | _, _ => .bad
  | .isa t a, ρ => (ev a ρ).bind fun x ρ1 => .ok (dv (.bl (isaV t x.look))) ρ1
  | .ix a i, ρ => (ev a ρ).bind fun x ρ1 => (ev i ρ1).bind fun y ρ2 => match y with
    | .ow (.d (.int j)) => R.of (ixV x j) ρ2
    | _ => .bad
  | .sl a lo hi, ρ => (ev a ρ).bind fun x ρ1 => (evO lo ρ1).bind fun l ρ2 => (evO hi ρ2).bind fun h ρ3 => R.of (slV x l h) ρ3
  | .lc t it hc c e, ρ => (evI it ρ).bind fun xs ρ1 =>
    (lcL M t (lcBody hc (fun ρ2 => ev c ρ2) (fun ρ2 => ev e ρ2)) xs (wipeS ρ1 t.slots) []).bind fun os ρ2 => .ok (.ow (.l os)) (merge M ρ1 ρ2)
  | .lrng a, ρ => (ev a ρ).bind fun x ρ1 => match x with
    | .ow (.d (.int n)) => if decide (0 ≤ n) && decide (n ≤ 1000) then .ok (.ow (.l ((List.range n.toNat).map fun (k : Nat) => .d (.int k)))) ρ1 else .bad
    | _ => .bad
  | .sset a, ρ => (ev a ρ).bind fun x ρ1 => match tupI x.look with
    | some ns => if ns.length < 64 then .ok (.ow (.l ((sortU ns).map fun i => .d (.int i)))) ρ1 else .bad
    | none => .bad
  | .split a b, ρ => (ev a ρ).bind fun x ρ1 => match x with
    | .ow (.d (.str t)) => (ev b ρ1).bind fun y ρ2 => R.of (splitV (dv (.str t)) y) ρ2
    | _ => .bad
  | .join a b, ρ => (ev a ρ).bind fun x ρ1 => match x with
    | .ow (.d (.str t)) => (ev b ρ1).bind fun y ρ2 => R.of (joinV (dv (.str t)) y) ρ2
    | _ => .bad
  | .srev a, ρ => (ev a ρ).bind fun x ρ1 => match x with
    | .ow (.d (.str t)) => if small t.length then .ok (dv (.str (revS t))) ρ1 else .bad
    | _ => .bad
  | .lrev a, ρ => (ev a ρ).bind fun x ρ1 => R.of (lrevV x) ρ1
  | .chain o1 o2 a b c, ρ => (ev a ρ).bind fun x ρ1 => (ev b ρ1).bind fun y ρ2 => match x, y with
    | .ow (.d (.int i)), .ow (.d (.int j)) => (match intBO o1 i j with
      | some (.bl true) => (ev c ρ2).bind fun z ρ3 => (match z with
        | .ow (.d (.int k)) => R.of ((intBO o2 j k).map dv) ρ3
        | _ => .bad)
      | some (.bl false) => .ok (dv (.bl false)) ρ2
      | _ => .bad)
    | _, _ => .bad
  | .dnew, ρ => .ok (.ow (.m [] [])) ρ
  | .dget a b, ρ => (ev a ρ).bind fun x ρ1 => (ev b ρ1).bind fun y ρ2 => R.of (binV .dget x y) ρ2
  | .frz a, ρ => (ev a ρ).bind fun x ρ1 => R.of (unV .frz x) ρ1
def evs : IEs → Env → R (List Vl)
  | .nil, ρ => .ok [] ρ
  | .cons e es, ρ => (ev e ρ).bind fun x ρ1 => (evs es ρ1).bind fun xs ρ2 => .ok (x :: xs) ρ2
def evA : IAs → Env → R (List Ag)
  | .nil, ρ => .ok [] ρ
  | .val e as, ρ => (ev e ρ).bind fun x ρ1 => (evA as ρ1).bind fun xs ρ2 => .ok (.v x :: xs) ρ2
  | .ref i as, ρ => match ρ[i]? with
    | some (.val (.l _)) => (evA as ρ).bind fun xs ρ2 => .ok (.r i :: xs) ρ2
    | some (.ref (.l _)) => (evA as ρ).bind fun xs ρ2 => .ok (.r i :: xs) ρ2
    | some (.val (.m _ _)) => (evA as ρ).bind fun xs ρ2 => .ok (.r i :: xs) ρ2
    | some (.ref (.m _ _)) => (evA as ρ).bind fun xs ρ2 => .ok (.r i :: xs) ρ2
    | _ => .bad
def evO : IO → Env → R (Option Int)
  | .no, ρ => .ok none ρ
  | .so e, ρ => (ev e ρ).bind fun x ρ1 => match x with
    | .ow (.d (.int i)) => .ok (some i) ρ1
    | _ => .bad
def evI : IT → Env → R (List Itm)
  | .e a, ρ => (ev a ρ).bind fun x ρ1 => R.of ((itemsM M x).map fun xs => xs.map Itm.one) ρ1
  | .rng1 a, ρ => (ev a ρ).bind fun x ρ1 => match x with
    | .ow (.d (.int n)) => if inSmall n then .ok (rngI 0 n.toNat) ρ1 else .bad
    | _ => .bad
  | .rng2 a b, ρ => (ev a ρ).bind fun x ρ1 => (ev b ρ1).bind fun y ρ2 => match x, y with
    | .ow (.d (.int i)), .ow (.d (.int j)) => if inSmall i && inSmall j then .ok (rngI i (j - i).toNat) ρ2 else .bad
    | _, _ => .bad
  | .enum a, ρ => (ev a ρ).bind fun x ρ1 => R.of ((itemsM M x).map fun xs => enumI 0 xs) ρ1
  | .zip a b, ρ => (ev a ρ).bind fun x ρ1 => (ev b ρ1).bind fun y ρ2 => R.of (zipV M x y) ρ2
  | .rng3 a b c, ρ => (ev a ρ).bind fun x ρ1 => (ev b ρ1).bind fun y ρ2 => match x, y with
    | .ow (.d (.int i)), .ow (.d (.int j)) => R.of (rngV i j c) ρ2
    | _, _ => .bad
  | .s a, ρ => (ev a ρ).bind fun x ρ1 => match x with
    | .ow (.d (.str z)) => if small z.length then .ok (signI z) ρ1 else .bad
    | _ => .bad
end
end
end WM

/-! WM: operations on values are right. -/
namespace WM
open PySem L2
section
variable {K : PySem.W.Frag} {M : Nat → Bool} {bp : List (Nat × Addr)} {Z : Fz} {fpf fpf' : Nat → List Addr} {Hb Hb' H H' : Hp} {σ : L2.St} {ρ ρ' : Env} {v u : V} {x y z : Vl} {fp fp1 fp2 : List Addr}

/-! ### heaps that grow -/
theorem same_upd {p : Addr} {o : HO} (h : H p = none) : Same H (upd H p o) := fun b x e => by
  rw [upd_ne (ne_of_none e h)]; exact e
theorem ne_some {a : Addr} (e : Same H H') (h : H a ≠ none) : H' a = H a := by
  cases q : H a with
  | none => exact absurd q h
  | some o => exact e a o q
theorem StR.step (S : StR K M bp Z fpf Hb H σ ρ) (e1 : Same H H') (e2 : Same Hb Hb') (e3 : Same Hb' H') (nf : ∀ a, (Z.F a ∨ Z.G a ∨ ∃ i, a ∈ fpf i) → Hb' a = none) : StR K M bp Z fpf Hb' H' σ ρ := by
  have kp : ∀ a, (Z.F a ∨ Z.G a ∨ ∃ i, a ∈ fpf i) → H' a = H a ∧ Hb' a = none := fun a ha => by
    refine ⟨ne_some e1 ?_, nf a ha⟩
    rcases ha with ha | ha | ⟨i, ha⟩
    · exact (S.fr a (.inl ha)).2.2
    · exact (S.fr a (.inr ha)).2.2
    · exact (S.hb i a ha).2
  have mF : ∀ {o : Ow} {v : V} {f : List Addr}, RO K Hb H v o f → (∀ a ∈ f, Z.F a) → RO K Hb' H' v o f := fun r h => RO.mono e2 _ _ _ (fun a ha => kp a (.inl (h a ha))) r
  have mI : ∀ {o : Ow} {v : V} (i : Nat), RO K Hb H v o (fpf i) → RO K Hb' H' v o (fpf i) := fun i r => RO.mono e2 _ _ _ (fun a ha => kp a (.inr (.inr ⟨i, ha⟩))) r
  refine ⟨e3, fun a ha => ?_, S.len, fun i s hs => ?_, S.sep, S.nf, fun i a ha => ?_, S.off⟩
  · have q := S.fr a ha
    have k := kp a (ha.elim .inl fun h => .inr (.inl h))
    exact ⟨k.1.trans q.1, k.2, by rw [k.1]; exact q.2.2⟩
  · have q := S.sl i s hs
    cases s with
    | no => trivial
    | bor o => obtain ⟨v, f, h1, h2, h3⟩ := q; exact ⟨v, f, h1, mF h2 h3, h3⟩
    | val o =>
      dsimp only at q ⊢
      split
      · rename_i hM; rw [if_pos hM] at q; obtain ⟨v, h1, h2⟩ := q; exact ⟨v, h1, mI i h2⟩
      · rename_i hM; rw [if_neg hM] at q; obtain ⟨v, f, h1, h2, h3⟩ := q; exact ⟨v, f, h1, mF h2 h3, h3⟩
    | ref o =>
      refine ⟨q.1, ?_⟩
      have q := q.2
      split
      · rename_i hM; rw [if_pos hM] at q; obtain ⟨v, h1, h2⟩ := q; exact ⟨v, h1, mI i h2⟩
      · rename_i hM; rw [if_neg hM] at q; obtain ⟨v, f, h1, h2, h3⟩ := q; exact ⟨v, f, h1, mF h2 h3, h3⟩
  · have k := kp a (.inr (.inr ⟨i, ha⟩))
    exact ⟨k.2, by rw [k.1]; exact (S.hb i a ha).2⟩
/-- a new object that is not ours to keep -/
theorem StR.new (S : StR K M bp Z fpf Hb H σ ρ) {p : Addr} {o : HO} (h : H p = none) : StR K M bp Z fpf Hb (upd H p o) σ ρ :=
  S.step (same_upd h) (fun _ _ e => e) (fun b x e => same_upd h b x (S.ex b x e)) fun a ha => by
    rcases ha with ha | ha | ⟨i, ha⟩
    · exact (S.fr a (.inl ha)).2.1
    · exact (S.fr a (.inr ha)).2.1
    · exact (S.hb i a ha).1
theorem StR.un (S : StR K M bp Z fpf Hb H σ ρ) {p : Addr} (h : H p = none) : Hb p = none := by
  cases q : Hb p with
  | none => rfl
  | some o => rw [S.ex p o q] at h; cases h
theorem StR.out (S : StR K M bp Z fpf Hb H σ ρ) {p : Addr} (h : H p = none) : ¬ (Z.F p ∨ Z.G p) ∧ ∀ i, p ∉ fpf i :=
  ⟨fun q => (S.fr p q).2.2 h, fun i q => (S.hb i p q).2 h⟩
/-- a new frozen object -/
theorem StR.newF (S : StR K M bp Z fpf Hb H σ ρ) {p : Addr} {o : HO} (h : H p = none) : StR K M bp Z fpf (upd Hb p o) (upd H p o) σ ρ :=
  S.step (same_upd h) (same_upd (S.un h)) (fun b x e => by
    by_cases hb : b = p
    · subst hb; rw [upd_same] at e ⊢; exact e
    · rw [upd_ne hb] at e ⊢; exact S.ex b x e) fun a ha => by
    have ne : a ≠ p := fun e => by
      subst e
      rcases ha with ha | ha | ⟨i, ha⟩
      · exact (S.out h).1 (.inl ha)
      · exact (S.out h).1 (.inr ha)
      · exact (S.out h).2 i ha
    rw [upd_ne ne]
    rcases ha with ha | ha | ⟨i, ha⟩
    · exact (S.fr a (.inl ha)).2.1
    · exact (S.fr a (.inr ha)).2.1
    · exact (S.hb i a ha).1
/-- what is in hand is frozen -/
theorem StR.froze (S : StR K M bp Z fpf Hb H σ ρ) (h1 : ∀ a ∈ fp, Hb a = none) (h2 : ∀ a ∈ fp, ¬ (Z.F a ∨ Z.G a)) (h3 : ∀ i, Disj (fpf i) fp) : StR K M bp Z fpf (froze Hb H fp) H σ ρ ∧ Same Hb (froze Hb H fp) := by
  refine ⟨S.step (fun _ _ e => e) (froze_same h1) (froze_ex S.ex) fun a ha => ?_, froze_same h1⟩
  refine froze_out (fun q => ?_) ?_
  · rcases ha with ha | ha | ⟨i, ha⟩
    · exact h2 a q (.inl ha)
    · exact h2 a q (.inr ha)
    · exact h3 i a ha q
  · rcases ha with ha | ha | ⟨i, ha⟩
    · exact (S.fr a (.inl ha)).2.1
    · exact (S.fr a (.inr ha)).2.1
    · exact (S.hb i a ha).1
theorem RVl.d {d : D} (h : Rp K Hb v d) : RVl K Z fpf Hb H v (dv d) [] := ⟨.d h, fun _ h => (nomatch h), fun _ _ _ h => (nomatch h)⟩
theorem RVl.int {i : Int} : RVl K Z fpf Hb H (.int i) (dv (.int i)) [] := .d (.int i)
theorem RVl.bl {b : Bool} : RVl K Z fpf Hb H (.bl b) (dv (.bl b)) [] := .d (.bl b)
theorem RVl.drop {Hq : Hp} (r : RVl K (Z.more Hq fp1) fpf Hb H v x fp) : RVl K Z fpf Hb H v x fp ∧ Disj fp1 fp := by
  cases x with
  | ow o => exact ⟨⟨r.1, fun a ha q => r.2.1 a ha (q.elim .inl fun h => .inr (.inl h)), r.2.2⟩, fun a h1 h2 => r.2.1 a h2 (.inr (.inr h1))⟩
  | bw o => obtain ⟨f, h1, h2, h3⟩ := r; subst h3; exact ⟨⟨f, h1, h2, rfl⟩, fun a _ h => (nomatch h)⟩
theorem rp_int {i : Int} (h : RVl K Z fpf Hb H v (dv (.int i)) fp) : v = .int i := by
  obtain ⟨h, _⟩ := h; cases h with | d h => cases h; rfl
theorem rp_bl {b : Bool} (h : RVl K Z fpf Hb H v (dv (.bl b)) fp) : v = .bl b := by
  obtain ⟨h, _⟩ := h; cases h with | d h => cases h; rfl
theorem rp_d {d : D} (h : RVl K Z fpf Hb H v (dv d) fp) : Rp K Hb v d ∧ fp = [] := by
  obtain ⟨h, _⟩ := h; cases h with | d h => exact ⟨h, rfl⟩
/-- what it is, whoever holds it -/
theorem RVl.ro (r : RVl K Z fpf Hb H v x fp) : ∃ o f, (x = .ow o ∨ x = .bw o) ∧ RO K Hb H v o f := by
  cases x with
  | ow o => exact ⟨o, fp, .inl rfl, r.1⟩
  | bw o => obtain ⟨f, h, _⟩ := r; exact ⟨o, f, .inr rfl, h⟩

/-! ### as PyData -/
mutual
theorem Rp.dp (e : Same Hb H) : ∀ (d : D) (v : V), Rp K Hb v d → d.nos = true → Dp K H v d.toP
  | .non, _, h, _ => by cases h; exact .non
  | .bl b, _, h, _ => by cases h; exact .bl b
  | .int i, _, h, _ => by cases h; exact .int i
  | .str s, _, h, _ => by cases h; exact .str s
  | .tup ds, _, h, n => by
    cases h with
    | tup hs ha => exact .tup (same_t e hs) (RpL.dp e ds _ ha n)
  | .lst ds, _, h, n => by
    cases h with
    | lst hs ha => exact .lst (SqL.of (e _ _ hs)) (RpL.dp e ds _ ha n)
  | .scr ns, _, h, n => by cases n
theorem RpL.dp (e : Same Hb H) : ∀ (ds : List D) (vs : List V), RpL K Hb vs ds → D.noss ds = true → DpAll K H vs (D.toPs ds)
  | [], _, h, _ => by cases h; exact .nil
  | d :: ds, _, h, n => by
    cases h with
    | cons h1 h2 =>
      simp only [D.noss, Bool.and_eq_true] at n
      exact .cons (Rp.dp e d _ h1 n.1) (RpL.dp e ds _ h2 n.2)
end
mutual
theorem RO.dp (e : Same Hb H) : ∀ (o : Ow) (v : V) (f : List Addr), RO K Hb H v o f → o.toD.nos = true → Dp K H v o.toD.toP
  | .d x, _, _, h, n => by
    cases h with
    | d h => exact Rp.dp e x _ h n
  | .l os, _, _, h, n => by
    cases h with
    | l h1 h2 h3 h4 => exact .lst (SqL.of h2) (ROs.dp e os _ _ h3 n)
theorem ROs.dp (e : Same Hb H) : ∀ (os : List Ow) (vs : List V) (f : List Addr), ROs K Hb H vs os f → D.noss (Ow.toDs os) = true → DpAll K H vs (D.toPs (Ow.toDs os))
  | [], _, _, h, _ => by cases h; exact .nil
  | o :: os, _, _, h, n => by
    cases h with
    | cons h1 h2 h3 =>
      simp only [Ow.toDs, D.noss, Bool.and_eq_true] at n
      exact .cons (RO.dp e o _ _ h1 n.1) (ROs.dp e os _ _ h2 n.2)
end
theorem RVl.dp (S : StR K M bp Z fpf Hb H σ ρ) (r : RVl K Z fpf Hb H v x fp) (n : x.look.nos = true) : Dp K H v x.look.toP := by
  obtain ⟨o, f, e, h⟩ := r.ro
  rcases e with rfl | rfl
  · exact RO.dp S.ex o v f h n
  · exact RO.dp S.ex o v f h n
mutual
theorem eqv_toP : ∀ a b : D, a.nos = true → b.nos = true → PyData.eqv a.toP b.toP = D.eqv a b
  | .non, b, _, h => by cases b <;> first | (cases h; done) | simp [D.toP, PyData.eqv, D.eqv]
  | .bl _, b, _, h => by cases b <;> first | (cases h; done) | simp [D.toP, PyData.eqv, D.eqv]
  | .int _, b, _, h => by cases b <;> first | (cases h; done) | simp [D.toP, PyData.eqv, D.eqv]
  | .str _, b, _, h => by cases b <;> first | (cases h; done) | simp [D.toP, PyData.eqv, D.eqv]
  | .scr _, _, h, _ => by cases h
  | .tup xs, b, h, h2 => by
    cases b with
    | tup ys => simpa [D.toP, PyData.eqv, D.eqv] using eqvs_toP xs ys h h2
    | scr _ => cases h2
    | _ => simp [D.toP, PyData.eqv, D.eqv]
  | .lst xs, b, h, h2 => by
    cases b with
    | lst ys => simpa [D.toP, PyData.eqv, D.eqv] using eqvs_toP xs ys h h2
    | scr _ => cases h2
    | _ => simp [D.toP, PyData.eqv, D.eqv]
theorem eqvs_toP : ∀ a b : List D, D.noss a = true → D.noss b = true → PyData.eqvAll (D.toPs a) (D.toPs b) = D.eqvs a b
  | [], [], _, _ => by simp [D.toPs, PyData.eqvAll, D.eqvs]
  | [], _ :: _, _, _ => by simp [D.toPs, PyData.eqvAll, D.eqvs]
  | _ :: _, [], _, _ => by simp [D.toPs, PyData.eqvAll, D.eqvs]
  | x :: xs, y :: ys, h, h2 => by
    simp only [D.noss, Bool.and_eq_true] at h h2
    simp [D.toPs, PyData.eqvAll, D.eqvs, eqv_toP x y h.1 h2.1, eqvs_toP xs ys h.2 h2.2]
end
mutual
theorem dep_toP : ∀ d : D, d.toP.depth = d.dep
  | .non | .bl _ | .int _ | .str _ | .dic _ _ => by simp [D.toP, PyData.depth, D.dep]
  | .tup xs => by simp [D.toP, PyData.depth, D.dep, deps_toP xs]
  | .lst xs => by simp [D.toP, PyData.depth, D.dep, deps_toP xs]
  | .scr ns => by
    have : ∀ ns : List Int, PyData.depthAll (ns.map PyData.int) = 0 := fun ns => by
      induction ns with
      | nil => simp [PyData.depthAll]
      | cons n ns ih => simp [PyData.depthAll, PyData.depth, ih]
    simp [D.toP, PyData.depth, D.dep, this]
theorem deps_toP : ∀ ds : List D, PyData.depthAll (D.toPs ds) = D.deps ds
  | [] => by simp [D.toPs, PyData.depthAll, D.deps]
  | x :: xs => by simp [D.toPs, PyData.depthAll, D.deps, dep_toP x, deps_toP xs]
end
mutual
theorem lay_toP : ∀ d : D, d.toP.canLay0 = d.lay
  | .non | .bl _ | .int _ | .str _ | .dic _ _ => by simp [D.toP, PyData.canLay0, D.lay]
  | .tup xs => by simp [D.toP, PyData.canLay0, D.lay, lays_toP xs]
  | .lst xs => by simp [D.toP, PyData.canLay0, D.lay, lays_toP xs]
  | .scr ns => by
    have : ∀ ns : List Int, PyData.canLayAll0 (ns.map PyData.int) = true := fun ns => by
      induction ns with
      | nil => simp [PyData.canLayAll0]
      | cons n ns ih => simp [PyData.canLayAll0, PyData.canLay0, ih]
    simp [D.toP, PyData.canLay0, D.lay, this]
theorem lays_toP : ∀ ds : List D, PyData.canLayAll0 (D.toPs ds) = D.lays ds
  | [] => by simp [D.toPs, PyData.canLayAll0, D.lays]
  | x :: xs => by simp [D.toPs, PyData.canLayAll0, D.lays, lay_toP x, lays_toP xs]
end
theorem fit_shaped {d : D} (h : d.fit = true) : SeqAt.shaped d.toP = true := by
  unfold SeqAt.shaped
  rw [lay_toP, dep_toP]
  exact h
theorem small_le {n : Nat} (h : small n = true) : n ≤ sizeLine := Nat.le_trans (of_decide_eq_true h) (by decide)
theorem small_lt {n : Nat} (h : small n = true) : n < sizeLine := Nat.lt_of_le_of_lt (of_decide_eq_true h) (by decide)
end

/-! ### what an operation gives -/
/-- the wish behind an operation: the slots as they were, the value z -/
def Giv (K : PySem.W.Frag) (M : Nat → Bool) (bp : List (Nat × Addr)) (Z : Fz) (fpf : Nat → List Addr) (Hb : Hp) (σ : L2.St) (ρ : Env) (z : Vl) (Q : VK) : Prop :=
  ∀ v Hb' H' fp, Same Hb Hb' → StR K M bp Z fpf Hb' H' σ ρ → RVl K Z fpf Hb' H' v z fp → Q v H'
/-- r does as f says -/
def Op2 (K : PySem.W.Frag) (r : R2) (f : Vl → Vl → Option Vl) : Prop :=
  ∀ (M : Nat → Bool) (bp : List (Nat × Addr)) (Z : Fz) (fpf : Nat → List Addr) (Hb H : Hp) (σ : L2.St) (ρ : Env) (v u : V) (x y z : Vl) (fp1 fp2 : List Addr) (Q : VK),
    StR K M bp Z fpf Hb H σ ρ → RVl K Z fpf Hb H v x fp1 → RVl K Z fpf Hb H u y fp2 → Disj fp1 fp2 → f x y = some z → Giv K M bp Z fpf Hb σ ρ z Q → r v u H Q
def Op1 (K : PySem.W.Frag) (r : V → Hp → VK → Prop) (f : Vl → Option Vl) : Prop :=
  ∀ (M : Nat → Bool) (bp : List (Nat × Addr)) (Z : Fz) (fpf : Nat → List Addr) (Hb H : Hp) (σ : L2.St) (ρ : Env) (v : V) (x z : Vl) (fp : List Addr) (Q : VK),
    StR K M bp Z fpf Hb H σ ρ → RVl K Z fpf Hb H v x fp → f x = some z → Giv K M bp Z fpf Hb σ ρ z Q → r v H Q

section
variable {K : PySem.W.Frag}
theorem Giv.dat {M : Nat → Bool} {bp : List (Nat × Addr)} {Z : Fz} {fpf : Nat → List Addr} {Hb H : Hp} {σ : L2.St} {ρ : Env} {d : D} {v : V} {Q : VK} (S : StR K M bp Z fpf Hb H σ ρ) (g : Giv K M bp Z fpf Hb σ ρ (dv d) Q) (h : Rp K Hb v d) : Q v H :=
  g v Hb H [] (fun _ _ e => e) S (.d h)
/-! ints -/
theorem op2_int {o : BO} {C : Int → Int → Prop} {g : Int → Int → V} (hf : ∀ x y : Vl, binV o x y = match x, y with
    | .ow (.d (.int i)), .ow (.d (.int j)) => (intBO o i j).map dv
    | _, _ => none) (h : ∀ i j d, intBO o i j = some d → C i j ∧ ∃ e : D, d = e ∧ ∀ Hb, Rp K Hb (g i j) e) : Op2 K (rI C g) (binV o) := by
  intro M bp Z fpf Hb H σ ρ v u x y z fp1 fp2 Q S r1 r2 dj e q
  rw [hf] at e
  split at e
  · rename_i i j
    have ev := rp_int r1
    have eu := rp_int r2
    subst ev eu
    cases hd : intBO o i j with
    | none => rw [hd] at e; cases e
    | some d =>
      rw [hd] at e
      cases e
      obtain ⟨hc, e, rfl, hr⟩ := h i j d hd
      exact ⟨i, j, rfl, rfl, hc, q.dat S (hr Hb)⟩
  · cases e
theorem op2_int0 {o : BO} {g : Int → Int → V} (hf : ∀ x y : Vl, binV o x y = match x, y with
    | .ow (.d (.int i)), .ow (.d (.int j)) => (intBO o i j).map dv
    | _, _ => none) (h : ∀ i j d, intBO o i j = some d → ∀ Hb, Rp K Hb (g i j) d) : Op2 K (rI0 g) (binV o) := by
  intro M bp Z fpf Hb H σ ρ v u x y z fp1 fp2 Q S r1 r2 dj e q
  rw [hf] at e
  split at e
  · rename_i i j
    have ev := rp_int r1
    have eu := rp_int r2
    subst ev eu
    cases hd : intBO o i j with
    | none => rw [hd] at e; cases e
    | some d =>
      rw [hd] at e
      cases e
      exact ⟨i, j, rfl, rfl, q.dat S (h i j d hd Hb)⟩
  · cases e
end
end WM

/-! WM: operations on values are right, one by one. -/
namespace WM
open PySem PySem.Spec PyProof.Rows L2
section
variable {K : PySem.W.Frag} {M : Nat → Bool} {bp : List (Nat × Addr)} {Z : Fz} {fpf fpf' : Nat → List Addr} {Hb Hb' H H' : Hp} {σ : L2.St} {ρ ρ' : Env} {v u : V} {x y z : Vl} {fp fp1 fp2 : List Addr}

theorem ROs.app : ∀ {vs ws : List V} {a b : List Ow} {f g : List Addr}, ROs K Hb H vs a f → ROs K Hb H ws b g → Disj f g → ROs K Hb H (vs ++ ws) (a ++ b) (f ++ g)
  | _, _, _, _, _, _, .nil, s, _ => s
  | _, _, _, _, _, g, .cons (f1 := f1) (f2 := f2) r t d, s, dj => by
    have q := ROs.app t s fun a h1 h2 => dj a (List.mem_append_right _ h1) h2
    have := ROs.cons r q fun a h1 h2 => by
      rcases List.mem_append.mp h2 with h2 | h2
      · exact d a h1 h2
      · exact dj a (List.mem_append_left _ h1) h2
    simpa [List.append_assoc] using this
def isD : Ow → Bool
  | .d _ => true | _ => false
theorem ROs.alld : ∀ {vs : List V} {os : List Ow} {f : List Addr}, ROs K Hb H vs os f → os.all (fun | .d _ => true | _ => false) = true → f = [] ∧ RpL K Hb vs (Ow.toDs os) ∧ os = (Ow.toDs os).map Ow.d
  | _, _, _, .nil, _ => ⟨rfl, .nil, rfl⟩
  | _, _, _, .cons (o := o) r t _, h => by
    rw [List.all_cons, Bool.and_eq_true] at h
    obtain ⟨h1, h2, h3⟩ := ROs.alld t h.2
    cases r with
    | d hd => subst h1; exact ⟨rfl, by simpa [Ow.toDs, Ow.toD] using RpL.cons hd h2, by simp [Ow.toDs, Ow.toD]; exact h3⟩
    | l => exact absurd h.1 Bool.false_ne_true
    | m => exact absurd h.1 Bool.false_ne_true
theorem RO.sub : ∀ {v : V} {os : List Ow} {fp : List Addr}, RO K Hb H v (.l os) fp → ∃ p vs f, v = .ref p ∧ H p = some (.lst vs) ∧ ROs K Hb H vs os f ∧ fp = p :: f ∧ p ∉ f ∧ Hb p = none
  | _, _, _, .l h1 h2 h3 h4 => ⟨_, _, _, rfl, h2, h3, rfl, h4, h1⟩
theorem toDs_map (ds : List D) : Ow.toDs (ds.map Ow.d) = ds := by
  induction ds with
  | nil => rfl
  | cons d ds ih => simp [Ow.toDs, Ow.toD, ih]
theorem parts_ok {a : List Ow} (S : StR K M bp Z fpf Hb H σ ρ) (r : RVl K Z fpf Hb H v x fp) (h : x.parts = some a) : ∃ p vs f, v = .ref p ∧ H p = some (.lst vs) ∧ ROs K Hb H vs a f ∧ ∀ b ∈ f, b ∈ fp := by
  unfold Vl.parts at h
  split at h
  · cases h
    obtain ⟨r, _⟩ := rp_d r
    cases r with
    | lst h1 h2 => exact ⟨_, _, _, rfl, S.ex _ _ h1, ROs.ofD h2, fun _ h => (nomatch h)⟩
  · cases h
    obtain ⟨p, vs, f, h1, h2, h3, h4, _⟩ := r.1.sub
    subst h4
    exact ⟨p, vs, f, h1, h2, h3, fun b hb => List.mem_cons_of_mem _ hb⟩
  · split at h
    · rename_i hd
      cases h
      obtain ⟨f0, r, _, _⟩ := r
      obtain ⟨p, vs, f, h1, h2, h3, h4, _⟩ := r.sub
      obtain ⟨e1, _, _⟩ := ROs.alld h3 hd
      subst e1
      exact ⟨p, vs, [], h1, h2, h3, fun _ h => (nomatch h)⟩
    · cases h
  · cases h
/-- a new list of parts in hand -/
theorem Giv.newL {os : List Ow} {vs : List V} {f : List Addr} {Q : VK} {p : Addr} (S : StR K M bp Z fpf Hb H σ ρ) (g : Giv K M bp Z fpf Hb σ ρ (.ow (.l os)) Q) (r : ROs K Hb H vs os f) (h1 : ∀ a ∈ f, ¬ (Z.F a ∨ Z.G a)) (h2 : ∀ i, Disj (fpf i) f) (hp : H p = none) : Q (.ref p) (upd H p (.lst vs)) := by
  have nf : p ∉ f := fun q => (r.at_ p q).2 hp
  refine g (.ref p) Hb _ (p :: f) (fun _ _ e => e) (S.new hp) ⟨.l (S.un hp) upd_same (ROs.mono (fun _ _ e => e) _ _ _ (fun a ha => ?_) r) nf, fun a ha => ?_, fun i a ha hb => ?_⟩
  · exact ⟨upd_ne fun e => nf (e ▸ ha), (r.at_ a ha).1⟩
  · rcases List.mem_cons.mp ha with rfl | ha
    · exact (S.out hp).1
    · exact h1 a ha
  · rcases List.mem_cons.mp hb with rfl | hb
    · exact (S.out hp).2 i ha
    · exact h2 i a ha hb
/-- a new tuple of data -/
theorem Giv.newT {ds : List D} {vs : List V} {Q : VK} {p : Addr} (S : StR K M bp Z fpf Hb H σ ρ) (g : Giv K M bp Z fpf Hb σ ρ (dv (.tup ds)) Q) (r : RpL K Hb vs ds) (hp : H p = none) : Q (.ref p) (upd H p (.tup vs)) := by
  have e := same_upd (o := .tup vs) (S.un hp)
  exact g (.ref p) (upd Hb p (.tup vs)) _ [] e (S.newF hp) (.d (.tup (SqT.of upd_same) (RpL.mono e _ _ r)))
theorem Giv.same (g : Giv K M bp Z fpf Hb σ ρ z = Giv K M bp Z fpf Hb σ ρ z) : True := trivial
theorem Giv.mono {Q : VK} (g : Giv K M bp Z fpf Hb σ ρ z Q) (e : Same Hb Hb') : Giv K M bp Z fpf Hb' σ ρ z Q := fun v Hb2 H2 fp e2 S r => g v Hb2 H2 fp (e.trans e2) S r
/-- freezing what is in hand -/
theorem Giv.frz {o : Ow} (S : StR K M bp Z fpf Hb H σ ρ) (r : RVl K Z fpf Hb H v (.ow o) fp) : ∃ Hb', Same Hb Hb' ∧ StR K M bp Z fpf Hb' H σ ρ ∧ Rp K Hb' v o.toD := by
  obtain ⟨S', e⟩ := S.froze (fun a ha => (r.1.at_ a ha).1) r.2.1 r.2.2
  exact ⟨_, e, S', RO.frz e o v fp r.1 fun a h => h⟩

/-! ### two operands -/
theorem op2_add : Op2 K (rI0 fun i j => .int (i + j)) (binV .add) := op2_int0 (fun _ _ => rfl) fun i j d h Hb => by cases h; exact .int _
theorem op2_sub : Op2 K (rI0 fun i j => .int (i - j)) (binV .sub) := op2_int0 (fun _ _ => rfl) fun i j d h Hb => by cases h; exact .int _
theorem op2_band : Op2 K (rI0 fun i j => .int (Builtin.bitAnd i j)) (binV .band) := op2_int0 (fun _ _ => rfl) fun i j d h Hb => by cases h; exact .int _
theorem op2_lt : Op2 K (rI0 fun i j => .bl (decide (i < j))) (binV .lt) := op2_int0 (fun _ _ => rfl) fun i j d h Hb => by cases h; exact .bl _
theorem op2_le : Op2 K (rI0 fun i j => .bl (decide (i ≤ j))) (binV .le) := op2_int0 (fun _ _ => rfl) fun i j d h Hb => by cases h; exact .bl _
theorem op2_gt : Op2 K (rI0 fun i j => .bl (decide (j < i))) (binV .gt) := op2_int0 (fun _ _ => rfl) fun i j d h Hb => by cases h; exact .bl _
theorem op2_ge : Op2 K (rI0 fun i j => .bl (decide (j ≤ i))) (binV .ge) := op2_int0 (fun _ _ => rfl) fun i j d h Hb => by cases h; exact .bl _
def CMod (_ j : Int) : Prop := j ≠ 0
/-- a division by CPython's own way for long numbers is room enough for -/
def PL (X : Cx) : Prop := ∀ (pins : List (Addr × Obj)) (σ : L2.St) (H : Hp) (s : Shared), Inv X pins σ H s → PySem.PylongRoom (model X.prog X.w) X.A s
theorem op_modA {X : Cx} : OpR X (binaryOp .Mod) (rI CMod fun i j => .int (i.fmod j)) := opI fun _ _ _ _ _ _ _ hc q => mod_int' hc q
theorem op_fdivA {X : Cx} (hp : PL X) : OpR X (binaryOp .FloorDiv) (rI CMod fun i j => .int (i.fdiv j)) := by
  intro pins s σ H x y v u Q I rx ry h
  obtain ⟨i, j, rfl, rfl, hc, q⟩ := h
  obtain ⟨t, rfl⟩ := _root_.id rx
  obtain ⟨t', rfl⟩ := _root_.id ry
  exact floordiv_int hc ⟨.int _, H, I.tok _, ⟨_, rfl⟩, q⟩ (.inr (hp pins σ H s I))
def CMulB (i j : Int) : Prop := i.natAbs.log2 + j.natAbs.log2 < 134000000
theorem CMulB.wide {i j : Int} (h : CMulB i j) : CMulX i j := by
  have b : ∀ x : Int, Builtin.Int.intBits x ≤ x.natAbs.log2 + 1 := fun x => by
    unfold Builtin.Int.intBits
    split <;> omega
  have h1 := b i
  have h2 := b j
  unfold CMulB at h
  unfold CMulX
  omega
theorem op_mulB {X : Cx} : OpR X (binaryOp .Mult) (rI CMulB fun i j => .int (i * j)) := opI fun _ _ _ _ _ _ _ hc q => mul_int q (CMulB.wide hc).ok
theorem op2_mul : Op2 K (rI CMulB fun i j => .int (i * j)) (binV .mul) := op2_int (fun _ _ => rfl) fun i j d h => by
  simp only [intBO] at h
  split at h
  · rename_i hc; cases h; exact ⟨hc, _, rfl, fun _ => .int _⟩
  · cases h
theorem op2_mod : Op2 K (rI CMod fun i j => .int (i.fmod j)) (binV .mod) := op2_int (fun _ _ => rfl) fun i j d h => by
  simp only [intBO] at h
  split at h
  · rename_i hc; cases h; exact ⟨hc, _, rfl, fun _ => .int _⟩
  · cases h
theorem op2_fdiv : Op2 K (rI CMod fun i j => .int (i.fdiv j)) (binV .fdiv) := op2_int (fun _ _ => rfl) fun i j d h => by
  simp only [intBO] at h
  split at h
  · rename_i hc; cases h; exact ⟨hc, _, rfl, fun _ => .int _⟩
  · cases h
theorem op2_pow : Op2 K (rI CPow fun i j => .int (i ^ j.toNat)) (binV .pow) := op2_int (fun _ _ => rfl) fun i j d h => by
  simp only [intBO] at h
  split at h
  · rename_i hc; cases h; exact ⟨hc, _, rfl, fun _ => .int _⟩
  · cases h
theorem op2_shl : Op2 K (rI CPow fun i j => .int (i * 2 ^ j.toNat)) (binV .shl) := op2_int (fun _ _ => rfl) fun i j d h => by
  simp only [intBO] at h
  split at h
  · rename_i hc; cases h; exact ⟨hc, _, rfl, fun _ => .int _⟩
  · cases h
theorem op2_shr : Op2 K (rI (fun _ j => 0 ≤ j) fun i j => .int (i / 2 ^ j.toNat)) (binV .shr) := op2_int (fun _ _ => rfl) fun i j d h => by
  simp only [intBO] at h
  split at h
  · rename_i hc; cases h; exact ⟨hc, _, rfl, fun _ => .int _⟩
  · cases h
theorem op2_eq : Op2 K (rEqD K) (binV .eq) := by
  intro M bp Z fpf Hb H σ ρ v u x y z fp1 fp2 Q S r1 r2 dj e q
  simp only [binV] at e
  split at e
  · rename_i hc
    simp only [Bool.and_eq_true] at hc
    obtain ⟨⟨⟨h1, h2⟩, h3⟩, h4⟩ := hc
    cases e
    refine ⟨_, _, r1.dp S h3, r2.dp S h4, fit_shaped h1, fit_shaped h2, ?_⟩
    rw [eqv_toP _ _ h3 h4]
    exact q.dat S (.bl _)
  · cases e
theorem op2_ne : Op2 K (rNeD K) (binV .ne) := by
  intro M bp Z fpf Hb H σ ρ v u x y z fp1 fp2 Q S r1 r2 dj e q
  simp only [binV] at e
  split at e
  · rename_i hc
    simp only [Bool.and_eq_true] at hc
    obtain ⟨⟨⟨h1, h2⟩, h3⟩, h4⟩ := hc
    cases e
    refine ⟨_, _, r1.dp S h3, r2.dp S h4, fit_shaped h1, fit_shaped h2, ?_⟩
    rw [eqv_toP _ _ h3 h4]
    exact q.dat S (.bl _)
  · cases e
theorem any_toP {x : D} (hx : x.nos = true) : ∀ ys : List D, D.noss ys = true → (D.toPs ys).any (fun z => PyData.eqv z x.toP) = ys.any fun z => D.eqv z x
  | [], _ => rfl
  | y :: ys, h => by
    simp only [D.noss, Bool.and_eq_true] at h
    simp [D.toPs, any_toP hx ys h.2, eqv_toP y x h.1 hx]
theorem flat_rp {d : D} (h : Rp K Hb v d) (f : d.flat = true) : flatV v = true := by
  cases h <;> first | rfl | cases f
theorem flats_rp : ∀ {vs : List V} {ds : List D}, RpL K Hb vs ds → ds.all D.flat = true → vs.all flatV = true
  | _, _, .nil, _ => rfl
  | _, _, .cons r t, h => by
    rw [List.all_cons, Bool.and_eq_true] at h ⊢
    exact ⟨flat_rp r h.1, flats_rp t h.2⟩
theorem eqV_rp {d e : D} {w : V} (h : Rp K Hb v d) (h2 : Rp K Hb w e) (f : d.flat = true) (f2 : e.flat = true) : eqV v w = D.eqv d e := by
  cases h <;> first | (cases f; done) | (cases h2 <;> first | (cases f2; done) | simp [eqV, D.eqv])
theorem inV_rp {d : D} (h : Rp K Hb v d) (f : d.flat = true) : ∀ {vs : List V} {ds : List D}, RpL K Hb vs ds → ds.all D.flat = true → inV v vs = ds.any fun z => D.eqv z d
  | _, _, .nil, _ => rfl
  | _, _, .cons r t, g => by
    rw [List.all_cons, Bool.and_eq_true] at g
    have := inV_rp h f t g.2
    unfold inV at this ⊢
    rw [List.any_cons, List.any_cons, this, eqV_rp r h g.1 f]
/-! dicts -/
theorem valK_rel (a b : Int) : ∀ (ks : List (Int × Int)) (vs : List V) (ds : List D), ks.length = ds.length → RpL K Hb vs ds →
    (valK ks ds a b = none ∧ valV (kvsOf ks vs) [Sum.inl a, Sum.inl b] = none) ∨ ∃ d w, valK ks ds a b = some d ∧ valV (kvsOf ks vs) [Sum.inl a, Sum.inl b] = some w ∧ Rp K Hb w d
  | [], _, _, _, h => .inl ⟨by simp [valK], by cases h <;> rfl⟩
  | _ :: _, _, [], h, _ => by simp at h
  | k :: ks, _, d :: ds, hl, h => by
    cases h with
    | @cons v vs _ _ h1 h2 =>
      by_cases c : k.1 = a ∧ k.2 = b
      · refine .inr ⟨d, v, by simp [valK, c], ?_, h1⟩
        show valV (([Sum.inl k.1, Sum.inl k.2], v) :: kvsOf ks vs) _ = _
        rw [valV_pos (by rw [c.1, c.2])]
      · have e1 : valK (k :: ks) (d :: ds) a b = valK ks ds a b := by simp [valK, c]
        have e2 : valV (kvsOf (k :: ks) (v :: vs)) [Sum.inl a, Sum.inl b] = valV (kvsOf ks vs) [Sum.inl a, Sum.inl b] := by
          show valV (([Sum.inl k.1, Sum.inl k.2], v) :: kvsOf ks vs) _ = _
          rw [valV_neg fun e => c ?_]
          have e : ([Sum.inl k.1, Sum.inl k.2] : List Key) = [Sum.inl a, Sum.inl b] := e
          simp at e
          exact e
        rw [e1, e2]
        exact valK_rel a b ks vs ds (by simpa using hl) h2
theorem dic_at {ks : List (Int × Int)} {ds : List D} (S : StR K M bp Z fpf Hb H σ ρ) (r : RVl K Z fpf Hb H u y fp) (e : y.look = .dic ks ds) : ∃ p vs, u = .ref p ∧ H p = some (.dT (kvsOf ks vs)) ∧ ks.length = ds.length ∧ RpL K Hb vs ds := by
  obtain ⟨o, f, eo, h⟩ := r.ro
  have e : o.toD = .dic ks ds := by rcases eo with rfl | rfl <;> exact e
  cases o with
  | d d =>
    cases h with
    | d h =>
      have e : d = .dic ks ds := e
      subst e
      cases h with
      | dic h1 h2 h3 => exact ⟨_, _, rfl, S.ex _ _ h1, h2, h3⟩
  | l os => cases e
  | m ks' ds' =>
    cases e
    cases h with
    | m h1 h2 h3 h4 => exact ⟨_, _, rfl, h2, h3, h4⟩
theorem key_at {a b : Int} (S : StR K M bp Z fpf Hb H σ ρ) (r : RVl K Z fpf Hb H u y fp) (e : y.look = .tup [.int a, .int b]) : ∃ p, u = .ref p ∧ SqT K H p (([Sum.inl a, Sum.inl b] : List Key).map kV) := by
  obtain ⟨o, f, eo, h⟩ := r.ro
  have e : o.toD = .tup [.int a, .int b] := by rcases eo with rfl | rfl <;> exact e
  cases o with
  | d d =>
    cases h with
    | d h =>
      have e : d = .tup [.int a, .int b] := e
      subst e
      cases h with
      | tup h1 h2 =>
        cases h2 with
        | cons h3 h4 =>
          cases h4 with
          | cons h5 h6 =>
            cases h6
            cases h3
            cases h5
            exact ⟨_, rfl, same_t S.ex h1⟩
  | l os => cases e
  | m ks' ds' => cases e
theorem dg_at {a b : Int} {ks : List (Int × Int)} {ds : List D} (S : StR K M bp Z fpf Hb H σ ρ) (r1 : RVl K Z fpf Hb H v x fp1) (r2 : RVl K Z fpf Hb H u y fp2) (e1 : x.look = .tup [.int a, .int b]) (e2 : y.look = .dic ks ds) :
    ∃ p o, u = .ref p ∧ DG K H p v o ∧ (o = none ∧ valK ks ds a b = none ∨ ∃ w d, o = some w ∧ valK ks ds a b = some d ∧ Rp K Hb w d) := by
  obtain ⟨p, vs, rfl, h1, h2, h3⟩ := dic_at S r2 e2
  obtain ⟨q, rfl, h4⟩ := key_at S r1 e1
  refine ⟨p, _, rfl, ⟨_, _, q, h1, rfl, h4, rfl⟩, ?_⟩
  rcases valK_rel a b ks vs ds h2 h3 with ⟨k1, k2⟩ | ⟨d, w, k1, k2, k3⟩
  · exact .inl ⟨k2, k1⟩
  · exact .inr ⟨w, d, k2, k1, k3⟩
theorem look_str {a : Str} (r : RVl K Z fpf Hb H v x fp) (e : x.look = .str a) : v = .str a := by
  obtain ⟨o, f, ex, h⟩ := r.ro
  have eo : x.look = o.toD := by rcases ex with rfl | rfl <;> rfl
  rw [eo] at e
  cases o with
  | d d =>
    have e : d = .str a := e
    subst e
    cases h with
    | d h => cases h; rfl
  | l os => cases e
  | m _ _ => cases e
theorem isIn_cases {x y : Vl} {b : Bool} (S : StR K M bp Z fpf Hb H σ ρ) (r1 : RVl K Z fpf Hb H v x fp1) (r2 : RVl K Z fpf Hb H u y fp2) (h : isInD x.look y.look = some b) :
    (∃ d ds, Dp K H v d ∧ Dp K H u (.list ds) ∧ SeqAt.shaped d = true ∧ SeqAt.shaped (.list ds) = true ∧ (ds.any fun z => PyData.eqv z d) = b) ∨
    (∃ p xs, u = .ref p ∧ SqT K H p xs ∧ flatV v = true ∧ xs.all flatV = true ∧ inV v xs = b) ∨ (∃ p o, u = .ref p ∧ DG K H p v o ∧ o.isSome = b) ∨ (∃ (c : Nat) (z : Str), v = .str ⟨#[c]⟩ ∧ u = .str z ∧ decide (c ∈ z.cps.toList) = b) ∨
    (∃ d ds, Dp K H v d ∧ Dp K H u (.tuple ds) ∧ SeqAt.shaped d = true ∧ SeqAt.shaped (.tuple ds) = true ∧ (ds.any fun z => PyData.eqv z d) = b) := by
  unfold isInD at h
  split at h
  · rename_i ys ey
    split at h
    · rename_i hc
      simp only [Bool.and_eq_true] at hc
      obtain ⟨⟨⟨h1, h2⟩, h3⟩, h4⟩ := hc
      cases h
      have q2 := r2.dp S (by rw [ey]; exact h4)
      rw [ey] at q2
      exact .inl ⟨_, _, r1.dp S h3, q2, fit_shaped h1, fit_shaped h2, any_toP h3 ys h4⟩
    · cases h
  · rename_i ys ey
    split at h
    · rename_i hc
      simp only [Bool.and_eq_true] at hc
      cases h
      obtain ⟨o, f, e, r⟩ := r1.ro
      have hx : Rp K Hb v x.look := by
        cases o with
        | d d => rcases e with rfl | rfl <;> (cases r with | d r => exact r)
        | l os => rcases e with rfl | rfl <;> exact absurd hc.1 Bool.false_ne_true
        | m _ _ => rcases e with rfl | rfl <;> exact absurd hc.1 Bool.false_ne_true
      obtain ⟨o2, f2, e2, r3⟩ := r2.ro
      have hy : Rp K Hb u (.tup ys) := by
        cases o2 with
        | d d => rcases e2 with rfl | rfl <;> (cases r3 with | d r4 => exact ey ▸ r4)
        | l os => rcases e2 with rfl | rfl <;> cases ey
        | m _ _ => rcases e2 with rfl | rfl <;> cases ey
      cases hy with
      | tup h1 h2 => exact .inr (.inl ⟨_, _, rfl, same_t S.ex h1, flat_rp hx hc.1, flats_rp h2 hc.2, inV_rp hx hc.1 h2 hc.2⟩)
    · split at h
      · rename_i hc
        simp only [Bool.and_eq_true] at hc
        obtain ⟨⟨⟨h1, h2⟩, h3⟩, h4⟩ := hc
        cases h
        have q2 := r2.dp S (by rw [ey]; exact h4)
        rw [ey] at q2
        exact .inr (.inr (.inr (.inr ⟨_, _, r1.dp S h3, q2, fit_shaped h1, fit_shaped h2, any_toP h3 ys h4⟩)))
      · cases h
  · rename_i ks ds ey
    split at h
    · rename_i a b ex
      cases h
      obtain ⟨p, o, h1, h2, h3⟩ := dg_at S r1 r2 ex ey
      refine .inr (.inr (.inl ⟨p, o, h1, h2, ?_⟩))
      rcases h3 with ⟨k1, k2⟩ | ⟨w, d, k1, k2, _⟩ <;> rw [k1, k2] <;> rfl
    · cases h
  · rename_i z ey
    split at h
    · rename_i a ex
      split at h
      · rename_i c ec
        cases h
        have ea : a = ⟨#[c]⟩ := by
          cases a with
          | mk cps => exact congrArg Str.mk (Array.toList_inj.mp ec)
        subst ea
        exact .inr (.inr (.inr (.inl ⟨c, z, look_str r1 ex, look_str r2 ey, rfl⟩)))
      · cases h
    · cases h
  · cases h
def rInT (K : PySem.W.Frag) (neg : Bool) : R2 := fun x y H Q => ∃ d ds, Dp K H x d ∧ Dp K H y (.tuple ds) ∧ SeqAt.shaped d = true ∧ SeqAt.shaped (.tuple ds) = true ∧ Q (.bl (if neg then !(ds.any fun z => PyData.eqv z d) else ds.any fun z => PyData.eqv z d)) H
theorem op_inT {X : Cx} (hu : X.A.units + 65 < cLine) : OpR X (compareOp .In) (rInT X.K false) := by
  intro pins s σ H x y v u Q I rx ry h
  obtain ⟨d, ds, hd, he, sd, se, q⟩ := h
  obtain ⟨as, r1⟩ := Dp.reads I d x v hd rx
  obtain ⟨bs, r2⟩ := Dp.reads I (.tuple ds) y u he ry
  exact SeqAt.in_tuple_reads r2 r1 (SeqAt.canLay_of_shaped se) (SeqAt.canLay_of_shaped sd) (PyProof.Rows.room_in_shaped sd hu) ⟨.bl _, H, I, rfl, q⟩
theorem op_notInT {X : Cx} (hu : X.A.units + 65 < cLine) : OpR X (compareOp .NotIn) (rInT X.K true) := by
  intro pins s σ H x y v u Q I rx ry h
  obtain ⟨d, ds, hd, he, sd, se, q⟩ := h
  obtain ⟨as, r1⟩ := Dp.reads I d x v hd rx
  obtain ⟨bs, r2⟩ := Dp.reads I (.tuple ds) y u he ry
  exact SeqAt.notIn_tuple_reads r2 r1 (SeqAt.canLay_of_shaped se) (SeqAt.canLay_of_shaped sd) (PyProof.Rows.room_in_shaped sd hu) ⟨.bl _, H, I, rfl, q⟩
def rInA (K : PySem.W.Frag) (neg : Bool) : R2 := fun x y H Q => (if neg then rNotInD K x y H Q else rInD K x y H Q) ∨ rIn K neg x y H Q ∨ rDIn K neg x y H Q ∨ (∃ (c : Nat) (z : Str), x = .str ⟨#[c]⟩ ∧ y = .str z ∧ Q (.bl (if neg then !decide (c ∈ z.cps.toList) else decide (c ∈ z.cps.toList))) H) ∨ rInT K neg x y H Q
theorem op_inA {X : Cx} (hu : X.A.units + 65 < cLine) : OpR X (compareOp .In) (rInA X.K false) := fun pins s σ H x y v u Q I r1 r2 h => h.elim (fun h => op_inD hu pins s σ H x y v u Q I r1 r2 h) fun h => h.elim (fun h => op_in_seq pins s σ H x y v u Q I r1 r2 h) fun h => h.elim (fun h => op_din (by omega) pins s σ H x y v u Q I r1 r2 h) fun h => h.elim (fun h => op_in_sign pins s σ H x y v u Q I r1 r2 h) fun h => op_inT hu pins s σ H x y v u Q I r1 r2 h
theorem op_notInA {X : Cx} (hu : X.A.units + 65 < cLine) : OpR X (compareOp .NotIn) (rInA X.K true) := fun pins s σ H x y v u Q I r1 r2 h => h.elim (fun h => op_notInD hu pins s σ H x y v u Q I r1 r2 h) fun h => h.elim (fun h => op_notIn_seq pins s σ H x y v u Q I r1 r2 h) fun h => h.elim (fun h => op_dnin (by omega) pins s σ H x y v u Q I r1 r2 h) fun h => h.elim (fun h => op_notIn_sign pins s σ H x y v u Q I r1 r2 h) fun h => op_notInT hu pins s σ H x y v u Q I r1 r2 h
theorem op2_isIn : Op2 K (rInA K false) (binV .isIn) := by
  intro M bp Z fpf Hb H σ ρ v u x y z fp1 fp2 Q S r1 r2 dj e q
  obtain ⟨b, e1, e2⟩ := Option.map_eq_some_iff.mp (show (isInD x.look y.look).map (fun b => dv (.bl b)) = some z from e)
  subst e2
  rcases isIn_cases S r1 r2 e1 with ⟨d, ds, h1, h2, h3, h4, h5⟩ | ⟨p, xs, h1, h2, h3, h4, h5⟩ | ⟨p, o, h1, h2, h3⟩ | ⟨c, w, h1, h2, h3⟩ | ⟨d, ds, h1, h2, h3, h4, h5⟩
  · exact .inl ⟨d, ds, h1, h2, h3, h4, by rw [h5]; exact q.dat S (.bl _)⟩
  · exact .inr (.inl ⟨p, xs, h1, .inr h2, h3, h4, by rw [h5]; exact q.dat S (.bl _)⟩)
  · exact .inr (.inr (.inl ⟨p, o, h1, h2, by rw [if_neg Bool.false_ne_true, h3]; exact q.dat S (.bl _)⟩))
  · exact .inr (.inr (.inr (.inl ⟨c, w, h1, h2, by rw [if_neg Bool.false_ne_true, h3]; exact q.dat S (.bl _)⟩)))
  · exact .inr (.inr (.inr (.inr ⟨d, ds, h1, h2, h3, h4, by rw [if_neg Bool.false_ne_true, h5]; exact q.dat S (.bl _)⟩)))
theorem op2_notIn : Op2 K (rInA K true) (binV .notIn) := by
  intro M bp Z fpf Hb H σ ρ v u x y z fp1 fp2 Q S r1 r2 dj e q
  obtain ⟨b, e1, e2⟩ := Option.map_eq_some_iff.mp (show (isInD x.look y.look).map (fun b => dv (.bl (!b))) = some z from e)
  subst e2
  rcases isIn_cases S r1 r2 e1 with ⟨d, ds, h1, h2, h3, h4, h5⟩ | ⟨p, xs, h1, h2, h3, h4, h5⟩ | ⟨p, o, h1, h2, h3⟩ | ⟨c, w, h1, h2, h3⟩ | ⟨d, ds, h1, h2, h3, h4, h5⟩
  · exact .inl ⟨d, ds, h1, h2, h3, h4, by rw [h5]; exact q.dat S (.bl _)⟩
  · exact .inr (.inl ⟨p, xs, h1, .inr h2, h3, h4, by rw [h5]; exact q.dat S (.bl _)⟩)
  · exact .inr (.inr (.inl ⟨p, o, h1, h2, by rw [if_pos rfl, h3]; exact q.dat S (.bl _)⟩))
  · exact .inr (.inr (.inr (.inl ⟨c, w, h1, h2, by rw [if_pos rfl, h3]; exact q.dat S (.bl _)⟩)))
  · exact .inr (.inr (.inr (.inr ⟨d, ds, h1, h2, h3, h4, by rw [if_pos rfl, h5]; exact q.dat S (.bl _)⟩)))
theorem op2_dget : Op2 K (rDG K) (binV .dget) := by
  intro M bp Z fpf Hb H σ ρ v u x y z fp1 fp2 Q S r1 r2 dj e q
  simp only [binV] at e
  split at e
  · rename_i ks ds a b ex
    obtain ⟨d, e1, e2⟩ := Option.map_eq_some_iff.mp e
    subst e2
    obtain ⟨p, o, h1, h2, h3⟩ := dg_at S r2 r1 rfl ex
    rcases h3 with ⟨k1, k2⟩ | ⟨w, d', k1, k2, k3⟩
    · rw [e1] at k2; cases k2
    · rw [e1] at k2; cases k2
      subst k1
      exact ⟨p, w, h1, h2, q.dat S k3⟩
  · cases e
theorem op2_isB : Op2 K rIsB (binV .isB) := by
  intro M bp Z fpf Hb H σ ρ v u x y z fp1 fp2 Q S r1 r2 dj e q
  simp only [binV] at e
  split at e
  · cases e
    exact ⟨_, _, rp_bl r1, rp_bl r2, q.dat S (.bl _)⟩
  · cases e
theorem op2_ntB : Op2 K rNotB (binV .ntB) := by
  intro M bp Z fpf Hb H σ ρ v u x y z fp1 fp2 Q S r1 r2 dj e q
  simp only [binV] at e
  split at e
  · cases e
    exact ⟨_, _, rp_bl r1, rp_bl r2, q.dat S (.bl _)⟩
  · cases e
theorem op2_cat : Op2 K rCat (binV .cat) := by
  intro M bp Z fpf Hb H σ ρ v u x y z fp1 fp2 Q S r1 r2 dj e q
  simp only [binV] at e
  split at e
  · rename_i a b ea eb
    split at e
    · rename_i hs
      cases e
      obtain ⟨p, vs, f, e1, e2, e3, e4⟩ := parts_ok S r1 ea
      obtain ⟨p', ws, f', g1, g2, g3, g4⟩ := parts_ok S r2 eb
      refine ⟨p, p', vs, ws, e1, g1, e2, g2, by rw [e3.length, g3.length]; exact small_le hs, fun l hl => ?_⟩
      have h1 : ∀ {v : V} {x : Vl} {fp : List Addr}, RVl K Z fpf Hb H v x fp → ∀ a ∈ fp, ¬ (Z.F a ∨ Z.G a) ∧ ∀ i, a ∉ fpf i := fun {v x fp} r a ha => by
        cases x with
        | ow o => exact ⟨r.2.1 a ha, fun i h => r.2.2 i a h ha⟩
        | bw o => obtain ⟨_, _, _, e⟩ := r; subst e; cases ha
      refine Giv.newL S q (ROs.app e3 g3 fun a h1 h2 => dj a (e4 a h1) (g4 a h2)) (fun a ha => ?_) (fun i a hi ha => ?_) hl
      · rcases List.mem_append.mp ha with ha | ha
        · exact (h1 r1 a (e4 a ha)).1
        · exact (h1 r2 a (g4 a ha)).1
      · rcases List.mem_append.mp ha with ha | ha
        · exact (h1 r1 a (e4 a ha)).2 i hi
        · exact (h1 r2 a (g4 a ha)).2 i hi
    · cases e
  · cases e
theorem rep_d {vs : List V} {ds : List D} (r : RpL K Hb vs ds) : ∀ n : Nat, RpL K Hb (List.replicate n vs).flatten (List.replicate n ds).flatten
  | 0 => by simpa using RpL.nil
  | n + 1 => by simpa [List.replicate_succ] using r.app (rep_d r n)
theorem op2_rep : Op2 K rRep (binV .rep) := by
  intro M bp Z fpf Hb H σ ρ v u x y z fp1 fp2 Q S r1 r2 dj e q
  simp only [binV] at e
  split at e
  · rename_i os k
    split at e
    · rename_i hc
      simp only [Bool.and_eq_true, decide_eq_true_eq] at hc
      obtain ⟨⟨⟨h1, h2⟩, h3⟩, h4⟩ := hc
      cases e
      obtain ⟨p, vs, f, e1, e2, e3, e4, _⟩ := r1.1.sub
      have eu := rp_int r2
      obtain ⟨ef, hd, eo⟩ := ROs.alld e3 h1
      subst ef
      refine ⟨p, k, vs, e1, eu, e2, by omega, by omega, by rw [e3.length]; exact small_le h4, fun l hl => ?_⟩
      have em : (List.replicate k.toNat os).flatten = ((List.replicate k.toNat (Ow.toDs os)).flatten).map Ow.d := by
        rw [List.map_flatten, List.map_replicate, ← eo]
      rw [em] at q
      exact Giv.newL S q (ROs.ofD (rep_d hd k.toNat)) (fun _ h => (nomatch h)) (fun _ _ _ h => (nomatch h)) hl
    · cases e
  · cases e
theorem op2_tcat : Op2 K (rCatA K) (binV .tcat) := by
  intro M bp Z fpf Hb H σ ρ v u x y z fp1 fp2 Q S r1 r2 dj e q
  simp only [binV] at e
  split at e
  · rename_i a b
    split at e
    · rename_i hs
      cases e
      obtain ⟨h1, _⟩ := rp_d r1
      obtain ⟨h2, _⟩ := rp_d r2
      cases h1 with
      | @tup p vs _ s1 l1 =>
        cases h2 with
        | @tup p' ws _ s2 l2 =>
          refine ⟨p, p', vs, ws, rfl, rfl, same_t S.ex s1, same_t S.ex s2, by rw [l1.length, l2.length]; exact small_le hs, fun e => ?_, fun _ e => ?_, fun _ _ l hl => ?_⟩
          · subst e
            cases l1
            exact q.dat S (.tup s2 l2)
          · subst e
            cases l2
            rw [List.append_nil] at q
            exact q.dat S (.tup s1 l1)
          · exact Giv.newT S q (l1.app l2) hl
    · cases e
  · cases e
end
end WM

/-! WM: operations on one value; places, slices. -/
namespace WM
open PySem PySem.Spec PyProof.Rows L2
section
variable {K : PySem.W.Frag} {M : Nat → Bool} {bp : List (Nat × Addr)} {Z : Fz} {fpf fpf' : Nat → List Addr} {Hb Hb' H H' : Hp} {σ : L2.St} {ρ ρ' : Env} {v u : V} {x y z : Vl} {fp fp1 fp2 : List Addr}

theorem toD_int {o : Ow} {n : Int} (h : o.toD = .int n) : o = .d (.int n) := by cases o with | d d => simpa [Ow.toD] using h | l os => cases h | m _ _ => cases h
theorem toD_bl {o : Ow} {n : Bool} (h : o.toD = .bl n) : o = .d (.bl n) := by cases o with | d d => simpa [Ow.toD] using h | l os => cases h | m _ _ => cases h
theorem ints?_some : ∀ {ds : List D} {ns : List Int}, D.ints? ds = some ns → ds = ns.map D.int
  | [], _, h => by cases h; rfl
  | d :: ds, _, h => by
    cases d with
    | int i =>
      obtain ⟨ms, h1, h2⟩ := Option.map_eq_some_iff.mp (show (D.ints? ds).map (i :: ·) = some _ from h)
      subst h2
      rw [ints?_some h1]; rfl
    | _ => cases h
theorem bls?_some : ∀ {ds : List D} {ns : List Bool}, D.bls? ds = some ns → ds = ns.map D.bl
  | [], _, h => by cases h; rfl
  | d :: ds, _, h => by
    cases d with
    | bl i =>
      obtain ⟨ms, h1, h2⟩ := Option.map_eq_some_iff.mp (show (D.bls? ds).map (i :: ·) = some _ from h)
      subst h2
      rw [bls?_some h1]; rfl
    | _ => cases h
theorem ROs.ints : ∀ {os : List Ow} {vs : List V} {f : List Addr} {ns : List Int}, ROs K Hb H vs os f → Ow.toDs os = ns.map D.int → vs = ns.map V.int
  | [], _, _, ns, h, e => by cases h; cases ns with | nil => rfl | cons => cases e
  | o :: os, _, _, ns, h, e => by
    cases ns with
    | nil => cases e
    | cons n ns =>
      have e1 : o.toD = .int n := (List.cons.inj e).1
      have e2 : Ow.toDs os = ns.map D.int := (List.cons.inj e).2
      have := toD_int e1
      subst this
      cases h with
      | cons h1 h2 h3 =>
        cases h1 with
        | d h1 => cases h1; rw [ROs.ints h2 e2]; rfl
theorem ROs.bls : ∀ {os : List Ow} {vs : List V} {f : List Addr} {ns : List Bool}, ROs K Hb H vs os f → Ow.toDs os = ns.map D.bl → vs = ns.map V.bl
  | [], _, _, ns, h, e => by cases h; cases ns with | nil => rfl | cons => cases e
  | o :: os, _, _, ns, h, e => by
    cases ns with
    | nil => cases e
    | cons n ns =>
      have e1 : o.toD = .bl n := (List.cons.inj e).1
      have e2 : Ow.toDs os = ns.map D.bl := (List.cons.inj e).2
      have := toD_bl e1
      subst this
      cases h with
      | cons h1 h2 h3 =>
        cases h1 with
        | d h1 => cases h1; rw [ROs.bls h2 e2]; rfl
theorem ROs.ofRpL {vs : List V} {ds : List D} (h : RpL K Hb vs ds) : ROs K Hb H vs (ds.map Ow.d) [] := ROs.ofD h
theorem look_lst {ds : List D} (S : StR K M bp Z fpf Hb H σ ρ) (r : RVl K Z fpf Hb H v x fp) (e : x.look = .lst ds) : ∃ p vs os f, v = .ref p ∧ H p = some (.lst vs) ∧ ROs K Hb H vs os f ∧ Ow.toDs os = ds := by
  obtain ⟨o, f, ex, h⟩ := r.ro
  have eo : o.toD = .lst ds := by rcases ex with rfl | rfl <;> exact e
  cases o with
  | d d =>
    cases h with
    | d h =>
      have : d = .lst ds := eo
      subst this
      cases h with
      | lst h1 h2 => exact ⟨_, _, _, _, rfl, S.ex _ _ h1, ROs.ofD h2, toDs_map ds⟩
  | l os =>
    obtain ⟨p, vs, f', h1, h2, h3, _⟩ := h.sub
    exact ⟨p, vs, os, f', h1, h2, h3, (D.lst.inj eo)⟩
  | m _ _ => cases eo
theorem look_dat {d : D} (r : RVl K Z fpf Hb H v x fp) (e : x.look = d) (n : ∀ ds, d ≠ .lst ds) (n2 : ∀ ks ds, d ≠ .dic ks ds := by exact fun _ _ => nofun) : Rp K Hb v d := by
  obtain ⟨o, f, ex, h⟩ := r.ro
  have eo : o.toD = d := by rcases ex with rfl | rfl <;> exact e
  cases o with
  | d d' => cases h with | d h => exact eo ▸ h
  | l os => exact absurd eo.symm (n _)
  | m _ _ => exact absurd eo.symm (n2 _ _)
theorem toDs_len (os : List Ow) : (Ow.toDs os).length = os.length := by rw [Ow.toDs_eq, List.length_map]
theorem op1_len : Op1 K (fun v H Q => ∃ x n, [v] = [x] ∧ LenV K x H n ∧ Q (.int n) H) (unV .len) := by
  intro M bp Z fpf Hb H σ ρ v x z fp Q S r e q
  simp only [unV] at e
  split at e
  · rename_i ds hd
    cases e
    obtain ⟨p, vs, os, f, h1, h2, h3, h4⟩ := look_lst S r hd
    subst h1
    refine ⟨_, vs.length, rfl, .inl ⟨vs, SqL.of h2, rfl⟩, ?_⟩
    rw [h3.length, ← toDs_len, h4]
    exact q.dat S (.int _)
  · rename_i ds hd
    cases e
    have h := look_dat r hd fun _ => nofun
    cases h with
    | tup h1 h2 =>
      refine ⟨_, _, rfl, .inr ⟨_, same_t S.ex h1, rfl⟩, ?_⟩
      rw [h2.length]
      exact q.dat S (.int _)
  · rename_i ns hd
    cases e
    have h := look_dat r hd fun _ => nofun
    cases h with
    | scr h1 =>
      refine ⟨_, _, rfl, .inl ⟨_, S.ex.seq h1, rfl⟩, ?_⟩
      rw [List.length_map]
      exact q.dat S (.int _)
  · rename_i s hd
    split at e
    · rename_i hs
      cases e
      have h := look_dat r hd fun _ => nofun
      cases h
      exact ⟨_, _, rfl, ⟨small_le hs, rfl⟩, q.dat S (.int _)⟩
    · cases e
  · cases e
theorem op1_abs : Op1 K (fun v H Q => ∃ i, [v] = [.int i] ∧ Q (.int (if i < 0 then -i else i)) H) (unV .abs) := by
  intro M bp Z fpf Hb H σ ρ v x z fp Q S r e q
  simp only [unV] at e
  split at e
  · cases e
    have := rp_int r
    subst this
    exact ⟨_, rfl, q.dat S (.int _)⟩
  · cases e
theorem op1_neg : Op1 K (rU fun i => .int (-i)) (unV .neg) := by
  intro M bp Z fpf Hb H σ ρ v x z fp Q S r e q
  simp only [unV] at e
  split at e
  · cases e
    have := rp_int r
    subst this
    exact ⟨_, rfl, q.dat S (.int _)⟩
  · cases e
theorem op1_not : Op1 K (fun v H Q => ∃ c, v = .bl c ∧ Q (.bl (!c)) H) (unV .not) := by
  intro M bp Z fpf Hb H σ ρ v x z fp Q S r e q
  simp only [unV] at e
  split at e
  · cases e
    have := rp_bl r
    subst this
    exact ⟨_, rfl, q.dat S (.bl _)⟩
  · cases e
theorem op1_int : Op1 K (fun v H Q => ((∃ i, [v] = [.int i] ∧ Q (.int i) H) ∨ ∃ k, [v] = [.bl k] ∧ Q (.int (if k then 1 else 0)) H) ∨ ∃ a n, [v] = [.str a] ∧ PySem.intText? a = some n ∧ a.length ≤ 640 ∧ Q (.int n) H) (unV .int) := by
  intro M bp Z fpf Hb H σ ρ v x z fp Q S r e q
  simp only [unV] at e
  split at e
  · cases e
    have := rp_int r
    subst this
    exact .inl (.inl ⟨_, rfl, q.dat S (.int _)⟩)
  · cases e
    have := rp_bl r
    subst this
    exact .inl (.inr ⟨_, rfl, q.dat S (.int _)⟩)
  · split at e
    · rename_i a hl
      obtain ⟨n, e1, e2⟩ := Option.map_eq_some_iff.mp e
      subst e2
      have := look_str r rfl
      subst this
      exact .inr ⟨_, n, rfl, e1, hl, q.dat S (.int _)⟩
    · cases e
  · cases e
theorem cr_intA {X : Cx} : CallR X (.type "int") (fun xs H Q => ((∃ i, xs = [V.int i] ∧ Q (.int i) H) ∨ ∃ k, xs = [V.bl k] ∧ Q (.int (if k then 1 else 0)) H) ∨ ∃ a n, xs = [V.str a] ∧ PySem.intText? a = some n ∧ a.length ≤ 640 ∧ Q (.int n) H) := fun pins s σ H xs us Q I r h => h.elim (fun h => call_int1 pins s σ H xs us Q I r h) fun h => call_int_str pins s σ H xs us Q I r h
theorem op1_str : Op1 K (fun v H Q => ∃ i, [v] = [.int i] ∧ i.natAbs.log2 < 1920 ∧ Q (.str (toString i)) H) (unV .str) := by
  intro M bp Z fpf Hb H σ ρ v x z fp Q S r e q
  simp only [unV] at e
  split at e
  · split at e
    · rename_i hl
      cases e
      have := rp_int r
      subst this
      exact ⟨_, rfl, hl, q.dat S (.str _)⟩
    · cases e
  · cases e
theorem op2_scat : Op2 K (fun x y H Q => ∃ i j, x = .str i ∧ y = .str j ∧ i.length + j.length ≤ sizeLine ∧ Q (.str (i ++ j)) H) (binV .scat) := by
  intro M bp Z fpf Hb H σ ρ v u x y z fp1 fp2 Q S r1 r2 dj e q
  simp only [binV] at e
  split at e
  · split at e
    · rename_i hs
      cases e
      exact ⟨_, _, look_str r1 rfl, look_str r2 rfl, small_le hs, q.dat S (.str _)⟩
    · cases e
  · cases e
def rSRep : R2 := fun x y H Q => ∃ a k, x = .str a ∧ y = .int k ∧ 0 ≤ k ∧ k ≤ 1 ∧ Q (.str (if k = 0 then Str.empty else a)) H
theorem op_srep {X : Cx} : OpR X (binaryOp .Mult) rSRep := by
  intro pins s σ H x y v u Q I r1 r2 h
  obtain ⟨a, k, rfl, rfl, h0, h1, q⟩ := h
  obtain ⟨t, rfl⟩ := r1
  obtain ⟨t2, rfl⟩ := r2
  have hk : k = 0 ∨ k = 1 := by omega
  rcases hk with rfl | rfl
  · exact PySem.P.mul_str_none (by decide) (by decide) ⟨.str Str.empty, H, I.tok _, ⟨_, rfl⟩, q⟩
  · refine PySem.P.mul_str (by decide) (fun _ h => absurd h (by simp)) (fun _ h => absurd h (by simp)) ?_
    rw [if_neg (by decide), if_pos (by simp)]
    exact ⟨.str a, H, I, ⟨_, rfl⟩, q⟩
theorem op2_srep : Op2 K rSRep (binV .srep) := by
  intro M bp Z fpf Hb H σ ρ v u x y z fp1 fp2 Q S r1 r2 dj e q
  simp only [binV] at e
  split at e
  · split at e
    · rename_i hs
      simp only [Bool.and_eq_true, decide_eq_true_eq] at hs
      cases e
      exact ⟨_, _, look_str r1 rfl, rp_int r2, hs.1.1, hs.1.2, q.dat S (.str _)⟩
    · cases e
  · cases e
theorem look_non (r : RVl K Z fpf Hb H v x fp) : x.look.isNon = decide (v = .non) := by
  obtain ⟨o, f, ex, h⟩ := r.ro
  have eo : x.look = o.toD := by rcases ex with rfl | rfl <;> rfl
  rw [eo]
  cases h with
  | d h => cases h <;> simp [Ow.toD, D.isNon]
  | l => simp [Ow.toD, D.isNon]
  | m => simp [Ow.toD, D.isNon]
theorem op1_frz : Op1 K (fun v H Q => Q v H) (unV .frz) := by
  intro M bp Z fpf Hb H σ ρ v x z fp Q S r e q
  simp only [unV] at e
  split at e
  · cases e
    obtain ⟨Hb', e', S', r'⟩ := Giv.frz S r
    exact q v Hb' H [] e' S' (.d r')
  · cases e
theorem op1_isN : Op1 K (fun v H Q => Q (.bl (decide (v = .non))) H) (unV .isN) := by
  intro M bp Z fpf Hb H σ ρ v x z fp Q S r e q
  simp only [unV] at e
  cases e
  rw [look_non r] at q
  exact q.dat S (.bl _)
theorem op1_notN : Op1 K (fun v H Q => Q (.bl (!decide (v = .non))) H) (unV .notN) := by
  intro M bp Z fpf Hb H σ ρ v x z fp Q S r e q
  simp only [unV] at e
  cases e
  rw [look_non r] at q
  exact q.dat S (.bl _)
theorem lst?_some {d : D} {ds : List D} (h : d.lst? = some ds) : d = .lst ds := by
  cases d <;> first | (cases h; done) | (cases h; rfl)
theorem look_ints {ns : List Int} (S : StR K M bp Z fpf Hb H σ ρ) (r : RVl K Z fpf Hb H v x fp) (h : x.look.lst?.bind D.ints? = some ns) : ∃ p, v = .ref p ∧ H p = some (.lst (ns.map V.int)) := by
  obtain ⟨ds, h1, h2⟩ := Option.bind_eq_some_iff.mp h
  obtain ⟨p, vs, os, f, e1, e2, e3, e4⟩ := look_lst S r (lst?_some h1)
  rw [e3.ints (e4.trans (ints?_some h2))] at e2
  exact ⟨p, e1, e2⟩
theorem look_bls {ns : List Bool} (S : StR K M bp Z fpf Hb H σ ρ) (r : RVl K Z fpf Hb H v x fp) (h : x.look.lst?.bind D.bls? = some ns) : ∃ p, v = .ref p ∧ H p = some (.lst (ns.map V.bl)) := by
  obtain ⟨ds, h1, h2⟩ := Option.bind_eq_some_iff.mp h
  obtain ⟨p, vs, os, f, e1, e2, e3, e4⟩ := look_lst S r (lst?_some h1)
  rw [e3.bls (e4.trans (bls?_some h2))] at e2
  exact ⟨p, e1, e2⟩
def rSumA (K : PySem.W.Frag) : List V → Hp → VK → Prop := fun vs H Q => rSum K vs H Q ∨ ∃ (a : Addr) (ns : List Int), vs = [V.ref a] ∧ SqT K H a (ns.map V.int) ∧ Q (.int ns.sum) H
theorem cr_sumA {X : Cx} (hc : X.calm = true) : CallR X (.builtin "sum") (rSumA X.K) := by
  intro pins s σ H vs us Q I r h
  rcases h with h | h
  · exact cr_sum hc pins s σ H vs us Q I r h
  · obtain ⟨a, ns, rfl, hs, q⟩ := h
    obtain ⟨its, rv, p, _⟩ := I.tuple hs
    rw [Vals.ref1 r]
    have hi := rv.ints
    have ht : s.heap.IsTuple a its.toArray := p
    obtain ⟨xs, hx⟩ := hi.allInts.items
    have hn : numsOf its.toArray.toList = ns := by rw [show its.toArray.toList = its from rfl, hi.numsOf]
    rw [hx] at ht hn
    rw [nums_intItems] at hn
    refine PySem.W.ktm_sumG (I.ok.hd hc) ht fun h' tk t' hk => ?_
    have e : preSum (numAt xs) xs.size = ns.sum := by rw [preSum_eq, List.take_of_length_le (by simp), hn]
    rw [e]
    exact ⟨.int _, H, I.kept hk, ⟨_, rfl⟩, q⟩
theorem op1_sum : Op1 K (fun v H Q => rSumA K [v] H Q) (unV .sum) := by
  intro M bp Z fpf Hb H σ ρ v x z fp Q S r e q
  obtain ⟨ns, e1, e2⟩ := Option.map_eq_some_iff.mp (show (x.look.lot?.bind D.ints?).map (fun ns => dv (.int ns.sum)) = some z from e)
  subst e2
  obtain ⟨ds, h1, h2⟩ := Option.bind_eq_some_iff.mp e1
  cases hx : x.look with
  | lst ds' =>
    rw [hx] at h1; cases h1
    obtain ⟨p, g1, g2⟩ := look_ints S r (ns := ns) (by rw [hx]; exact h2)
    exact .inl ⟨p, ns, by rw [g1], SqL.of g2, q.dat S (.int _)⟩
  | tup ds' =>
    rw [hx] at h1; cases h1
    have rp := look_dat r hx (fun _ => nofun)
    cases rp with
    | tup g1 g2 =>
      have ro : ROs K Hb H _ (ds.map Ow.d) [] := ROs.ofRpL g2
      have ev := ro.ints (ns := ns) ((toDs_map ds).trans (ints?_some h2))
      subst ev
      exact .inr ⟨_, ns, rfl, same_t S.ex g1, q.dat S (.int _)⟩
  | non => rw [hx] at h1; cases h1
  | bl _ => rw [hx] at h1; cases h1
  | int _ => rw [hx] at h1; cases h1
  | str _ => rw [hx] at h1; cases h1
  | scr _ => rw [hx] at h1; cases h1
  | dic _ _ => rw [hx] at h1; cases h1
theorem op1_any : Op1 K (fun v H Q => rAny K [v] H Q) (unV .any) := by
  intro M bp Z fpf Hb H σ ρ v x z fp Q S r e q
  obtain ⟨ns, e1, e2⟩ := Option.map_eq_some_iff.mp (show (x.look.lst?.bind D.bls?).map (fun ns => dv (.bl (ns.any id))) = some z from e)
  subst e2
  obtain ⟨p, h1, h2⟩ := look_bls S r e1
  exact ⟨p, ns, by rw [h1], SqL.of h2, q.dat S (.bl _)⟩
theorem op1_all : Op1 K (fun v H Q => rAll K [v] H Q) (unV .all) := by
  intro M bp Z fpf Hb H σ ρ v x z fp Q S r e q
  obtain ⟨ns, e1, e2⟩ := Option.map_eq_some_iff.mp (show (x.look.lst?.bind D.bls?).map (fun ns => dv (.bl (ns.all id))) = some z from e)
  subst e2
  obtain ⟨p, h1, h2⟩ := look_bls S r e1
  exact ⟨p, ns, by rw [h1], SqL.of h2, q.dat S (.bl _)⟩
theorem maxI_fold : ∀ (xs : List Int) (a : Int), (xs.foldl (fun a b => if a < b then b else a) a = a ∨ xs.foldl (fun a b => if a < b then b else a) a ∈ xs) ∧ a ≤ xs.foldl (fun a b => if a < b then b else a) a ∧ ∀ y ∈ xs, y ≤ xs.foldl (fun a b => if a < b then b else a) a
  | [], a => ⟨.inl rfl, Int.le_refl _, fun _ h => (nomatch h)⟩
  | x :: xs, a => by
    obtain ⟨h1, h2, h3⟩ := maxI_fold xs (if a < x then x else a)
    simp only [List.foldl_cons]
    have hx : x ≤ (if a < x then x else a) ∧ a ≤ (if a < x then x else a) := by split <;> omega
    refine ⟨?_, by omega, fun y hy => ?_⟩
    · rcases h1 with h1 | h1
      · by_cases hc : a < x
        · rw [if_pos hc] at h1 ⊢; exact .inr (by rw [h1]; exact List.mem_cons_self)
        · rw [if_neg hc] at h1 ⊢; exact .inl h1
      · exact .inr (List.mem_cons_of_mem _ h1)
    · rcases List.mem_cons.mp hy with rfl | hy
      · omega
      · exact h3 y hy
theorem maxI_some {ns : List Int} {m : Int} (h : maxI ns = some m) : 0 < ns.length ∧ m ∈ ns ∧ ∀ y ∈ ns, y ≤ m := by
  cases ns with
  | nil => cases h
  | cons x xs =>
    cases h
    obtain ⟨h1, h2, h3⟩ := maxI_fold xs x
    refine ⟨by simp, ?_, fun y hy => ?_⟩
    · rcases h1 with h1 | h1
      · rw [h1]; exact List.mem_cons_self
      · exact List.mem_cons_of_mem _ h1
    · rcases List.mem_cons.mp hy with rfl | hy
      · exact h2
      · exact h3 y hy
theorem max_tup {prog : Program} {w : World} {A : Around} {E : Value → Shared → Prop} {s : Shared} {t : Addr} {xs : Array (Int × Tok)} {Q : Value → Shared → Prop} (hh : A.handled = none) (ht : s.heap.IsTuple t (intItems xs)) (hne : 0 < xs.size)
    (h : ∀ v h' tk, (intItems xs)[argBest (fun i j => decide (numAt xs i > numAt xs j)) (xs.size - 1)]? = some v → (∀ b o, s.heap.get? b = some o → h'.get? b = some o) → Q v { s with heap := h', toks := tk }) : wpAny (model prog w) A (call (.builtin "max") [.ref t]) Q E s := by
  obtain ⟨o, ho, hc, n, hd⟩ := id ht
  have hne2 : t ≠ s.heap.objs.size := Nat.ne_of_lt (Heap.lt_size ho)
  refine call_max_walk (wpAny_pyIter_tuple ht ?_)
  refine ⟨s.heap.objs.size, _, _, _, _, _, _, rfl, Walks.tuple (A := A.in1) hh s.heap.objs.size t hne2 (intItems xs), ⟨⟨_, Heap.get?_push_size _ rfl, rfl, rfl⟩, ht.at fun o e => Heap.get?_push_of_some _ e⟩, fun b hb => ?_, by simpa [intItems] using hne, CmpOf.ints_gt (numAt xs) (fun _ _ => intItems_at), fun v h' tk hP hk => ?_⟩
  · rcases List.mem_cons.mp hb with rfl | hb
    · exact Heap.lt_size (Heap.get?_push_size _ rfl)
    · obtain rfl := List.mem_singleton.mp hb
      exact Heap.lt_size (Heap.get?_push_of_some _ ho)
  · exact h v h' tk (by simpa [intItems] using hP) fun b o e => hk b o (fun hb => absurd (Heap.lt_size e) ((List.mem_singleton.mp hb) ▸ Nat.lt_irrefl _)) (Heap.get?_push_of_some _ e)
def rMaxA (K : PySem.W.Frag) : List V → Hp → VK → Prop := fun vs H Q => rMax K vs H Q ∨ ∃ (a : Addr) (ns : List Int), vs = [V.ref a] ∧ SqT K H a (ns.map V.int) ∧ 0 < ns.length ∧ ∀ m, m ∈ ns → (∀ y, y ∈ ns → y ≤ m) → Q (.int m) H
theorem cr_maxA {X : Cx} (hc : X.calm = true) : CallR X (.builtin "max") (rMaxA X.K) := by
  intro pins s σ H vs us Q I r h
  rcases h with h | h
  · exact cr_max hc pins s σ H vs us Q I r h
  · obtain ⟨a, ns, rfl, hs, hne, q⟩ := h
    obtain ⟨its, rv, p, _⟩ := I.tuple hs
    rw [Vals.ref1 r]
    have hi := rv.ints
    have ht : s.heap.IsTuple a its.toArray := p
    obtain ⟨xs, hx⟩ := hi.allInts.items
    have hn : numsOf its.toArray.toList = ns := by rw [show its.toArray.toList = its from rfl, hi.numsOf]
    rw [hx] at ht hn
    rw [nums_intItems] at hn
    subst hn
    have hsz : 0 < xs.size := by simpa using hne
    refine max_tup (I.ok.hd hc) ht hsz fun v h' tk hv hk => ?_
    obtain ⟨t, rfl⟩ := intItems_at hv
    obtain ⟨h1, h2⟩ := argBest_gt (numAt xs) (xs.size - 1)
    refine ⟨.int _, H, I.kept hk, ⟨_, rfl⟩, q _ ?_ fun y hy => ?_⟩
    · rw [numAt_eq]; exact PySem.getD_mem (by rw [List.length_map, Array.length_toList]; omega)
    · obtain ⟨j, hj, rfl⟩ := mem_getD hy
      rw [List.length_map, Array.length_toList] at hj
      rw [← numAt_eq]; exact h2 j (by omega)
theorem op1_max : Op1 K (fun v H Q => rMaxA K [v] H Q) (unV .max) := by
  intro M bp Z fpf Hb H σ ρ v x z fp Q S r e q
  obtain ⟨ns, e1, e2⟩ := Option.bind_eq_some_iff.mp (show (x.look.lot?.bind D.ints?).bind (fun ns => (maxI ns).map fun m => dv (.int m)) = some z from e)
  obtain ⟨m, e3, e4⟩ := Option.map_eq_some_iff.mp e2
  subst e4
  obtain ⟨g1, g2, g3⟩ := maxI_some e3
  have uni : ∀ k, k ∈ ns → (∀ y, y ∈ ns → y ≤ k) → k = m := fun k hk hk2 => Int.le_antisymm (g3 k hk) (hk2 m g2)
  obtain ⟨ds, h1, h2⟩ := Option.bind_eq_some_iff.mp e1
  cases hx : x.look with
  | lst ds' =>
    rw [hx] at h1; cases h1
    obtain ⟨p, k1, k2⟩ := look_ints S r (ns := ns) (by rw [hx]; exact h2)
    refine .inl ⟨p, ns, by rw [k1], SqL.of k2, g1, fun k hk hk2 => ?_⟩
    rw [uni k hk hk2]
    exact q.dat S (.int _)
  | tup ds' =>
    rw [hx] at h1; cases h1
    have rp := look_dat r hx (fun _ => nofun)
    cases rp with
    | tup k1 k2 =>
      have ro : ROs K Hb H _ (ds.map Ow.d) [] := ROs.ofRpL k2
      have ev := ro.ints (ns := ns) ((toDs_map ds).trans (ints?_some h2))
      subst ev
      refine .inr ⟨_, ns, rfl, same_t S.ex k1, g1, fun k hk hk2 => ?_⟩
      rw [uni k hk hk2]
      exact q.dat S (.int _)
  | non => rw [hx] at h1; cases h1
  | bl _ => rw [hx] at h1; cases h1
  | int _ => rw [hx] at h1; cases h1
  | str _ => rw [hx] at h1; cases h1
  | scr _ => rw [hx] at h1; cases h1
  | dic _ _ => rw [hx] at h1; cases h1
theorem op1_sorted : Op1 K (fun v H Q => rSorted K [v] H Q) (unV .sorted) := by
  intro M bp Z fpf Hb H σ ρ v x z fp Q S r e q
  obtain ⟨ns, e1, e2⟩ := Option.bind_eq_some_iff.mp (show (x.look.lst?.bind D.ints?).bind (fun ns => if ns.length < 64 then some (Vl.ow (.l ((ns.mergeSort (fun a b => decide (a ≤ b))).map fun i => .d (.int i)))) else none) = some z from e)
  split at e2
  · rename_i h64
    cases e2
    obtain ⟨p, h1, h2⟩ := look_ints S r e1
    refine ⟨p, ns, by rw [h1], SqL.of h2, h64, fun ms l hp hs hl => ?_⟩
    have em : ms = ns.mergeSort (fun a b => decide (a ≤ b)) := by
      refine List.Perm.eq_of_pairwise (le := fun a b : Int => a ≤ b) (fun a b _ _ h1 h2 => Int.le_antisymm h1 h2) hs ?_ (hp.trans (List.mergeSort_perm ns _).symm)
      have := List.pairwise_mergeSort (le := fun a b : Int => decide (a ≤ b)) (fun a b c h1 h2 => by simp only [decide_eq_true_eq] at *; omega) (fun a b => by simp only [Bool.or_eq_true, decide_eq_true_eq]; omega) ns
      exact this.imp fun h => of_decide_eq_true h
    rw [← em] at q
    have hr : ROs K Hb H (ms.map V.int) (ms.map fun i => Ow.d (.int i)) [] := by
      have := ROs.ofD (H := H) (RpL.ints (K := K) (H := Hb) (ns := ms))
      rw [List.map_map] at this
      exact this
    exact Giv.newL S q hr (fun _ h => (nomatch h)) (fun _ _ _ h => (nomatch h)) hl
  · cases e2
theorem tupI_sq {ns : List Int} (S : StR K M bp Z fpf Hb H σ ρ) (r : RVl K Z fpf Hb H v x fp) (e : tupI x.look = some ns) : ∃ p, v = .ref p ∧ SqT K H p (ns.map V.int) := by
  cases hx : x.look with
  | tup ds =>
    rw [hx] at e
    have e : D.ints? ds = some ns := e
    have rp := look_dat r hx (fun _ => nofun)
    cases rp with
    | tup k1 k2 =>
      have ro : ROs K Hb H _ (ds.map Ow.d) [] := ROs.ofRpL k2
      have ev := ro.ints (ns := ns) ((toDs_map ds).trans (ints?_some e))
      subst ev
      exact ⟨_, rfl, same_t S.ex k1⟩
  | lst _ => rw [hx] at e; cases e
  | non => rw [hx] at e; cases e
  | bl _ => rw [hx] at e; cases e
  | int _ => rw [hx] at e; cases e
  | str _ => rw [hx] at e; cases e
  | scr _ => rw [hx] at e; cases e
  | dic _ _ => rw [hx] at e; cases e
theorem RpL.toDs {vs : List V} {os : List Ow} {f : List Addr} (h : ROs K Hb H vs os f) (hd : os.all (fun | .d _ => true | _ => false) = true) : RpL K Hb vs (Ow.toDs os) := (ROs.alld h hd).2.1
/-- a whole list in hand frozen: its items -/
theorem own_items {os : List Ow} (S : StR K M bp Z fpf Hb H σ ρ) (r : RVl K Z fpf Hb H v (.ow (.l os)) fp) : ∃ p vs Hb', v = .ref p ∧ H p = some (.lst vs) ∧ Same Hb Hb' ∧ StR K M bp Z fpf Hb' H σ ρ ∧ Hb' p = some (.lst vs) ∧ RpL K Hb' vs (Ow.toDs os) := by
  obtain ⟨Hb', e, S', h⟩ := Giv.frz S r
  have h : Rp K Hb' v (.lst (Ow.toDs os)) := h
  cases h with
  | lst h1 h2 => exact ⟨_, _, Hb', rfl, S'.ex _ _ h1, e, S', h1, h2⟩
theorem bw_items {os : List Ow} (r : RVl K Z fpf Hb H v (.bw (.l os)) fp) : ∃ p vs f, v = .ref p ∧ H p = some (.lst vs) ∧ ROs K Hb H vs os f ∧ ∀ a ∈ f, Z.F a := by
  obtain ⟨f, h, hF, _⟩ := r
  obtain ⟨p, vs, f', h1, h2, h3, h4, _⟩ := h.sub
  exact ⟨p, vs, f', h1, h2, h3, fun a ha => hF a (by rw [h4]; exact List.mem_cons_of_mem _ ha)⟩
theorem op1_tuple : Op1 K (fun v H Q => ∃ p ys, [v] = [.ref p] ∧ ((SqL K H p ys ∧ ∀ l, H l = none → Q (.ref l) (upd H l (.tup ys))) ∨ (SqT K H p ys ∧ Q (.ref p) H))) (unV .tuple) := by
  intro M bp Z fpf Hb H σ ρ v x z fp Q S r e q
  simp only [unV] at e
  split at e
  · cases e
    obtain ⟨h, _⟩ := rp_d r
    cases h with
    | tup h1 h2 => exact ⟨_, _, rfl, .inr ⟨same_t S.ex h1, q.dat S (.tup h1 h2)⟩⟩
  · cases e
    obtain ⟨h, _⟩ := rp_d r
    cases h with
    | lst h1 h2 => exact ⟨_, _, rfl, .inl ⟨SqL.of (S.ex _ _ h1), fun l hl => Giv.newT S q h2 hl⟩⟩
  · cases e
    obtain ⟨p, vs, Hb', e1, e2, e3, S', _, h⟩ := own_items S r
    exact ⟨p, vs, by rw [e1], .inl ⟨SqL.of e2, fun l hl => Giv.newT S' (q.mono e3) h hl⟩⟩
  · split at e
    · rename_i hd
      cases e
      obtain ⟨p, vs, f, e1, e2, e3, _⟩ := bw_items r
      exact ⟨p, vs, by rw [e1], .inl ⟨SqL.of e2, fun l hl => Giv.newT S q (RpL.toDs e3 hd) hl⟩⟩
    · cases e
  · cases e
theorem op1_list : Op1 K (fun v H Q => ∃ p ys, [v] = [.ref p] ∧ (SqL K H p ys ∨ SqT K H p ys) ∧ ∀ l, H l = none → Q (.ref l) (upd H l (.lst ys))) (unV .list) := by
  intro M bp Z fpf Hb H σ ρ v x z fp Q S r e q
  have nf : ∀ a ∈ ([] : List Addr), ¬ (Z.F a ∨ Z.G a) := fun _ h => (nomatch h)
  have nj : ∀ i, Disj (fpf i) [] := fun _ _ _ h => (nomatch h)
  simp only [unV] at e
  split at e
  · cases e
    obtain ⟨h, _⟩ := rp_d r
    cases h with
    | tup h1 h2 => exact ⟨_, _, rfl, .inr (same_t S.ex h1), fun l hl => Giv.newL S q (ROs.ofD h2) nf nj hl⟩
  · cases e
    obtain ⟨h, _⟩ := rp_d r
    cases h with
    | lst h1 h2 => exact ⟨_, _, rfl, .inl (SqL.of (S.ex _ _ h1)), fun l hl => Giv.newL S q (ROs.ofD h2) nf nj hl⟩
  · rename_i os
    cases e
    obtain ⟨p, vs, Hb', e1, e2, e3, S', _, h⟩ := own_items S r
    have eo : (os.map fun o => Ow.d o.toD) = (Ow.toDs os).map Ow.d := by rw [Ow.toDs_eq, List.map_map]; rfl
    rw [eo] at q
    exact ⟨p, vs, by rw [e1], .inl (SqL.of e2), fun l hl => Giv.newL S' (q.mono e3) (ROs.ofD h) nf nj hl⟩
  · split at e
    · rename_i hd
      cases e
      obtain ⟨p, vs, f, e1, e2, e3, _⟩ := bw_items r
      have hh := RpL.toDs e3 hd
      have eo := (ROs.alld e3 hd).2.2
      rw [eo] at q
      exact ⟨p, vs, by rw [e1], .inl (SqL.of e2), fun l hl => Giv.newL S q (ROs.ofD hh) nf nj hl⟩
    · cases e
  · cases e

theorem RpL.rev : ∀ {vs : List V} {ds : List D}, RpL K H vs ds → RpL K H vs.reverse ds.reverse
  | _, _, .nil => .nil
  | _, _, .cons r t => by
    rw [List.reverse_cons, List.reverse_cons]
    exact RpL.app (RpL.rev t) (.cons r .nil)
theorem op1_lrev : Op1 K (fun v H Q => ∃ a xs, v = .ref a ∧ SqL K H a xs ∧ ∀ p, H p = none → Q (.ref p) (upd H p (.lst xs.reverse))) lrevV := by
  intro M bp Z fpf Hb H σ ρ v x z fp Q S r e q
  have nf : ∀ a ∈ ([] : List Addr), ¬ (Z.F a ∨ Z.G a) := fun _ h => (nomatch h)
  have nj : ∀ i, Disj (fpf i) [] := fun _ _ _ h => (nomatch h)
  unfold lrevV at e
  split at e
  · cases e
    obtain ⟨p, vs, Hb', e1, e2, e3, S', _, h⟩ := own_items S r
    exact ⟨p, vs, e1, SqL.of e2, fun l hl => Giv.newL S' (q.mono e3) (ROs.ofD (RpL.rev h)) nf nj hl⟩
  · cases e

/-! ### places, slices -/
theorem atI_get' {α : Type} {xs : List α} {i : Int} {a : α} (h : atI xs i = some a) : ∃ j, ixN xs.length i = some j ∧ xs[j]? = some a := by
  unfold atI at h
  exact Option.bind_eq_some_iff.mp h
theorem atI_of {α β : Type} {xs : List α} {ys : List β} {i : Int} {j : Nat} {b : β} (hl : ys.length = xs.length) (h1 : ixN xs.length i = some j) (h2 : ys[j]? = some b) : atI ys i = some b := by
  unfold atI
  rw [hl, h1]
  exact h2
theorem op2_ix : Op2 K (rIx K) (fun x y => match y with | .ow (.d (.int j)) => ixV x j | _ => none) := by
  intro M bp Z fpf Hb H σ ρ v u x y z fp1 fp2 Q S r1 r2 dj e q
  dsimp only at e
  split at e
  · rename_i i
    have eu := rp_int r2
    subst eu
    unfold ixV at e
    split at e
    · obtain ⟨d, e1, e2⟩ := Option.map_eq_some_iff.mp e
      subst e2
      obtain ⟨j, g1, g2⟩ := atI_get' e1
      obtain ⟨h, _⟩ := rp_d r1
      cases h with
      | tup h1 h2 =>
        obtain ⟨w, hw, hr⟩ := h2.get g2
        exact .inr (.inl ⟨_, _, i, w, rfl, rfl, same_t S.ex h1, atI_of h2.length g1 hw, q.dat S hr⟩)
    · obtain ⟨d, e1, e2⟩ := Option.map_eq_some_iff.mp e
      subst e2
      obtain ⟨j, g1, g2⟩ := atI_get' e1
      obtain ⟨h, _⟩ := rp_d r1
      cases h with
      | lst h1 h2 =>
        obtain ⟨w, hw, hr⟩ := h2.get g2
        exact .inl ⟨_, _, i, w, rfl, rfl, SqL.of (S.ex _ _ h1), atI_of h2.length g1 hw, q.dat S hr⟩
    · obtain ⟨d, e1, e2⟩ := Option.map_eq_some_iff.mp e
      subst e2
      obtain ⟨j, g1, g2⟩ := atI_get' e1
      obtain ⟨h, _⟩ := rp_d r1
      cases h with
      | scr h1 => exact .inl ⟨_, _, i, .int d, rfl, rfl, S.ex.seq h1, atI_of (by rw [List.length_map]) g1 (by rw [List.getElem?_map, g2]; rfl), q.dat S (.int _)⟩
    · obtain ⟨o, e1, e2⟩ := Option.map_eq_some_iff.mp e
      subst e2
      obtain ⟨j, g1, g2⟩ := atI_get' e1
      obtain ⟨p, vs, f, h1, h2, h3, h4, _⟩ := r1.1.sub
      obtain ⟨w, f', hw, hr, hsub⟩ := h3.get g2
      have sub : ∀ a ∈ f', a ∈ fp1 := fun a ha => by rw [h4]; exact List.mem_cons_of_mem _ (hsub a ha)
      exact .inl ⟨p, vs, i, w, h1, rfl, SqL.of h2, atI_of h3.length g1 hw, q w Hb H f' (fun _ _ e => e) S ⟨hr, fun a ha => r1.2.1 a (sub a ha), fun k a hk ha => r1.2.2 k a hk (sub a ha)⟩⟩
    · obtain ⟨o, e1, e2⟩ := Option.map_eq_some_iff.mp e
      subst e2
      obtain ⟨j, g1, g2⟩ := atI_get' e1
      obtain ⟨p, vs, f, h1, h2, h3, h4⟩ := bw_items r1
      obtain ⟨w, f', hw, hr, hsub⟩ := h3.get g2
      refine .inl ⟨p, vs, i, w, h1, rfl, SqL.of h2, atI_of h3.length g1 hw, q w Hb H [] (fun _ _ e => e) S ?_⟩
      cases o with
      | d d => cases hr with | d hr => exact .d hr
      | l os => exact ⟨f', hr, fun a ha => h4 a (hsub a ha), rfl⟩
      | m _ _ => exact ⟨f', hr, fun a ha => h4 a (hsub a ha), rfl⟩
    · split at e
      · rename_i z hz
        obtain ⟨c, e1, e2⟩ := Option.map_eq_some_iff.mp e
        subst e2
        exact .inr (.inr ⟨_, i, c, look_str r1 rfl, rfl, Nat.le_of_lt (small_lt hz), e1, q.dat S (.str _)⟩)
      · cases e
    · cases e
  · cases e
theorem cutD_map {α β : Type} (f : α → β) (xs : List α) (lo hi : Option Int) : cutD (xs.map f) lo hi = (cutD xs lo hi).map f := by
  unfold cutD
  rw [List.length_map, List.map_take, List.map_drop]
theorem RpL.cut {vs : List V} {ds : List D} (h : RpL K Hb vs ds) (lo hi : Option Int) : RpL K Hb (cutV vs lo hi) (cutD ds lo hi) := by
  unfold cutV cutD
  rw [h.length]
  exact (h.drop _).take _
theorem cut_whole {α : Type} (xs : List α) (lo hi : Option Int) (h : HT.sIx xs.length 0 lo = 0 ∧ HT.sIx xs.length xs.length hi = xs.length) : cutD xs lo hi = xs := by
  unfold cutD
  rw [h.1, h.2, List.drop_zero, Nat.sub_zero, List.take_length]
def rSlB (K : PySem.W.Frag) : V → Option Int → Option Int → Hp → VK → Prop := fun x lo hi H Q => rSlA K x lo hi H Q ∨ rSlL K x lo hi H Q ∨ rSlS x lo hi H Q
theorem sl_B {X : Cx} : SlR X (rSlB X.K) := sl_tupA.or (sl_list.or sl_str)
theorem op_sl {lo hi : Option Int} : Op1 K (fun v H Q => rSlB K v lo hi H Q) (fun x => slV x lo hi) := by
  intro M bp Z fpf Hb H σ ρ v x z fp Q S r e q
  dsimp only at e
  unfold slV at e
  split at e
  · cases e
    obtain ⟨h, _⟩ := rp_d r
    cases h with
    | tup h1 h2 =>
      refine .inl ⟨_, _, rfl, same_t S.ex h1, fun hw => ?_, fun _ l hl => Giv.newT S q (h2.cut lo hi) hl⟩
      rw [h2.length] at hw
      rw [cut_whole _ lo hi hw] at q
      exact q.dat S (.tup h1 h2)
  · cases e
    obtain ⟨h, _⟩ := rp_d r
    cases h with
    | lst h1 h2 => exact .inr (.inl ⟨_, _, rfl, SqL.of (S.ex _ _ h1), fun l hl => Giv.newL S q (ROs.ofD (h2.cut lo hi)) (fun _ h => (nomatch h)) (fun _ _ _ h => (nomatch h)) hl⟩)
  · cases e
    obtain ⟨p, vs, Hb', rfl, hp, e', S', _, h2⟩ := own_items S r
    exact .inr (.inl ⟨p, vs, rfl, SqL.of hp, fun l hl => Giv.newL S' (Giv.mono q e') (ROs.ofD (h2.cut lo hi)) (fun _ h => (nomatch h)) (fun _ _ _ h => (nomatch h)) hl⟩)
  · split at e
    · rename_i z hz
      cases e
      exact .inr (.inr ⟨_, look_str r rfl, Nat.le_of_lt (small_lt hz), q.dat S (.str _)⟩)
    · cases e
  · cases e
end
end WM

/-! texts cut and joined -/
namespace WM
open PySem PySem.Spec PyProof.Rows L2
section
variable {K : PySem.W.Frag}
theorem strs_own {H Hb : Hp} (ys : List Str) : ROs K Hb H (ys.map V.str) (ys.map fun p => Ow.d (.str p)) [] := by
  have h : ∀ ys : List Str, RpL K Hb (ys.map V.str) (ys.map D.str) := fun ys => by
    induction ys with
    | nil => exact .nil
    | cons y ys ih => exact .cons (.str y) ih
  have := ROs.ofD (H := H) (h ys)
  rw [List.map_map] at this
  exact this
theorem op2_split : Op2 K (fun x y H Q => ∃ a b, x = .str a ∧ [y] = [.str b] ∧ (b.length == 0) = false ∧ a.length + 2 ≤ sizeLine ∧ rNewStrs (Txt.split a b) H Q) splitV := by
  intro M bp Z fpf Hb H σ ρ v u x y z fp1 fp2 Q S r1 r2 dj e q
  unfold splitV at e
  split at e
  · split at e
    · rename_i hc
      rw [Bool.and_eq_true] at hc
      cases e
      refine ⟨_, _, look_str r1 rfl, by rw [look_str r2 rfl], by simpa using hc.1, ?_, fun p hp => ?_⟩
      · have := of_decide_eq_true hc.2
        exact Nat.le_trans (Nat.add_le_add_right this 2) (by decide)
      · exact Giv.newL S q (strs_own _) (fun _ h => (nomatch h)) (fun _ _ _ h => (nomatch h)) hp
    · cases e
  · cases e
theorem strs?_some : ∀ {ds : List D} {ys : List Str}, D.strs? ds = some ys → ds = ys.map D.str
  | [], _, h => by cases h; rfl
  | d :: ds, ys, h => by
    cases d with
    | str a =>
      obtain ⟨r, h1, h2⟩ := Option.map_eq_some_iff.mp (show (D.strs? ds).map (a :: ·) = some ys from h)
      subst h2
      rw [strs?_some h1]; rfl
    | _ => cases h
theorem toD_str {o : Ow} {a : Str} (h : o.toD = .str a) : o = .d (.str a) := by cases o with | d d => simpa [Ow.toD] using h | l os => cases h | m _ _ => cases h
theorem ROs.strs {Hb H : Hp} : ∀ {os : List Ow} {vs : List V} {f : List Addr} {ys : List Str}, ROs K Hb H vs os f → Ow.toDs os = ys.map D.str → vs = ys.map V.str
  | [], _, _, ys, h, e => by cases h; cases ys with | nil => rfl | cons => cases e
  | o :: os, _, _, ys, h, e => by
    cases ys with
    | nil => cases e
    | cons y ys =>
      have e1 : o.toD = .str y := (List.cons.inj e).1
      have e2 : Ow.toDs os = ys.map D.str := (List.cons.inj e).2
      have := toD_str e1
      subst this
      cases h with
      | cons h1 h2 h3 =>
        cases h1 with
        | d h1 =>
          cases h1
          rw [ROs.strs h2 e2]; rfl
theorem op2_join : Op2 K (fun x y H Q => ∃ a p, ∃ ys : List Str, x = .str a ∧ [y] = [.ref p] ∧ (SqL K H p (ys.map V.str) ∨ SqT K H p (ys.map V.str)) ∧
    (ys.map (·.length)).sum + ys.length * a.length ≤ 16777216 ∧ Q (.str (Txt.join a ys)) H) joinV := by
  intro M bp Z fpf Hb H σ ρ v u x y z fp1 fp2 Q S r1 r2 dj e q
  unfold joinV at e
  split at e
  · obtain ⟨ys, e1, e2⟩ := Option.bind_eq_some_iff.mp e
    split at e2
    · rename_i hc
      cases e2
      obtain ⟨ds, h1, h2⟩ := Option.bind_eq_some_iff.mp e1
      have hc := of_decide_eq_true hc
      cases hy : y.look with
      | lst ds' =>
        rw [hy] at h1; cases h1
        obtain ⟨p, vs, os, f, g1, g2, g3, g4⟩ := look_lst S r2 hy
        rw [g3.strs (g4.trans (strs?_some h2))] at g2
        exact ⟨_, p, ys, look_str r1 rfl, by rw [g1], .inl (SqL.of g2), hc, q.dat S (.str _)⟩
      | tup ds' =>
        rw [hy] at h1; cases h1
        have rp := look_dat r2 hy (fun _ => nofun)
        cases rp with
        | tup g1 g2 =>
          have ro : ROs K Hb H _ (ds.map Ow.d) [] := ROs.ofRpL g2
          have ev := ro.strs (ys := ys) ((toDs_map ds).trans (strs?_some h2))
          subst ev
          exact ⟨_, _, ys, look_str r1 rfl, rfl, .inr (same_t S.ex g1), hc, q.dat S (.str _)⟩
      | non => rw [hy] at h1; cases h1
      | bl _ => rw [hy] at h1; cases h1
      | int _ => rw [hy] at h1; cases h1
      | str _ => rw [hy] at h1; cases h1
      | scr _ => rw [hy] at h1; cases h1
      | dic _ _ => rw [hy] at h1; cases h1
    · cases e2
  · cases e
end
end WM

/-! WM: a tuple, told several times. -/
namespace WM
open PySem PySem.Spec PyProof.Rows L2
theorem tuple_mul1 (l : Addr) (items : Array Value) (n : Nat) (dd : Option Addr) (sl : Array (Option Value)) (u : Tok) :
    Meets (Builtin.«tuple.__mul__» ⟨[.ref l, .int 1 u], []⟩) (fun _ R s => s.heap.get? l = some { cls := .type "tuple", dict := dd, data := .seq items n, slots := sl } ∧
      R (.ok (.ret (Value.ref l))) s) :=
  .of_wp fun prog w A R s h => by
    obtain ⟨hp, g, d, tk, os⟩ := s
    obtain ⟨hl, h⟩ := h
    have f1 := AutoSeq1.idx_int
    wp_walk using wpAny_loadPart' hl
    exact ⟨_, rfl, h⟩
def rRep1 (K : PySem.W.Frag) : R2 := fun x y H Q => ∃ l xs, x = .ref l ∧ y = .int 1 ∧ SqT K H l xs ∧ Q (.ref l) H
theorem op_rep1 {X : Cx} : OpR X (binaryOp .Mult) (rRep1 X.K) := by
  intro pins s σ H x y v u Q I rx ry h
  obtain ⟨l, xs, rfl, rfl, hT, q⟩ := h
  cases rx
  obtain ⟨t, rfl⟩ := ry
  obtain ⟨its, r, ⟨⟨cls, dd, data, sl⟩, ho, hc, n, hd⟩, hs⟩ := I.tuple hT
  simp only at hc hd
  subst hc hd
  refine wpAny_binaryOp_repeat_ref (T := "tuple") (U := "int") (by decide) ⟨_, ho, rfl⟩ (fun s' => typeIs_int s' 1 t) noFill_tuple_mul F.fills_int_mul F.slot_int_rmul repeat_tuple F.slot_int_index.lookup
    (call_meets F.slot_int_rmul (typeIs_int s 1 t) F.entry_int_rmul (F.args_int_rmul_2 _ _) (int_rmul_tuple 1 t l its.toArray n dd sl)
      ⟨ho, rfl, ⟨_, ho, rfl⟩, call_meets F.slot_tuple_mul ⟨_, ho, rfl⟩ F.entry_tuple_mul (F.args_tuple_mul_2 _ _) (tuple_mul1 l its.toArray n dd sl t) ⟨ho, ?_⟩⟩)
  exact ⟨.ref l, H, I, rfl, q⟩
theorem tuple_mul0 (l : Addr) (items : Array Value) (n : Nat) (dd : Option Addr) (sl : Array (Option Value)) (u : Tok) (hi : items.isEmpty = false) :
    Meets (Builtin.«tuple.__mul__» ⟨[.ref l, .int 0 u], []⟩) (fun _ R s => s.heap.get? l = some { cls := .type "tuple", dict := dd, data := .seq items n, slots := sl } ∧
      R (.ok (.ret (Value.ref s.heap.objs.size))) { s with heap := s.heap.push { cls := Value.type "tuple", data := Data.seq #[] }, toks := s.toks }) :=
  .of_wp fun prog w A R s h => by
    obtain ⟨hp, g, d, tk, os⟩ := s
    obtain ⟨hl, h⟩ := h
    have f1 := AutoSeq1.idx_int
    have c1 : (items.isEmpty || (0 : Int) == 1) = false := by rw [hi]; rfl
    wp_walk using wpAny_loadPart' hl
    repeat (first
      | (refine wpAny_ite_false (decide_eq_false (by rw [c1]; exact Bool.false_ne_true)) ?_; wp_walk using wpAny_loadPart' hl))
    exact ⟨_, rfl, h⟩
def rRep0 (K : PySem.W.Frag) : R2 := fun x y H Q => ∃ l xs, x = .ref l ∧ y = .int 0 ∧ SqT K H l xs ∧ xs ≠ [] ∧ ∀ p, H p = none → Q (.ref p) (upd H p (.tup []))
theorem op_rep0 {X : Cx} : OpR X (binaryOp .Mult) (rRep0 X.K) := by
  intro pins s σ H x y v u Q I rx ry h
  obtain ⟨l, xs, rfl, rfl, hT, hne, q⟩ := h
  cases rx
  obtain ⟨t, rfl⟩ := ry
  obtain ⟨its, r, ⟨⟨cls, dd, data, sl⟩, ho, hc, n, hd⟩, hs⟩ := I.tuple hT
  simp only at hc hd
  subst hc hd
  have hle : its.length = xs.length := r.length.symm
  have hn : its ≠ [] := fun e => hne (by
    rw [e] at hle
    exact List.eq_nil_of_length_eq_zero hle.symm)
  have hi : its.toArray.isEmpty = false := by
    cases its with
    | nil => exact absurd rfl hn
    | cons a b => rfl
  refine wpAny_binaryOp_repeat_ref (T := "tuple") (U := "int") (by decide) ⟨_, ho, rfl⟩ (fun s' => typeIs_int s' 0 t) noFill_tuple_mul F.fills_int_mul F.slot_int_rmul repeat_tuple F.slot_int_index.lookup
    (call_meets F.slot_int_rmul (typeIs_int s 0 t) F.entry_int_rmul (F.args_int_rmul_2 _ _) (int_rmul_tuple 0 t l its.toArray n dd sl)
      ⟨ho, rfl, ⟨_, ho, rfl⟩, call_meets F.slot_tuple_mul ⟨_, ho, rfl⟩ F.entry_tuple_mul (F.args_tuple_mul_2 _ _) (tuple_mul0 l its.toArray n dd sl t hi) ⟨ho, ?_⟩⟩)
  refine ⟨.ref s.heap.objs.size, _, I.laid (t' := s.toks) (o := .tup []) (fun b ob q => Heap.get?_push_of_some _ q) (Nat.le_refl _) ?_, rfl, q _ (I.hok.fresh (Nat.le_refl _))⟩
  exact ⟨Nat.zero_le _, _, .nil, IsTup.new _ _⟩
def rRepTA (K : PySem.W.Frag) : R2 := fun x y H Q => rRepT K x y H Q ∨ rRep1 K x y H Q ∨ rRep0 K x y H Q
theorem op_repTA {X : Cx} : OpR X (binaryOp .Mult) (rRepTA X.K) := fun pins s σ H x y v u Q I r1 r2 h => h.elim (fun h => op_repT pins s σ H x y v u Q I r1 r2 h) fun h => h.elim (fun h => op_rep1 pins s σ H x y v u Q I r1 r2 h) fun h => op_rep0 pins s σ H x y v u Q I r1 r2 h
theorem op2_trep {K : PySem.W.Frag} : Op2 K (rRepTA K) (binV .trep) := by
  intro M bp Z fpf Hb H σ ρ v u x y z fp1 fp2 Q S r1 r2 dj h g
  unfold binV at h
  dsimp only at h
  split at h
  · rename_i a k
    split at h
    · rename_i hc
      cases h
      simp only [Bool.and_eq_true, decide_eq_true_eq, Bool.not_eq_true'] at hc
      obtain ⟨⟨⟨c1, c2⟩, c3⟩, c4⟩ := hc
      have := rp_int r2
      subst this
      obtain ⟨h1, _⟩ := rp_d r1
      cases h1 with
      | tup h1 h2 =>
        rename_i vs l
        by_cases hk : k = 1
        · subst hk
          refine .inr (.inl ⟨_, _, rfl, rfl, same_t S.ex h1, ?_⟩)
          have e : (List.replicate (1 : Int).toNat a).flatten = a := by simp
          rw [e] at g
          exact g.dat S (.tup h1 h2)
        by_cases hk0 : k = 0
        · subst hk0
          refine .inr (.inr ⟨_, _, rfl, rfl, same_t S.ex h1, fun e => ?_, fun p hp => ?_⟩)
          · have := h2.length
            rw [e] at this
            cases a with
            | nil => cases c1
            | cons _ _ => simp at this
          · exact Giv.newT S g .nil hp
        · refine .inl ⟨_, k, _, rfl, rfl, same_t S.ex h1, ?_, by omega, c3, by rw [h2.length]; exact c4, fun p hp => ?_⟩
          · intro e
            have := h2.length
            rw [e] at this
            cases a with
            | nil => cases c1
            | cons _ _ => simp at this
          · exact Giv.newT S g (rep_d h2 _) hp
    · cases h
  · cases h
end WM

/-! WM: which syntax an IE stands for. -/
namespace WM
open PySem PySem.Spec PyProof.Rows L2
structure Nm where
  fn : Nat → Str
  ar : Nat → Option Nat
  gl : Nat → Str
  en : Nat → Option Str
  kn : Bool
def dbg (x : Str) : Bool := (x == ("__debug__" : Str)) || (x == ("__classdict__" : Str)) || (x == ("__name__" : Str))
def isLoc (N : List Str) (sc : Scope) (i : Nat) (x : Str) : Bool :=
  decide (N[i]? = some x) && !dbg x && (match sc.names.lookup x with | some .local => true | some .cell => true | some .free => true | _ => false)
def isGl (sc : Scope) (x : Str) : Bool := !dbg x && decide (sc.names.lookup x = some .globalImplicit)
def notStar : Expr → Bool
  | .Starred .. => false
  | _ => true
def plainIx : Expr → Bool
  | .Slice .. => false
  | _ => true
def BO.bop : BO → Option Operator
  | .add => some .Add | .sub => some .Sub | .mul => some .Mult | .mod => some .Mod | .fdiv => some .FloorDiv
  | .pow => some .Pow | .shl => some .LShift | .shr => some .RShift | .band => some .BitAnd
  | .cat => some .Add | .rep => some .Mult | .tcat => some .Add | .trep => some .Mult | .scat => some .Add | .srep => some .Mult | _ => none
def BO.cop : BO → Option CmpOp
  | .lt => some .Lt | .le => some .LtE | .gt => some .Gt | .ge => some .GtE | .eq => some .Eq | .ne => some .NotEq
  | .isIn => some .In | .notIn => some .NotIn | .isB => some .Is | .ntB => some .IsNot | _ => none
def BO.ord : BO → Bool
  | .lt => true | .le => true | .gt => true | .ge => true | _ => false
/-- a call of a built-in function of one argument -/
def UO.nm : UO → Option Str
  | .len => some "len" | .abs => some "abs" | .tuple => some "tuple" | .list => some "list" | .sum => some "sum"
  | .any => some "any" | .all => some "all" | .int => some "int" | .max => some "max" | .sorted => some "sorted" | .str => some "str" | _ => none
def Ty.nm : Ty → Str
  | .int => "int" | .bool => "bool" | .tuple => "tuple" | .list => "list" | .str => "str"
def okC (x : D) (k : Const) : Bool :=
  match x, k with
  | .int i, .int j => decide (i = j)
  | .bl a, .bool b => decide (a = b)
  | .non, .none => true
  | .str s, .str t => decide (s = t)
  | _, _ => false
/-- a name that is stored in a block whose scope is sc; own: is it a cell of its own -/
def isSet (N : List Str) (sc own : Scope) (i : Nat) (x : Str) : Bool :=
  decide (N[i]? = some x) && (decide (sc.names.lookup x = some .local) || (decide (sc.names.lookup x = some .cell) && decide (own.names.lookup x = some .cell)))
def okNs (N : List Str) (sc own : Scope) : List Nat → List Expr → Bool
  | [], [] => true
  | i :: is, .Name x _ :: es => isSet N sc own i x && okNs N sc own is es
  | _, _ => false
def okTg (N : List Str) (sc own : Scope) : Tg → Expr → Bool
  | .n i, .Name x _ => isSet N sc own i x
  | .t is, .Tuple es _ _ => okNs N sc own is es
  | _, _ => false
def tgOwn : Expr → List Nat → List (Str × Nat)
  | .Name x _, [i] => [(x, i)]
  | .Tuple es _ _, is => (es.zip is).map fun p => ((match p.1 with | .Name x _ => x | _ => ("" : Str)), p.2)
  | _, _ => []
def isIntC (c : Int) : Expr → Bool
  | .Constant (.int k) _ _ => decide (c = k)
  | _ => false
theorem isIntC_ok {c : Int} {e : Expr} (h : isIntC c e = true) : ∃ kd cp, e = .Constant (.int c) kd cp := by
  unfold isIntC at h
  split at h
  · rename_i k kd cp
    have := of_decide_eq_true h
    subst this
    exact ⟨_, _, rfl⟩
  · cases h
/-- a name or a constant -/
def nmC : Expr → Bool
  | .Name .. => true
  | .Constant .. => true
  | _ => false
/-- o.m(r) -/
def vM1 : Expr → Option (Expr × Str × Pos × Expr × Pos)
  | .Call f args kws cpos => (match f, args, kws with
    | .Attribute o m apos, [r], [] => if nmC o && (apos.endLine == cpos.line) then some (o, m, apos, r, cpos) else none
    | _, _, _ => none)
  | _ => none
theorem vM1_some {e o r : Expr} {m : Str} {apos cpos : Pos} (h : vM1 e = some (o, m, apos, r, cpos)) : e = .Call (.Attribute o m apos) [r] [] cpos ∧ nmC o = true ∧ (apos.endLine == cpos.line) = true := by
  unfold vM1 at h
  split at h
  · split at h
    · split at h
      · rename_i hc
        rw [Bool.and_eq_true] at hc
        cases h
        exact ⟨rfl, hc.1, hc.2⟩
      · cases h
    · cases h
  · cases h
/-- o[::-1] -/
def vRev : Expr → Option (Expr × Nat × Pos × Pos × Pos × Pos)
  | .Subscript l s pos => (match s with
    | .Slice lo hi st p3 => (match lo, hi, st with
      | none, none, some (.UnaryOp .USub (.Constant (.int i) k p1) p2) => if i = 1 then some (l, k, p1, p2, p3, pos) else none
      | _, _, _ => none)
    | _ => none)
  | _ => none
theorem vRev_some {e l : Expr} {k : Nat} {p1 p2 p3 pos : Pos} (h : vRev e = some (l, k, p1, p2, p3, pos)) : e = .Subscript l (.Slice none none (some (.UnaryOp .USub (.Constant (.int 1) k p1) p2)) p3) pos := by
  unfold vRev at h
  split at h
  · split at h
    · split at h
      · split at h
        · rename_i hi
          cases h
          rw [hi]
        · cases h
      · cases h
    · cases h
  · cases h
section
variable (nm : Nm) (N : List Str)
mutual
def okE : IE → Scope → Expr → Bool
  | .c x, _, .Constant k _ _ => okC x k
  | .v i, sc, .Name x _ => isLoc N sc i x
  | .mv i, sc, .Name x _ => isLoc N sc i x
  | .g k, sc, .Name x _ => decide (x = nm.gl k) && isGl sc x
  | .bin o a b, sc, .BinOp l op r _ => decide (o.bop = some op) && okE a sc l && okE b sc r
  | .bin o a b, sc, .Compare l [op] [r] _ => decide (o.cop = some op) && okE a sc l && okE b sc r && !behindInMarks op r
  | .dget a b, sc, .Subscript l r _ => okE a sc l && okE b sc r && plainIx r
  | .frz a, sc, .List xs p => okE a sc (.List xs p)
  | .frz a, sc, .BinOp l op r p => okE a sc (.BinOp l op r p)
  | .dnew, _, .Dict [] [] _ => true
  | .un .isN a, sc, .Compare l [.Is] [.Constant .none _ _] _ => okE a sc l
  | .un .notN a, sc, .Compare l [.IsNot] [.Constant .none _ _] _ => okE a sc l
  | .un .neg a, sc, .UnaryOp .USub e _ => okE a sc e
  | .un .not a, sc, .UnaryOp .Not e _ => okE a sc e
  | .un o a, sc, .Call (.Name x _) [e] [] _ => decide (o.nm = some x) && isGl sc x && okE a sc e
  | .and a b, sc, .BoolOp .And [l, r] _ => okE a sc l && okE b sc r
  | .and a b, sc, .BoolOp .And (l :: r :: r2 :: rest) p => okE a sc l && okE b sc (.BoolOp .And (r :: r2 :: rest) p)
  | .or a b, sc, .BoolOp .Or [l, r] _ => okE a sc l && okE b sc r
  | .or a b, sc, .BoolOp .Or (l :: r :: r2 :: rest) p => okE a sc l && okE b sc (.BoolOp .Or (r :: r2 :: rest) p)
  | .tup es, sc, .Tuple xs _ _ => okEs es sc xs
  | .lst es, sc, .List xs _ => okEs es sc xs
  | .call f as, sc, .Call (.Name x _) (e :: es) [] _ => decide (x = nm.fn f) && isGl sc x && decide (nm.ar f = some (es.length + 1)) && okAs as sc (e :: es)
  | .call f .nil, sc, .Call (.Name x _) [] [] _ => decide (x = nm.fn f) && isGl sc x && decide (nm.ar f = some 0)
  | .max2 a b, sc, .Call (.Name x _) [l, r] [] _ => decide (x = "max") && isGl sc x && okE a sc l && okE b sc r
  | .min2 a b, sc, .Call (.Name x _) [l, r] [] _ => decide (x = "min") && isGl sc x && okE a sc l && okE b sc r
  | .isa t a, sc, .Call (.Name x _) [e, .Name y _] [] _ => decide (x = "isinstance") && isGl sc x && okE a sc e && decide (y = t.nm) && isGl sc y
  | .ix a i, sc, .Subscript l r _ => okE a sc l && okE i sc r && plainIx r
  | .sl a lo hi, sc, .Subscript l (.Slice lo' hi' none _) _ => okE a sc l && okO lo sc lo' && okO hi sc hi'
  | .lc t it hc c e, sc, .ListComp elt [⟨tg, iter, ifs, n⟩] scope _ =>
    decide (n = 0) && okI it sc iter tg && blkC N sc scope (tgOwn tg t.slots) && okTg N (relS scope sc) scope t tg && decide ((tgOwn tg t.slots).map (·.2) = t.slots) && decide (t.slots.Nodup) &&
      (match ifs with
        | [] => !hc
        | [q] => hc && okE c (relS scope sc) q
        | _ => false) && okE e (relS scope sc) elt
  | .chain o1 o2 a b c, sc, .Compare l [p1, p2] [m, r] _ => decide (o1.cop = some p1) && decide (o2.cop = some p2) && o1.ord && o2.ord && okE a sc l && okE b sc m && okE c sc r && !lastMarks [p1, p2] [m, r]
  | .lrng a, sc, .Call (.Name x _) [.Call (.Name y _) [e] [] _] [] _ => decide (x = "list") && isGl sc x && decide (y = "range") && isGl sc y && okE a sc e
  | .sset a, sc, .Call (.Name x _) [.Call (.Name y _) [e] [] _] [] _ => decide (x = "sorted") && isGl sc x && decide (y = "set") && isGl sc y && okE a sc e
  | .split a b, sc, e => (match vM1 e with
    | some (o, m, _, r, _) => decide (m = "split") && okE a sc o && okE b sc r
    | none => false)
  | .join a b, sc, e => (match vM1 e with
    | some (o, m, _, r, _) => decide (m = "join") && okE a sc o && okE b sc r
    | none => false)
  | .srev a, sc, e => (match vRev e with
    | some (l, _) => okE a sc l
    | none => false)
  | .lrev a, sc, e => (match vRev e with
    | some (l, _) => okE a sc l
    | none => false)
  | _, _, _ => false
def okEs : IEs → Scope → List Expr → Bool
  | .nil, _, [] => true
  | .cons e es, sc, x :: xs => okE e sc x && okEs es sc xs
  | _, _, _ => false
def okAs : IAs → Scope → List Expr → Bool
  | .nil, _, [] => true
  | .val e as, sc, x :: xs => okE e sc x && okAs as sc xs
  | .ref i as, sc, .Name x _ :: xs => isLoc N sc i x && okAs as sc xs
  | _, _, _ => false
def okO : IO → Scope → Option Expr → Bool
  | .no, _, none => true
  | .so e, sc, some x => okE e sc x
  | _, _, _ => false
def okI : IT → Scope → Expr → Expr → Bool
  | .e a, sc, e, _ => okE a sc e && (match e with | .Set .. => false | _ => true)
  | .rng1 a, sc, .Call (.Name x _) [e] [] _, _ => decide (x = "range") && isGl sc x && okE a sc e
  | .rng2 a b, sc, .Call (.Name x _) [e, f] [] _, _ => decide (x = "range") && isGl sc x && okE a sc e && okE b sc f
  | .enum a, sc, .Call (.Name x _) [e] [] _, .Tuple .. => decide (x = "enumerate") && isGl sc x && okE a sc e
  | .zip a b, sc, .Call (.Name x _) [e, f] [] _, .Tuple .. => decide (x = "zip") && isGl sc x && okE a sc e && okE b sc f
  | .rng3 a b c, sc, .Call (.Name x _) es [] _, _ => decide (x = "range") && isGl sc x && (match es with
    | [e, f, g] => okE a sc e && okE b sc f && isIntC c g
    | _ => false)
  | .s a, sc, e, _ => okE a sc e && (match e with | .Set .. => false | _ => true)
  | _, _, _, _ => false
end
end
theorem okE_ns {nm : Nm} {N : List Str} {ie : IE} {sc : Scope} {e : Expr} (h : okE nm N ie sc e = true) : notStar e = true := by
  cases e with
  | Starred v p => cases ie <;> simp [okE, vM1, vRev] at h
  | _ => rfl
theorem star_ok {e : Expr} (es : List Expr) (env : PySem.Env) (h : notStar e = true) : starEach (e :: es) env = (false, eval e env) :: starEach es env := by
  cases e <;> first | (cases h; done) | rfl
theorem okEs_star {nm : Nm} {N : List Str} {pos : Pos} {env : PySem.Env} : ∀ {ies : IEs} {sc : Scope} {es : List Expr}, okEs nm N ies sc es = true → (backTo pos (starEach es env)).any (·.1) = false
  | .nil, _, [], _ => rfl
  | .cons e es, sc, x :: xs, h => by
    have h : (okE nm N e sc x && okEs nm N es sc xs) = true := by simpa [okEs] using h
    rw [Bool.and_eq_true] at h
    rw [star_ok xs env (okE_ns h.1)]
    show ((false, _) :: backTo pos (starEach xs env)).any (·.1) = false
    rw [List.any_cons, okEs_star h.2]; rfl
  | .nil, _, _ :: _, h => by simp [okEs] at h
  | .cons _ _, _, [], h => by simp [okEs] at h
theorem okAs_star {nm : Nm} {N : List Str} {pos : Pos} {env : PySem.Env} : ∀ {ies : IAs} {sc : Scope} {es : List Expr}, okAs nm N ies sc es = true → (backTo pos (starEach es env)).any (·.1) = false
  | .nil, _, [], _ => rfl
  | .val e es, sc, x :: xs, h => by
    have h : (okE nm N e sc x && okAs nm N es sc xs) = true := by simpa [okAs] using h
    rw [Bool.and_eq_true] at h
    rw [star_ok xs env (okE_ns h.1)]
    show ((false, _) :: backTo pos (starEach xs env)).any (·.1) = false
    rw [List.any_cons, okAs_star h.2]; rfl
  | .ref i es, sc, x :: xs, h => by
    cases x with
    | Name y p =>
      have h : (isLoc N sc i y && okAs nm N es sc xs) = true := by simpa [okAs] using h
      rw [Bool.and_eq_true] at h
      rw [star_ok xs env rfl]
      show ((false, _) :: backTo pos (starEach xs env)).any (·.1) = false
      rw [List.any_cons, okAs_star h.2]; rfl
    | _ => simp [okAs] at h
  | .nil, _, _ :: _, h => by simp [okAs] at h
  | .val _ _, _, [], h => by simp [okAs] at h
  | .ref _ _, _, [], h => by simp [okAs] at h
end WM

/-! WM: readings of the evaluator; what a def promises; the context. -/
namespace WM
open PySem PySem.Spec PyProof.Rows L2

/-! ### readings -/
section
variable (K : PySem.W.Frag) (M : Nat → Bool) (bp : List (Nat × Addr)) (W : WX) (cls : Nat → Value)
def Pst {α : Type} (Z : Fz) (Hb : Hp) (σ : L2.St) (r : R α) (k : α → (Nat → List Addr) → Hp → Hp → Prop) : Prop :=
  match r with
  | .ok a ρ' => ∀ Hb' H' fpf', Same Hb Hb' → StR K M bp Z fpf' Hb' H' σ ρ' → k a fpf' Hb' H'
  | .exc c ρ' => ∀ Hb' H' fpf', Same Hb Hb' → StR K M bp Z fpf' Hb' H' σ ρ' → W (cls c) none σ H'
  | .bad => False
def tE (f : Env → R Vl) : TE := fun σ H Q => ∃ Z fpf Hb ρ, StR K M bp Z fpf Hb H σ ρ ∧ Pst K M bp W cls Z Hb σ (f ρ) fun x fpf' Hb' H' => ∀ v fp, RVl K Z fpf' Hb' H' v x fp → Q v H'
/-- values in hand, one behind another -/
inductive RVls (Z : Fz) (fpf : Nat → List Addr) (Hb H : Hp) : List V → List Vl → List Addr → Prop
  | nil : RVls Z fpf Hb H [] [] []
  | cons {v : V} {vs : List V} {x : Vl} {xs : List Vl} {f1 f2 : List Addr} : RVl K Z fpf Hb H v x f1 → RVls Z fpf Hb H vs xs f2 → Disj f1 f2 → RVls Z fpf Hb H (v :: vs) (x :: xs) (f1 ++ f2)
def tL (f : Env → R (List Vl)) : TA := fun σ H Q => ∃ Z fpf Hb ρ, StR K M bp Z fpf Hb H σ ρ ∧ Pst K M bp W cls Z Hb σ (f ρ) fun xs fpf' Hb' H' => ∀ vs fp, RVls K Z fpf' Hb' H' vs xs fp → Q vs H'
inductive RAgs (Z : Fz) (fpf : Nat → List Addr) (Hb H : Hp) (σ : L2.St) : List V → List Ag → List Addr → Prop
  | nil : RAgs Z fpf Hb H σ [] [] []
  | v {v : V} {vs : List V} {x : Vl} {xs : List Ag} {f1 f2 : List Addr} : RVl K Z fpf Hb H v x f1 → RAgs Z fpf Hb H σ vs xs f2 → Disj f1 f2 → RAgs Z fpf Hb H σ (v :: vs) (.v x :: xs) (f1 ++ f2)
  | r {v : V} {vs : List V} {i : Nat} {xs : List Ag} {f2 : List Addr} : σ[i]? = some (some v) → RAgs Z fpf Hb H σ vs xs f2 → RAgs Z fpf Hb H σ (v :: vs) (.r i :: xs) f2
def tAg (f : Env → R (List Ag)) : TA := fun σ H Q => ∃ Z fpf Hb ρ, StR K M bp Z fpf Hb H σ ρ ∧ Pst K M bp W cls Z Hb σ (f ρ) fun xs fpf' Hb' H' => ∀ vs fp, RAgs K Z fpf' Hb' H' σ vs xs fp → Q vs H'
def tOpt (f : Env → R (Option Int)) : TO := fun σ H Q => ∃ Z fpf Hb ρ, StR K M bp Z fpf Hb H σ ρ ∧ Pst K M bp W cls Z Hb σ (f ρ) fun x fpf' Hb' H' => Q x H'
end

section
variable {K : PySem.W.Frag} {M : Nat → Bool} {bp : List (Nat × Addr)} {W : WX} {cls : Nat → Value} {Z : Fz} {fpf fpf' : Nat → List Addr} {Hb Hb' H H' : Hp} {σ : L2.St} {ρ ρ' : Env} {v u : V} {x y z : Vl} {fp fp1 fp2 : List Addr} {α β : Type}

theorem Pst.mono {r : R α} {k k' : α → (Nat → List Addr) → Hp → Hp → Prop} (h : Pst K M bp W cls Z Hb σ r k) (e : Same Hb Hb') (hk : ∀ a fpf' Hb2 H', Same Hb' Hb2 → k a fpf' Hb2 H' → k' a fpf' Hb2 H') : Pst K M bp W cls Z Hb' σ r k' := by
  cases r with
  | ok a ρ => exact fun Hb2 H2 f2 e2 S => hk _ _ _ _ e2 (h Hb2 H2 f2 (e.trans e2) S)
  | exc c ρ => exact fun Hb2 H2 f2 e2 S => h Hb2 H2 f2 (e.trans e2) S
  | bad => exact h
/-- first f, then what follows -/
theorem Pst.bind {f : R α} {g : α → Env → R β} {k : β → (Nat → List Addr) → Hp → Hp → Prop} (h : Pst K M bp W cls Z Hb σ (f.bind g) k) :
    Pst K M bp W cls Z Hb σ f fun a fpf' Hb' H' => ∀ ρ', f = .ok a ρ' → StR K M bp Z fpf' Hb' H' σ ρ' → Pst K M bp W cls Z Hb' σ (g a ρ') k := by
  cases f with
  | ok a ρ =>
    intro Hb2 H2 f2 e2 S ρ' e S'
    cases e
    exact Pst.mono h e2 fun _ _ _ _ _ q => q
  | exc c ρ => exact h
  | bad => exact h
/-- what is held is let go -/
theorem Pst.more {r : R α} {k : α → (Nat → List Addr) → Hp → Hp → Prop} (S : StR K M bp Z fpf Hb H σ ρ) (h : Pst K M bp W cls Z Hb σ r k) :
    Pst K M bp W cls (Z.more H fp) Hb σ r fun a fpf' Hb' H' => ∀ ρ', StR K M bp (Z.more H fp) fpf' Hb' H' σ ρ' → r = .ok a ρ' → k a fpf' Hb' H' := by
  have fr0 : ∀ a, Z.F a ∨ Z.G a → H a = Z.hp a := fun a ha => (S.fr a ha).1
  cases r with
  | ok a ρ =>
    intro Hb2 H2 f2 e2 S2 ρ' S' e
    cases e
    exact h Hb2 H2 f2 e2 (S2.letgo fr0)
  | exc c ρ => exact fun Hb2 H2 f2 e2 S2 => h Hb2 H2 f2 e2 (S2.letgo fr0)
  | bad => exact h
theorem Pst.imp {r : R α} {k k' : α → (Nat → List Addr) → Hp → Hp → Prop} (h : Pst K M bp W cls Z Hb σ r k) (hk : ∀ a ρ' fpf' Hb2 H', r = .ok a ρ' → Same Hb Hb2 → StR K M bp Z fpf' Hb2 H' σ ρ' → k a fpf' Hb2 H' → k' a fpf' Hb2 H') : Pst K M bp W cls Z Hb σ r k' := by
  cases r with
  | ok a ρ => exact fun Hb2 H2 f2 e2 S => hk _ _ _ _ _ rfl e2 S (h Hb2 H2 f2 e2 S)
  | exc c ρ => exact h
  | bad => exact h
theorem Pst.of {o : Option α} {k : α → (Nat → List Addr) → Hp → Hp → Prop} (S : StR K M bp Z fpf Hb H σ ρ) (h : Pst K M bp W cls Z Hb σ (R.of o ρ) k) : ∃ a, o = some a ∧ ∀ Hb' H' fpf', Same Hb Hb' → StR K M bp Z fpf' Hb' H' σ ρ → k a fpf' Hb' H' := by
  cases o with
  | none => exact h.elim
  | some a => exact ⟨a, rfl, h⟩
theorem weakE {X : Cx} {e : Expr} {t t' : TE} (h : PE X e t) (w : ∀ σ H Q, t' σ H Q → t σ H Q) : PE X e t' := ⟨fun pins s σ H Q I q => h.run pins s σ H Q I (w σ H Q q)⟩
theorem weakA {X : Cx} {e : List Expr} {t t' : TA} (h : PA X e t) (w : ∀ σ H Q, t' σ H Q → t σ H Q) : PA X e t' := ⟨fun pos pins s σ H Q I q => h.run pos pins s σ H Q I (w σ H Q q)⟩
/-- a part, then what is to be done with it in hand -/
theorem tE_then {f : Env → R Vl} {g : Vl → Env → R β} {k : β → (Nat → List Addr) → Hp → Hp → Prop} {Q : VK} (S : StR K M bp Z fpf Hb H σ ρ) (h : Pst K M bp W cls Z Hb σ ((f ρ).bind g) k)
    (hq : ∀ x ρ1 fpf1 Hb1 H1 v fp, Same Hb Hb1 → StR K M bp Z fpf1 Hb1 H1 σ ρ1 → RVl K Z fpf1 Hb1 H1 v x fp → Pst K M bp W cls Z Hb1 σ (g x ρ1) k → Q v H1) : tE K M bp W cls f σ H Q :=
  ⟨Z, fpf, Hb, ρ, S, h.bind.imp fun x ρ1 fpf1 Hb1 H1 e e1 S1 q v fp r => hq x ρ1 fpf1 Hb1 H1 v fp e1 S1 r (q ρ1 e S1)⟩
/-- two parts -/
theorem tE_two {fa fb : Env → R Vl} {g : Vl → Vl → Env → R β} {k : β → (Nat → List Addr) → Hp → Hp → Prop} {Q : V → V → Hp → Prop} (S : StR K M bp Z fpf Hb H σ ρ)
    (h : Pst K M bp W cls Z Hb σ ((fa ρ).bind fun x ρ1 => (fb ρ1).bind fun y ρ2 => g x y ρ2) k)
    (hq : ∀ x y ρ2 fpf2 Hb2 H2 v u fp1 fp2, Same Hb Hb2 → StR K M bp Z fpf2 Hb2 H2 σ ρ2 → RVl K Z fpf2 Hb2 H2 v x fp1 → RVl K Z fpf2 Hb2 H2 u y fp2 → Disj fp1 fp2 → Pst K M bp W cls Z Hb2 σ (g x y ρ2) k → Q v u H2) :
    tE K M bp W cls fa σ H fun v H1 => tE K M bp W cls fb σ H1 fun u H2 => Q v u H2 := by
  refine tE_then S h fun x ρ1 fpf1 Hb1 H1 v fp1 e1 S1 r1 q => ?_
  have S1' := S1.hold r1
  refine ⟨_, _, _, _, S1', (q.bind.more (fp := fp1) S1).imp fun y ρ2 fpf2 Hb2 H2 e e2 S2 q2 u fp2 r2 => ?_⟩
  have fr0 : ∀ a, Z.F a ∨ Z.G a → H1 a = Z.hp a := fun a ha => (S1.fr a ha).1
  have S2' := S2.letgo fr0
  obtain ⟨r2', dj⟩ := r2.drop
  exact hq x y ρ2 fpf2 Hb2 H2 v u fp1 fp2 (e1.trans e2) S2' (r1.kept S1 e2 S2) r2' dj (q2 ρ2 S2 e ρ2 e S2')
theorem tE_bin {fa fb : Env → R Vl} {op : Vl → Vl → Option Vl} {r : R2} (ho : Op2 K r op) (σ : L2.St) (H : Hp) (Q : VK) (h : tE K M bp W cls (fun ρ => (fa ρ).bind fun x ρ1 => (fb ρ1).bind fun y ρ2 => R.of (op x y) ρ2) σ H Q) :
    tOp r (tE K M bp W cls fa) (tE K M bp W cls fb) σ H Q := by
  obtain ⟨Z, fpf, Hb, ρ, S, q⟩ := h
  refine tE_two S q fun x y ρ2 fpf2 Hb2 H2 v u fp1 fp2 e S2 r1 r2 dj q2 => ?_
  obtain ⟨z, ez, q3⟩ := q2.of S2
  exact ho M bp Z fpf2 Hb2 H2 σ ρ2 v u x y z fp1 fp2 Q S2 r1 r2 dj ez fun w Hb' H' fp e' S' r' => q3 Hb' H' fpf2 e' S' w fp r'
theorem tE_un {fa : Env → R Vl} {op : Vl → Option Vl} {r : V → Hp → VK → Prop} (ho : Op1 K r op) (σ : L2.St) (H : Hp) (Q : VK) (h : tE K M bp W cls (fun ρ => (fa ρ).bind fun x ρ1 => R.of (op x) ρ1) σ H Q) :
    tUn r (tE K M bp W cls fa) σ H Q := by
  obtain ⟨Z, fpf, Hb, ρ, S, q⟩ := h
  refine tE_then S q fun x ρ1 fpf1 Hb1 H1 v fp1 e1 S1 r1 q => ?_
  obtain ⟨z, ez, q3⟩ := q.of S1
  exact ho M bp Z fpf1 Hb1 H1 σ ρ1 v x z fp1 Q S1 r1 ez fun w Hb' H' fp e' S' r' => q3 Hb' H' fpf1 e' S' w fp r'

/-! ### what a def promises -/
variable (K) in
inductive ArRs (F : Addr → Prop) (Hb H : Hp) : List V → List Ar → List Addr → Prop
  | nil : ArRs F Hb H [] [] []
  | own {v : V} {vs : List V} {o : Ow} {as : List Ar} {f1 f2 : List Addr} : RO K Hb H v o f1 → ArRs F Hb H vs as f2 → Disj f1 f2 → ArRs F Hb H (v :: vs) (.v (.ow o) :: as) (f1 ++ f2)
  | lent {v : V} {vs : List V} {o : Ow} {as : List Ar} {f1 f2 : List Addr} : RO K Hb H v o f1 → (∀ a ∈ f1, F a) → ArRs F Hb H vs as f2 → ArRs F Hb H (v :: vs) (.v (.bw o) :: as) f2
  | ref {p : Addr} {vs : List V} {o : Ow} {as : List Ar} {f1 f2 : List Addr} : RO K Hb H (.ref p) o f1 → ArRs F Hb H vs as f2 → Disj f1 f2 → ArRs F Hb H (.ref p :: vs) (.r o :: as) (f1 ++ f2)
variable (K) in
/-- the lent ones as they come back -/
inductive OutRs (Hb H : Hp) : List V → List Ar → List Ow → List Addr → Prop
  | nil : OutRs Hb H [] [] [] []
  | v {v : V} {vs : List V} {x : Vl} {as : List Ar} {os : List Ow} {f : List Addr} : OutRs Hb H vs as os f → OutRs Hb H (v :: vs) (.v x :: as) os f
  | r {v : V} {vs : List V} {o o' : Ow} {as : List Ar} {os : List Ow} {f1 f2 : List Addr} : RO K Hb H v o' f1 → OutRs Hb H vs as os f2 → Disj f1 f2 → OutRs Hb H (v :: vs) (.r o :: as) (o' :: os) (f1 ++ f2)
variable (K) in
def spC (C : CallS) (cls : Nat → Value) (f n : Nat) : Sp := fun vs H Q E => vs.length = n ∧ ∃ (F : Addr → Prop) (Hb : Hp) (ars : List Ar) (fp : List Addr),
  ArRs K F Hb H vs ars fp ∧ Same Hb H ∧ (∀ a, F a → Hb a = none ∧ H a ≠ none) ∧ (∀ a ∈ fp, ¬ F a) ∧
  match C f ars with
  | .ok o outs => ∀ v Hb' H' fp1 fp2, Same Hb Hb' → Same Hb' H' → (∀ a, F a → H' a = H a ∧ Hb' a = none) → RO K Hb' H' v o fp1 → OutRs K Hb' H' vs ars outs fp2 → Disj fp1 fp2 → (∀ a, a ∈ fp1 ∨ a ∈ fp2 → ¬ F a) → Q v H'
  | .exc c => ∀ Hb' H', Same Hb Hb' → Same Hb' H' → (∀ a, F a → H' a = H a ∧ Hb' a = none) → E (cls c) none H'
  | .bad => False
end

/-- the names of built-ins that are used -/
def bnames : List Str := ["len", "abs", "tuple", "list", "sum", "any", "all", "int", "max", "min", "sorted", "isinstance", "range", "enumerate", "zip", "bool", "str", "set"]
/-- the class of an exception, of the program's own -/
def ExF (K : PySem.W.Frag) (mg : Str → Option Value) (x : Str) (u : Value) : Prop := ∃ C, u = .ref C ∧ mg x = some (.ref C) ∧ PySem.W.excIn K C [.type "ValueError", .type "Exception", .type "BaseException", .type "object"] "ValueError.__new__" = true ∧
  PySem.W.keepIn K (.ref C) = true ∧ PySem.W.subIn K (.ref C) (.type "BaseException") = some true ∧ PySem.W.typeIn K (.ref C) = some (.type "type")
/-- the exceptions' classes, by number -/
def exNm : Nat → Option Str
  | 0 => some "NoNumber" | 1 => some "NoMarket" | 2 => some "NoPrices" | 3 => some "Dear" | 4 => some "Unwished" | 5 => some "NoBuyer" | 6 => some "NoGood" | 7 => some "Nothing" | 8 => some "NoDealing" | 9 => some "NoText" | 10 => some "NoRow"
  | _ => none
/-- what a law with a try needs -/
structure KinOk (P : Program) (w : World) (K : PySem.W.Frag) (mg : Str → Option Value) (base : Heap) (cls : Nat → Value) : Prop where
  fn : ∃ (a : Addr) (fd : FuncData), mg "_law_kinds" = some (.ref a) ∧ PySem.W.keepIn K (.ref a) = true ∧ L2.Binds K fd ["e"] [] ∧ ∀ c x, exNm c = some x → FnK P w K mg base (L2N.CX P w) 1 a fd ["e"] (cls c) (kText x)
  me : ∃ B, mg "MartError" = some (.ref B) ∧ ∀ c x, exNm c = some x → PySem.W.exmOne K (cls c) (.ref B) = some true
structure XOk (nm : Nm) (C : CallS) (gv : Nat → Option D) (cls : Nat → Value) (k : Nat) (X : Cx) : Prop where
  calm : X.calm = true
  nd : X.N.Nodup
  room : Room k X.A
  fns : ∀ f n, nm.ar f = some n → ∃ (a : Addr) (fd : FuncData) (ps : List Str), ps.length = n ∧ X.mg (nm.fn f) = some (.ref a) ∧ PySem.W.keepIn X.K (.ref a) = true ∧ L2.Binds X.K fd ps [] ∧
    FnOk X.prog X.w X.K X.mg X.base (L2N.CX X.prog X.w) k a fd ps (spC X.K C cls f n)
  gls : ∀ k x, gv k = some x → ∃ v u, X.mg (nm.gl k) = some u ∧ RelV v u ∧ ∀ H, Rp X.K H v x
  bi : ∀ x ∈ bnames, X.mg x = none
  exf : ∀ c x, nm.en c = some x → ExF X.K X.mg x (cls c)
  k1 : 33 ≤ k
  kin : nm.kn = true → KinOk X.prog X.w X.K X.mg X.base cls
  seer : X.base.NoSeer
  tree : X.prog.given.tree = none
  top : ∃ (e : PySem.Env) (l : List PySem.Env), X.stack = e :: l ∧ e.scope.isGenerator = false ∧ e.scope.isCoroutine = false ∧ e.builtins = builtinsNs ∧ e.globals = mainGlobals
theorem XOk.pl {nm : Nm} {C : CallS} {gv : Nat → Option D} {cls : Nat → Value} {k : Nat} {X : Cx} (h : XOk nm C gv cls k X) : PL X := by
  intro pins σ H s I
  obtain ⟨e, l, h1, h2, h3, h4, h5⟩ := h.top
  have hf : X.A.frames = some (e :: l) := by rw [I.ok.frames, h1]
  have hd : X.A.depth + Builtin.pylongFrames < recursionLimit := by
    have h6 := h.room.dp
    have h7 := h.k1
    have h8 : Builtin.pylongFrames = 100 := rfl
    omega
  exact PySem.PylongRoom.of I.nolimit hd (PySem.SeerAt.of (h.seer.keeps I.bk) h.tree hf h2 h3 h4 h5)
theorem XOk.blk {nm : Nm} {C : CallS} {gv : Nat → Option D} {cls : Nat → Value} {k : Nat} {X : Cx} (h : XOk nm C gv cls k X) (s : Shared) (H : Hp) (scope : Scope) (cenv : PySem.Env) (fp : List Addr) : XOk nm C gv cls k (X.blk s H scope cenv fp) :=
  ⟨h.calm, h.nd, h.room, h.fns, h.gls, h.bi, h.exf, h.k1, h.kin, h.seer, h.tree, h.top⟩
end WM

/-! WM: a call. -/
namespace WM
open PySem PySem.Spec PyProof.Rows L2
section
variable {K : PySem.W.Frag} {M : Nat → Bool} {bp : List (Nat × Addr)} {W : WX} {cls : Nat → Value} {Z : Fz} {fpf fpf' : Nat → List Addr} {Hb Hb' H H' : Hp} {σ : L2.St} {ρ ρ' : Env} {v u : V} {x y z : Vl} {fp fp1 fp2 : List Addr}

theorem getArs_v {x : Vl} {r : List Ag} {ars : List Ar} (h : getArs M ρ (.v x :: r) = some ars) : ∃ ars', getArs M ρ r = some ars' ∧ ars = .v x :: ars' := by
  obtain ⟨a, h1, h2⟩ := Option.map_eq_some_iff.mp (show (getArs M ρ r).map (.v x :: ·) = some ars from h)
  exact ⟨a, h1, h2.symm⟩
theorem getArs_r {i : Nat} {r : List Ag} {ars : List Ar} (h : getArs M ρ (.r i :: r) = some ars) : ∃ o ars', getArs M ρ r = some ars' ∧ ars = .r o :: ars' ∧ M i = true ∧ (ρ[i]? = some (.val o) ∨ ρ[i]? = some (.ref o)) ∧ ∀ {K : PySem.W.Frag} {Hb H : Hp} {w : V} {f : List Addr}, RO K Hb H w o f → ∃ p, w = .ref p := by
  unfold getArs at h
  split at h
  · rename_i os h1 h2
    obtain ⟨a, h3, h4⟩ := Option.map_eq_some_iff.mp h
    exact ⟨_, a, h3, h4.symm, h2, .inl h1, fun r => by cases r; exact ⟨_, rfl⟩⟩
  · rename_i os h1 h2
    obtain ⟨a, h3, h4⟩ := Option.map_eq_some_iff.mp h
    exact ⟨_, a, h3, h4.symm, h2, .inr h1, fun r => by cases r; exact ⟨_, rfl⟩⟩
  · rename_i ks ds h1 h2
    obtain ⟨a, h3, h4⟩ := Option.map_eq_some_iff.mp h
    exact ⟨_, a, h3, h4.symm, h2, .inl h1, fun r => by cases r; exact ⟨_, rfl⟩⟩
  · rename_i ks ds h1 h2
    obtain ⟨a, h3, h4⟩ := Option.map_eq_some_iff.mp h
    exact ⟨_, a, h3, h4.symm, h2, .inr h1, fun r => by cases r; exact ⟨_, rfl⟩⟩
  · cases h
theorem slot_own {i : Nat} {o : Ow} (S : StR K M bp Z fpf Hb H σ ρ) (hM : M i = true) (h : ρ[i]? = some (.val o) ∨ ρ[i]? = some (.ref o)) : ∃ v, σ[i]? = some (some v) ∧ RO K Hb H v o (fpf i) := by
  rcases h with h | h
  · have q := S.sl i _ h
    try dsimp only at q
    rwa [if_pos hM] at q
  · have q := (S.sl i _ h).2
    try dsimp only at q
    rwa [if_pos hM] at q
theorem ags_ok (S : StR K M bp Z fpf Hb H σ ρ) {F : Addr → Prop} (hF : ∀ a, Z.F a → F a) : ∀ {vs : List V} {ags : List Ag} {fp : List Addr} {ars : List Ar}, RAgs K Z fpf Hb H σ vs ags fp → getArs M ρ ags = some ars → (agRefs ags).Nodup →
    ∃ T, ArRs K F Hb H vs ars T ∧ (∀ a ∈ T, a ∈ fp ∨ ∃ i ∈ agRefs ags, a ∈ fpf i) ∧ (∀ a ∈ T, ¬ (Z.F a ∨ Z.G a)) ∧ (∀ i, i ∉ agRefs ags → Disj (fpf i) T) ∧ vs.length = ags.length
  | _, _, _, _, .nil, h, _ => by cases h; exact ⟨[], .nil, fun _ h => (nomatch h), fun _ h => (nomatch h), fun _ _ _ _ h => (nomatch h), rfl⟩
  | _, _, _, _, .v (x := x) (f1 := f1) (f2 := f2) r t dj, h, nd => by
    obtain ⟨ars', h1, rfl⟩ := getArs_v h
    obtain ⟨T, a1, a2, a3, a4, a5⟩ := ags_ok S hF t h1 nd
    cases x with
    | ow o =>
      have d1 : Disj f1 T := fun a ha hb => by
        rcases a2 a hb with q | ⟨i, hi, q⟩
        · exact dj a ha q
        · exact r.2.2 i a q ha
      refine ⟨f1 ++ T, .own r.1 a1 d1, fun a ha => ?_, fun a ha => ?_, fun i hi a ha hb => ?_, by simp [a5]⟩
      · rcases List.mem_append.mp ha with ha | ha
        · exact .inl (List.mem_append_left _ ha)
        · exact (a2 a ha).imp (List.mem_append_right _) id
      · rcases List.mem_append.mp ha with ha | ha
        · exact r.2.1 a ha
        · exact a3 a ha
      · rcases List.mem_append.mp hb with hb | hb
        · exact r.2.2 i a ha hb
        · exact a4 i hi a ha hb
    | bw o =>
      obtain ⟨f, r1, r2, r3⟩ := r
      subst r3
      exact ⟨T, .lent r1 (fun a ha => hF a (r2 a ha)) a1, fun a ha => (a2 a ha).imp (fun h => by simpa using h) id, a3, a4, by simp [a5]⟩
  | _, _, _, _, .r (i := i) hs t, h, nd => by
    obtain ⟨os, ars', h1, rfl, hM, hsl, hrf⟩ := getArs_r h
    have nd' : i ∉ agRefs _ ∧ (agRefs _).Nodup := List.nodup_cons.mp nd
    obtain ⟨T, a1, a2, a3, a4, a5⟩ := ags_ok S hF t h1 nd'.2
    obtain ⟨w, hw, r⟩ := slot_own S hM hsl
    rw [hs] at hw
    cases hw
    obtain ⟨p, e1⟩ := hrf r
    subst e1
    refine ⟨fpf i ++ T, .ref r a1 fun a ha hb => a4 i nd'.1 a ha hb, fun a ha => ?_, fun a ha => ?_, fun j hj a ha hb => ?_, by simp [a5]⟩
    · rcases List.mem_append.mp ha with ha | ha
      · exact .inr ⟨i, List.mem_cons_self, ha⟩
      · exact (a2 a ha).imp id fun ⟨j, h1, h2⟩ => ⟨j, List.mem_cons_of_mem _ h1, h2⟩
    · rcases List.mem_append.mp ha with ha | ha
      · exact S.nf i a ha
      · exact a3 a ha
    · have hj' : j ≠ i ∧ j ∉ agRefs _ := ⟨fun e => hj (e ▸ List.mem_cons_self), fun h => hj (List.mem_cons_of_mem _ h)⟩
      rcases List.mem_append.mp hb with hb | hb
      · exact S.sep j i hj'.1 a ha hb
      · exact a4 j hj'.2 a ha hb
/-- the slots lent, given back -/
theorem put_ok {ρ0 : Env} : ∀ {ags : List Ag} {vs : List V} {fp : List Addr} {ars : List Ar} {outs : List Ow} {fp2 : List Addr} {ρ ρ' : Env}, RAgs K Z fpf Hb H σ vs ags fp → getArs M ρ0 ags = some ars → OutRs K Hb' H' vs ars outs fp2 → (agRefs ags).Nodup → putArs ρ (agRefs ags) outs = some ρ' →
    ∃ g : Nat → List Addr, (∀ i, i ∉ agRefs ags → g i = []) ∧ (∀ i, ∀ a ∈ g i, a ∈ fp2) ∧ (∀ i j, i ≠ j → Disj (g i) (g j)) ∧ (∀ i, i ∉ agRefs ags → ρ'[i]? = ρ[i]?) ∧ ρ'.length = ρ.length ∧
      ∀ i ∈ agRefs ags, M i = true ∧ ∃ o v, ((∃ o', ρ[i]? = some (.val o') ∧ ρ'[i]? = some (.val o)) ∨ (∃ o', ρ[i]? = some (.ref o') ∧ ρ'[i]? = some (.ref o))) ∧ σ[i]? = some (some v) ∧ RO K Hb' H' v o (g i)
  | _, _, _, _, _, _, _, _, .nil, h, o, _, hp => by
    cases h; cases o; cases hp
    exact ⟨fun _ => [], fun _ _ => rfl, fun _ _ h => (nomatch h), fun _ _ _ _ h => (nomatch h), fun _ _ => rfl, rfl, fun _ h => (nomatch h)⟩
  | _, _, _, _, _, _, _, _, .v (xs := ags) r t dj, h, o, nd, hp => by
    obtain ⟨ars', h1, rfl⟩ := getArs_v h
    cases o with
    | v o => exact put_ok (ags := ags) t h1 o nd hp
  | _, _, _, _, _, _, ρ, ρ', .r (i := i) (xs := ags) hs t, h, o, nd, hp => by
    obtain ⟨os, ars', h1, rfl, hM, hsl, hrf⟩ := getArs_r h
    have nd' : i ∉ agRefs ags ∧ (agRefs ags).Nodup := List.nodup_cons.mp nd
    cases o with
    | @r v vs o o' as outs f1 f2 ro o dj =>
      have key : ∃ s : Sl, putArs (ρ.set i s) (agRefs ags) outs = some ρ' ∧ i < ρ.length ∧ ((∃ o1, ρ[i]? = some (.val o1) ∧ s = .val o') ∨ (∃ o1, ρ[i]? = some (.ref o1) ∧ s = .ref o')) := by
        have hp : putArs ρ (i :: agRefs ags) (o' :: outs) = some ρ' := hp
        unfold putArs at hp
        split at hp
        · rename_i o1 e1; exact ⟨_, hp, (List.getElem?_eq_some_iff.mp e1).1, .inl ⟨o1, e1, rfl⟩⟩
        · rename_i o1 e1; exact ⟨_, hp, (List.getElem?_eq_some_iff.mp e1).1, .inr ⟨o1, e1, rfl⟩⟩
        · cases hp
      obtain ⟨s, hp, hlt, hk⟩ := key
      obtain ⟨g, g1, g2, g3, g4, g5, g6⟩ := put_ok t h1 o nd'.2 hp
      have gi : g i = [] := g1 i nd'.1
      refine ⟨fun j => if j = i then f1 else g j, fun j hj => ?_, fun j a ha => ?_, fun j k hjk a ha hb => ?_, fun j hj => ?_, by rw [g5, List.length_set], fun j hj => ?_⟩
      · have : j ≠ i := fun e => hj (e ▸ List.mem_cons_self)
        show (if j = i then f1 else g j) = []
        rw [if_neg this]
        exact g1 j fun h => hj (List.mem_cons_of_mem _ h)
      · try dsimp only at ha
        split at ha
        · exact List.mem_append_left _ ha
        · exact List.mem_append_right _ (g2 j a ha)
      · try dsimp only at ha hb
        split at ha
        · rename_i e
          rw [if_neg (fun e2 => hjk (e.trans e2.symm))] at hb
          exact dj a ha (g2 k a hb)
        · split at hb
          · exact dj a hb (g2 j a ha)
          · exact g3 j k hjk a ha hb
      · have hj' : j ≠ i := fun e => hj (e ▸ List.mem_cons_self)
        rw [g4 j fun h => hj (List.mem_cons_of_mem _ h), List.getElem?_set_ne (Ne.symm hj')]
      · by_cases e : j = i
        · subst e
          refine ⟨hM, o', _, ?_, hs, by show RO K Hb' H' _ o' (if j = j then f1 else g j); rw [if_pos rfl]; exact ro⟩
          have e2 : ρ'[j]? = some s := by rw [g4 j nd'.1, List.getElem?_set_self hlt]
          rcases hk with ⟨o1, k1, rfl⟩ | ⟨o1, k1, rfl⟩
          · exact .inl ⟨o1, k1, e2⟩
          · exact .inr ⟨o1, k1, e2⟩
        · have hj' : j ∈ agRefs ags := (List.mem_cons.mp hj).resolve_left e
          obtain ⟨m1, o1, w, m2, m3, m4⟩ := g6 j hj'
          refine ⟨m1, o1, w, ?_, m3, by show RO K Hb' H' w o1 (if j = i then f1 else g j); rw [if_neg e]; exact m4⟩
          rw [List.getElem?_set_ne (Ne.symm e)] at m2
          exact m2
theorem drop_get {is : List Nat} {i : Nat} : ∀ {ρ : Env}, (dropArs ρ is)[i]? = if i ∈ is ∧ i < ρ.length then some .no else ρ[i]? := by
  unfold dropArs
  induction is with
  | nil => intro ρ; simp
  | cons j is ih =>
    intro ρ
    rw [List.foldl_cons, ih, List.length_set]
    by_cases e : i = j
    · subst e
      by_cases hl : i < ρ.length
      · simp [hl, List.getElem?_set_self hl]
      · simp [hl]
    · rw [List.getElem?_set_ne (Ne.symm e)]
      simp [e]
theorem drop_len {is : List Nat} : ∀ {ρ : Env}, (dropArs ρ is).length = ρ.length := by
  unfold dropArs
  induction is with
  | nil => intro ρ; rfl
  | cons j is ih => intro ρ; rw [List.foldl_cons, ih, List.length_set]
/-- THE CALL -/
theorem call_ok {C : CallS} {f n : Nat} {ags : List Ag} {vs : List V} {Q : VK} (S : StR K M bp Z fpf Hb H σ ρ) (r : RAgs K Z fpf Hb H σ vs ags fp) (hn : ags.length = n)
    (h : Pst K M bp W cls Z Hb σ (callR C M f ags ρ) fun x fpf' Hb' H' => ∀ v fp, RVl K Z fpf' Hb' H' v x fp → Q v H') : spC K C cls f n vs H Q (fun c d H => W c d σ H) := by
  unfold callR at h
  split at h
  · rename_i nd
    split at h
    · exact h.elim
    · rename_i ars ha
      obtain ⟨T0, a0, b0, c0, d0, l0⟩ := ags_ok (F := Z.F) S (fun _ h => h) r ha nd
      -- what the callee keeps
      obtain ⟨T, a1, a2, a3, a4, a5⟩ := ags_ok (F := fun a => H a ≠ none ∧ Hb a = none ∧ a ∉ T0) S (fun a h => ⟨(S.fr a (.inl h)).2.2, (S.fr a (.inl h)).2.1, fun q => c0 a q (.inl h)⟩) r ha nd
      have tt : ∀ a, a ∈ T → a ∈ T0 := by
        have : ∀ {F G : Addr → Prop} {vs : List V} {as : List Ar} {f g : List Addr}, ArRs K F Hb H vs as f → ArRs K G Hb H vs as g → ∀ a, a ∈ f → a ∈ g := by
          intro F G vs as f g x
          induction x generalizing g with
          | nil => intro y a h; cases h
          | own x1 x2 x3 ih =>
            intro y a h
            cases y with
            | own y1 y2 y3 =>
              have e : ∀ {o : Ow} {v : V} {f g : List Addr}, RO K Hb H v o f → RO K Hb H v o g → f = g := by
                intro o
                exact RO.fpu
              rw [e x1 y1] at h
              exact (List.mem_append.mp h).elim (List.mem_append_left _) fun h => List.mem_append_right _ (ih y2 a h)
          | lent x1 x2 x3 ih =>
            intro y a h
            cases y with
            | lent y1 y2 y3 => exact ih y3 a h
          | ref x1 x2 x3 ih =>
            intro y a h
            cases y with
            | ref y1 y2 y3 =>
              rw [RO.fpu x1 y1] at h
              exact (List.mem_append.mp h).elim (List.mem_append_left _) fun h => List.mem_append_right _ (ih y2 a h)
        exact this a1 a0
      refine ⟨by rw [a5, hn], fun a => H a ≠ none ∧ Hb a = none ∧ a ∉ T0, Hb, ars, T, a1, S.ex, fun a h => ⟨h.2.1, h.1⟩, fun a h q => q.2.2 (tt a h), ?_⟩
      have FG : ∀ a, Z.F a ∨ Z.G a → H a ≠ none ∧ Hb a = none ∧ a ∉ T0 := fun a h => ⟨(S.fr a h).2.2, (S.fr a h).2.1, fun q => c0 a q h⟩
      have FO : ∀ i, i ∉ agRefs ags → ∀ a ∈ fpf i, H a ≠ none ∧ Hb a = none ∧ a ∉ T0 := fun i hi a ha => ⟨(S.hb i a ha).2, (S.hb i a ha).1, fun q => d0 i hi a ha q⟩
      split
      · rename_i o outs hc
        rw [hc] at h
        try dsimp only at h
        split at h
        · rename_i ρ' hp
          intro v Hb' H' g1 g2 e1 e2 kp ro ou dj nf
          obtain ⟨g, p1, p2, p3, p4, p5, p6⟩ := put_ok r ha ou nd hp
          have kpZ : ∀ a, Z.F a ∨ Z.G a → H' a = H a ∧ Hb' a = none := fun a h => kp a (FG a h)
          have S' : StR K M bp Z (fun i => if i ∈ agRefs ags then g i else fpf i) Hb' H' σ ρ' := by
            refine ⟨e2, fun a h => ?_, p5.trans S.len, fun i s hs => ?_, fun i j hij a hai haj => ?_, fun i a hai q => ?_, fun i a hai => ?_, fun i hi => ?_⟩
            · have q := S.fr a h
              have k := kpZ a h
              exact ⟨k.1.trans q.1, k.2, by rw [k.1]; exact q.2.2⟩
            · have mF : ∀ {o : Ow} {v : V} {f : List Addr}, RO K Hb H v o f → (∀ a ∈ f, Z.F a) → RO K Hb' H' v o f := fun r h => RO.mono e1 _ _ _ (fun a ha => kpZ a (.inl (h a ha))) r
              by_cases hi : i ∈ agRefs ags
              · obtain ⟨m1, o1, w, m2, m3, m4⟩ := p6 i hi
                rcases m2 with ⟨o2, q1, q2⟩ | ⟨o2, q1, q2⟩
                · rw [hs] at q2; cases q2
                  try dsimp only
                  rw [if_pos m1, if_pos hi]
                  exact ⟨w, m3, m4⟩
                · rw [hs] at q2; cases q2
                  refine ⟨(S.sl i _ q1).1, ?_⟩
                  try dsimp only
                  rw [if_pos m1, if_pos hi]
                  exact ⟨w, m3, m4⟩
              · rw [p4 i hi] at hs
                have q := S.sl i s hs
                have mI : ∀ {o : Ow} {v : V}, RO K Hb H v o (fpf i) → RO K Hb' H' v o (fpf i) := fun r => RO.mono e1 _ _ _ (fun a ha => kp a (FO i hi a ha)) r
                try dsimp only
                rw [if_neg hi]
                cases s with
                | no => trivial
                | bor o => obtain ⟨v, f, h1, h2, h3⟩ := q; exact ⟨v, f, h1, mF h2 h3, h3⟩
                | val o =>
                  dsimp only at q ⊢
                  split
                  · rename_i hM; rw [if_pos hM] at q; obtain ⟨v, h1, h2⟩ := q; exact ⟨v, h1, mI h2⟩
                  · rename_i hM; rw [if_neg hM] at q; obtain ⟨v, f, h1, h2, h3⟩ := q; exact ⟨v, f, h1, mF h2 h3, h3⟩
                | ref o =>
                  refine ⟨q.1, ?_⟩
                  have q := q.2
                  split
                  · rename_i hM; rw [if_pos hM] at q; obtain ⟨v, h1, h2⟩ := q; exact ⟨v, h1, mI h2⟩
                  · rename_i hM; rw [if_neg hM] at q; obtain ⟨v, f, h1, h2, h3⟩ := q; exact ⟨v, f, h1, mF h2 h3, h3⟩
            · try dsimp only at hai haj
              split at hai
              · split at haj
                · exact p3 i j hij a hai haj
                · rename_i hj; exact nf a (.inr (p2 i a hai)) (FO j hj a haj)
              · rename_i hi
                split at haj
                · exact nf a (.inr (p2 j a haj)) (FO i hi a hai)
                · exact S.sep i j hij a hai haj
            · try dsimp only at hai
              split at hai
              · exact nf a (.inr (p2 i a hai)) (FG a q)
              · exact S.nf i a hai q
            · try dsimp only at hai
              split at hai
              · rename_i hi
                obtain ⟨_, o1, w, _, _, m4⟩ := p6 i hi
                exact m4.at_ a hai
              · rename_i hi
                have k := kp a (FO i hi a hai)
                exact ⟨k.2, by rw [k.1]; exact (S.hb i a hai).2⟩
            · try dsimp only
              split
              · rename_i h; rw [(p6 i h).1] at hi; cases hi
              · exact S.off i hi
          refine h Hb' H' _ e1 S' v g1 ⟨ro, fun a h q => nf a (.inl h) (FG a q), fun i a hai hb => ?_⟩
          try dsimp only at hai
          split at hai
          · exact dj a hb (p2 i a hai)
          · rename_i hi; exact nf a (.inl hb) (FO i hi a hai)
        · exact h.elim
      · rename_i c hc
        rw [hc] at h
        try dsimp only at h
        intro Hb' H' e1 e2 kp
        refine h Hb' H' (fun i => if i ∈ agRefs ags then [] else fpf i) e1 ?_
        have kpZ : ∀ a, Z.F a ∨ Z.G a → H' a = H a ∧ Hb' a = none := fun a h => kp a (FG a h)
        refine ⟨e2, fun a h => ?_, drop_len.trans S.len, fun i s hs => ?_, fun i j hij a hai haj => ?_, fun i a hai q => ?_, fun i a hai => ?_, fun i hi => ?_⟩
        · have q := S.fr a h
          have k := kpZ a h
          exact ⟨k.1.trans q.1, k.2, by rw [k.1]; exact q.2.2⟩
        · rw [drop_get] at hs
          split at hs
          · cases hs; trivial
          · rename_i hi
            have hl : i < ρ.length := (List.getElem?_eq_some_iff.mp hs).1
            have hi : i ∉ agRefs ags := fun q => hi ⟨q, hl⟩
            have mF : ∀ {o : Ow} {v : V} {f : List Addr}, RO K Hb H v o f → (∀ a ∈ f, Z.F a) → RO K Hb' H' v o f := fun r h => RO.mono e1 _ _ _ (fun a ha => kpZ a (.inl (h a ha))) r
            have mI : ∀ {o : Ow} {v : V}, RO K Hb H v o (fpf i) → RO K Hb' H' v o (fpf i) := fun r => RO.mono e1 _ _ _ (fun a ha => kp a (FO i hi a ha)) r
            have q := S.sl i s hs
            try dsimp only
            rw [if_neg hi]
            cases s with
            | no => trivial
            | bor o => obtain ⟨v, f, h1, h2, h3⟩ := q; exact ⟨v, f, h1, mF h2 h3, h3⟩
            | val o =>
              dsimp only at q ⊢
              split
              · rename_i hM; rw [if_pos hM] at q; obtain ⟨v, h1, h2⟩ := q; exact ⟨v, h1, mI h2⟩
              · rename_i hM; rw [if_neg hM] at q; obtain ⟨v, f, h1, h2, h3⟩ := q; exact ⟨v, f, h1, mF h2 h3, h3⟩
            | ref o =>
              refine ⟨q.1, ?_⟩
              have q := q.2
              split
              · rename_i hM; rw [if_pos hM] at q; obtain ⟨v, h1, h2⟩ := q; exact ⟨v, h1, mI h2⟩
              · rename_i hM; rw [if_neg hM] at q; obtain ⟨v, f, h1, h2, h3⟩ := q; exact ⟨v, f, h1, mF h2 h3, h3⟩
        · try dsimp only at hai haj
          split at hai
          · cases hai
          · split at haj
            · cases haj
            · exact S.sep i j hij a hai haj
        · try dsimp only at hai
          split at hai
          · cases hai
          · exact S.nf i a hai q
        · try dsimp only at hai
          split at hai
          · cases hai
          · rename_i hi
            have k := kp a (FO i hi a hai)
            exact ⟨k.2, by rw [k.1]; exact (S.hb i a hai).2⟩
        · try dsimp only
          split
          · rfl
          · exact S.off i hi
      · rename_i hc
        rw [hc] at h
        exact h.elim
  · exact h.elim
end
end WM

/-! WM: enumerate over a tuple (the layer has it over lists). -/
namespace WM
open PySem PySem.Spec PyProof.Rows L2
abbrev tupIt (a : Addr) : Obj := { cls := .type "tuple_iterator", data := .fields #[.ref a, .int 0 0] }
abbrev enuO (i : Addr) : Obj := { cls := .type "enumerate", data := .fields #[.none, .bool false, .ref i, rawInt 0, .none, .none] }
set_option maxHeartbeats 1000000 in
theorem enumT_made (a : Addr) (its : Array Value) :
    Meets (Builtin.«enumerate.__new__» ⟨[.type "enumerate", .ref a], []⟩)
      (fun _ R s => s.heap.IsTuple a its ∧ R (.ok (.ret (.ref (s.heap.push (tupIt a)).objs.size))) { s with heap := (s.heap.push (tupIt a)).push (enuO s.heap.objs.size) }) :=
  .of_wp fun P w A R s h => by
    have B := begins_tuple a its
    obtain ⟨hp, g, d, tk, os⟩ := s
    have ht := h.1
    have hr := h.2
    have sb := sub_enumerate
    have it1 : ∀ {A' : Around} {E Q : Value → Shared → Prop}, Q (.ref hp.objs.size) ⟨hp.push (tupIt a), g, d, tk, os⟩ →
        wpAny (model P w) A' (pyIter (.ref a)) Q E ⟨hp, g, d, tk, os⟩ :=
      fun q => B.iter P w _ _ ⟨hp, g, d, tk, os⟩ _ ht q
    wp_walk using it1
    refine wpAny_stack_any fun st => wpAny_pure ?_
    split
    · rename_i c _ _ _ _ _
      cases (c == Value.type "enumerate") <;> (wp_walk using it1) <;> exact ⟨_, rfl, hr⟩
    · wp_walk using it1
      exact ⟨_, rfl, hr⟩
section
variable {P : Program} {w : World} {A : Around} {E : Value → Shared → Prop} {s : Shared}
theorem enumT_call {a : Addr} {its : Array Value} {Q : Value → Shared → Prop} (ht : s.heap.IsTuple a its)
    (h : ∀ h' : Heap, IsEnum h' (s.heap.objs.size + 1) s.heap.objs.size 0 .none → h'.IsTupleIter s.heap.objs.size a 0 →
      (∀ b o, s.heap.get? b = some o → h'.get? b = some o) → Q (.ref (s.heap.objs.size + 1)) { s with heap := h' }) :
    wpAny (model P w) A (call (.type "enumerate") [.ref a]) Q E s := by
  refine callType_new F.called_enumerate (by decide) (F.typeCall_enumerate_1 _) (F.newCall_enumerate_1 _)
    (fun obj => F.args_object_init_2 obj _) F.entry_enumerate_new (enumT_made a its) ⟨ht, ?_⟩
  have sz : (s.heap.push (tupIt a)).objs.size = s.heap.objs.size + 1 := Heap.size_push ..
  have g1 : ((s.heap.push (tupIt a)).push (enuO s.heap.objs.size)).get? (s.heap.objs.size + 1) = some (enuO s.heap.objs.size) := by
    rw [← sz]; exact Heap.get?_push_size _ rfl
  show _ ∧ _
  rw [sz]
  refine ⟨⟨_, g1, rfl⟩, h _ g1 ⟨_, Heap.get?_push_of_some _ (Heap.get?_push_size _ rfl), rfl, rfl⟩ fun b o e => ?_⟩
  exact Heap.get?_push_of_some _ (Heap.get?_push_of_some _ e)
end
/-- a tuple's items, each in a new pair with its number -/
def ItT (K : PySem.W.Frag) (a : Addr) : It where
  go := fun i H => ∃ (vs : List V) (x : V), SqT K H a vs ∧ vs[i]? = some x
  yld := fun i H v H' => ∃ T x, v = .ref T ∧ H T = none ∧ H' = upd H T (.tup [.int (i : Nat), x]) ∧ ∀ vs, SqT K H a vs → vs[i]? = some x
  stop := fun i H => ∃ vs : List V, SqT K H a vs ∧ vs.length = i
theorem isTup_tuple {h : Heap} {a : Addr} {its : Array Value} (p : IsTup h a its) : h.IsTuple a its := p
theorem turn_T {P : Program} {w : World} {K : PySem.W.Frag} {elts : List Expr} {kk : Nat} {tpos : Pos} (a e it : Addr) :
    Turn P w K (.Tuple elts kk tpos) (ItT K a) [e, it] e
      (fun i h => (∃ old, IsEnum h e it ((i : Nat) : Int) old) ∧ h.IsTupleIter it a i ∧ e ≠ it ∧ a ≠ it ∧ a ≠ e) where
  mem := List.mem_cons_self
  obj := fun i h st b hb => by
    obtain ⟨⟨old, he⟩, ⟨o, ho, _, hd⟩, _⟩ := st
    rcases List.mem_cons.mp hb with rfl | hb
    · exact ⟨_, he, fun v q => nomatch q⟩
    · have := List.mem_singleton.mp hb
      subst this
      exact ⟨o, ho, fun v q => by rw [hd] at q; cases q⟩
  keep := fun i h h' st k => by
    obtain ⟨⟨old, he⟩, hi, hne⟩ := st
    exact ⟨⟨old, k e List.mem_cons_self _ he⟩, hi.at fun o q => k it (by simp) o q, hne⟩
  item := by
    intro X hP hw hK hc i pins s σ H E I hf st hg
    subst hP hw hK
    obtain ⟨⟨old, he⟩, hit, hne, na, nae⟩ := st
    obtain ⟨vs, x, hq, hx⟩ := hg
    obtain ⟨its, rv, p, _⟩ := I.tuple hq
    obtain ⟨u, hu, ru⟩ := rv.get hx
    have le : e < s.heap.objs.size := Heap.lt_size he
    have li : it < s.heap.objs.size := by obtain ⟨_, q, _⟩ := hit; exact Heap.lt_size q
    have hlt : i < its.toArray.size := by
      have := (List.getElem?_eq_some_iff.mp hu).1
      simpa using this
    refine wpAny_pyNext_enum_itemD (Draws.tuple (A := X.A.in1) (show X.A.in1.handled = none from I.ok.hd hc) it a na its.toArray) he ⟨hit, isTup_tuple p⟩ hlt hne (by simp [hne, Ne.symm nae]) ?_
    intro y h' tk hy ho st' hT _ hk
    have ey : y = u := by
      have : its.toArray[i]? = some u := by simpa using hu
      exact Option.some.inj (hy.symm.trans this)
    subst ey
    refine ⟨_, rfl, wpAny_letOwnedTupleGo_enum (s := { s with heap := h', toks := tk + 1 }) ho ?_⟩
    intro h'' he' sb
    have ho2 : h''.get? s.heap.objs.size = some { cls := .type "tuple", data := .seq #[.int i tk, y] } := (sb.2 _ (Nat.ne_of_gt le)).trans hT
    have ok2 : ObjOk X.prog X.w (upd H s.heap.objs.size (.tup [.int (i : Nat), x])) h'' s.heap.objs.size (.tup [.int (i : Nat), x]) :=
      ⟨by show 2 ≤ sizeLine; decide, [.int i tk, y], .cons ⟨_, rfl⟩ (.cons ru .nil), _, ho2, rfl, _, rfl⟩
    have I1 : Inv X pins σ (upd H s.heap.objs.size (.tup [.int (i : Nat), x])) { s with heap := h'', toks := tk + 1 } := by
      refine I.turnedNew (ch := [e, it]) (fun b ob hb q => ?_) hf (Nat.le_refl _) ok2
      have n1 : b ≠ e := fun z => hb (by simp [z])
      have n2 : b ≠ it := fun z => hb (by simp [z])
      exact (sb.2 b n1).trans (hk b ob n1 n2 q)
    refine ⟨.ref s.heap.objs.size, _, I1, rfl, ⟨_, x, rfl, I.hok.fresh (Nat.le_refl _), rfl, fun ws hw => ?_⟩, ⟨⟨y, ?_⟩, ?_, hne, na, nae⟩, fun b hb => ?_⟩
    · rw [I.tuple_inj hw hq]; exact hx
    · have e1 : ((i + 1 : Nat) : Int) = (i : Int) + 1 := by omega
      rw [e1]; exact he'
    · exact st'.1.at fun o q => (sb.2 it (Ne.symm hne)).trans q
    · have lb : b < s.heap.objs.size := by
        rcases List.mem_cons.mp hb with z | z
        · rw [z]; exact le
        · rw [List.mem_singleton.mp z]; exact li
      rw [upd_ne (Nat.ne_of_lt lb)]
      exact (hf b hb).1
  done := by
    intro X hP hw hK hc i pins s σ H E I hf st hg
    subst hP hw hK
    obtain ⟨⟨old, he⟩, hit, hne, na, nae⟩ := st
    obtain ⟨vs, hq, hx⟩ := hg
    obtain ⟨its, rv, p, _⟩ := I.tuple hq
    obtain ⟨f0, f1, f2, f3, f4, f5⟩ := hf it (by simp)
    have hl := rv.length
    have hn : its.toArray.size = i := by simp; omega
    subst hn
    refine wpAny_pyNext_enum_endD (Draws.tuple (A := X.A.in1) (show X.A.in1.handled = none from I.ok.hd hc) it a na its.toArray) he ⟨hit, isTup_tuple p⟩ ?_
    intro h' eb
    exact ⟨rfl, I.turned (t' := s.toks) (fun b o hb q => eb b o hb q) f0 f1 f3 f4 f5⟩
  self := fun A i s Q E st h => by
    obtain ⟨⟨_, he⟩, _⟩ := st
    exact wpAny_pyIter_enum he h
/-- enumerate(e), e a tuple -/
def iEnT (K : PySem.W.Frag) (ta : TA) : TI := fun σ H R => ta σ H fun vs H1 => ∃ (a : Addr) (xs : List V), vs = [V.ref a] ∧ SqT K H1 a xs ∧ R (ItT K a) H1
theorem pi_enT {X : Cx} {e : Expr} {ta : TA} {p pos tpos : Pos} {elts : List Expr} {kk : Nat} (hg : Gl X "enumerate") (hm : X.mg "enumerate" = none)
    (ha : PA X [e] ta) (hs : starEach [e] X.env = [(false, eval e X.env)]) : PI X (.Tuple elts kk tpos) (.Call (.Name "enumerate" p) [e] [] pos) (iEnT X.K ta) := by
  constructor
  intro pins s σ H R I h
  refine Call_ (ld_blt I hg hm boot_enumerate (PyProof.Rows.callWith_type1 (thn (ha.run pos pins s σ H _ I h) ?_) hs rfl))
  rintro us s1 ⟨vs, H1, I1, r1, a, xs, ex, hq, q⟩
  subst ex
  obtain ⟨u, rfl, rx⟩ := Vals.one r1
  cases rx
  obtain ⟨its, rv, p', _⟩ := I1.tuple hq
  have la : a < s1.heap.objs.size := p'.lt
  refine enumT_call (isTup_tuple p') fun h' he hit hk => wpAny_pyIter_enum he ?_
  have I2 : Inv X pins σ H1 { s1 with heap := h' } := I1.kept (t' := s1.toks) hk
  refine ⟨s1.heap.objs.size + 1, [s1.heap.objs.size + 1, s1.heap.objs.size], _, _, H1, rfl, I2, turn_T a _ _, ⟨⟨_, he⟩, hit, Nat.succ_ne_self _, Nat.ne_of_lt la, Nat.ne_of_lt (Nat.lt_succ_of_lt la)⟩, ?_, q⟩
  intro b hb
  have le : s1.heap.objs.size ≤ b := by
    rcases List.mem_cons.mp hb with z | z
    · rw [z]; exact Nat.le_succ _
    · rw [List.mem_singleton.mp z]; exact Nat.le_refl _
  exact I1.fpOk le (I1.hok.fresh le)
end WM

/-! WM: what is walked. -/
namespace WM
open PySem PySem.Spec PyProof.Rows L2
section
variable {K : PySem.W.Frag} {M : Nat → Bool} {bp : List (Nat × Addr)} {W : WX} {cls : Nat → Value} {Z : Fz} {fpf fpf' : Nat → List Addr} {Hb Hb' H H' : Hp} {σ : L2.St} {ρ ρ' : Env} {v u : V} {x y z : Vl} {fp fp1 fp2 : List Addr}

/-- lent, or data -/
def Lent (K : PySem.W.Frag) (F : Addr → Prop) (Hb H : Hp) (v : V) : Vl → Prop
  | .ow (.d d) => Rp K Hb v d
  | .bw o => ∃ f, RO K Hb H v o f ∧ ∀ a ∈ f, F a
  | _ => False
def KeptF (F : Addr → Prop) (Hb H H2 : Hp) : Prop := Same Hb H2 ∧ ∀ a, F a → H2 a = H a
def ItmR (K : PySem.W.Frag) (F : Addr → Prop) (Hb H H2 : Hp) (v : V) (H3 : Hp) : Itm → Prop
  | .one x => H3 = H2 ∧ Lent K F Hb H v x
  | .many xs => ∃ T x1 x2 y1 y2, xs = [x1, x2] ∧ v = .ref T ∧ H2 T = none ∧ H3 = upd H2 T (.tup [y1, y2]) ∧ Lent K F Hb H y1 x1 ∧ Lent K F Hb H y2 x2
structure ItR (K : PySem.W.Frag) (F : Addr → Prop) (Hb H : Hp) (J : It) (xs : List Itm) : Prop where
  go : ∀ i H2, KeptF F Hb H H2 → i < xs.length → J.go i H2
  stop : ∀ H2, KeptF F Hb H H2 → J.stop xs.length H2
  yld : ∀ i H2 v H3 t, KeptF F Hb H H2 → J.yld i H2 v H3 → xs[i]? = some t → ItmR K F Hb H H2 v H3 t
theorem Lent.wide {F F' : Addr → Prop} (h : ∀ a, F a → F' a) (l : Lent K F Hb H v x) : Lent K F' Hb H v x := by
  match x, l with
  | .ow (.d d), l => exact l
  | .bw o, ⟨f, h1, h2⟩ => exact ⟨f, h1, fun a ha => h a (h2 a ha)⟩
theorem ItR.wide {F F' : Addr → Prop} {J : It} {xs : List Itm} (h : ∀ a, F a → F' a) (r : ItR K F Hb H J xs) : ItR K F' Hb H J xs where
  go i H2 k hi := r.go i H2 ⟨k.1, fun a ha => k.2 a (h a ha)⟩ hi
  stop H2 k := r.stop H2 ⟨k.1, fun a ha => k.2 a (h a ha)⟩
  yld i H2 v H3 t k hy ht := by
    have q := r.yld i H2 v H3 t ⟨k.1, fun a ha => k.2 a (h a ha)⟩ hy ht
    cases t with
    | one x => exact ⟨q.1, q.2.wide h⟩
    | many ys =>
      obtain ⟨T', x1, x2, y1, y2, g1, g2, g3, g4, g5, g6⟩ := q
      exact ⟨T', x1, x2, y1, y2, g1, g2, g3, g4, g5.wide h, g6.wide h⟩
/-- what is lent, where it may be walked -/
def FM (M : Nat → Bool) (Z : Fz) : Addr → Prop := fun a => M noW = false ∧ Z.F a
theorem FM.sub {M : Nat → Bool} {Z : Fz} (a : Addr) (h : FM M Z a) : Z.F a := h.2
theorem itemsM_some {M : Nat → Bool} {x : Vl} {xs : List Vl} (h : itemsM M x = some xs) : x.items = some xs ∧ (x.isBw = true → M noW = false) := by
  unfold itemsM at h
  split at h
  · cases h
  · rename_i q
    refine ⟨h, fun hb => ?_⟩
    rw [hb, Bool.and_true] at q
    simpa using q
variable (K M bp W cls) in
def tI (f : Env → R (List Itm)) : TI := fun σ H Rk => ∃ Z fpf Hb ρ, StR K M bp Z fpf Hb H σ ρ ∧ Pst K M bp W cls Z Hb σ (f ρ) fun xs fpf' Hb' H' => ∀ J, ItR K (FM M Z) Hb' H' J xs → Rk J H'

/-- items by values -/
structure Src (K : PySem.W.Frag) (F : Addr → Prop) (Hb H : Hp) (vs : List V) (xs : List Vl) : Prop where
  len : vs.length = xs.length
  at_ : ∀ (i : Nat) (v : V) (x : Vl), vs[i]? = some v → xs[i]? = some x → Lent K F Hb H v x
theorem Src.data {F : Addr → Prop} {vs : List V} {ds : List D} (h : RpL K Hb vs ds) : Src K F Hb H vs (ds.map dv) :=
  ⟨by rw [List.length_map, h.length], fun i v x h1 h2 => by
    rw [List.getElem?_map] at h2
    obtain ⟨d, e1, e2⟩ := Option.map_eq_some_iff.mp h2
    subst e2
    obtain ⟨w, e3, e4⟩ := h.get e1
    rw [h1] at e3; cases e3
    exact e4⟩
theorem Src.lent {F : Addr → Prop} {vs : List V} {os : List Ow} {f : List Addr} (h : ROs K Hb H vs os f) (hF : ∀ a ∈ f, F a) : Src K F Hb H vs (os.map Ow.lend) :=
  ⟨by rw [List.length_map, h.length], fun i v x h1 h2 => by
    rw [List.getElem?_map] at h2
    obtain ⟨o, e1, e2⟩ := Option.map_eq_some_iff.mp h2
    subst e2
    obtain ⟨w, g, e3, e4, e5⟩ := h.get e1
    rw [h1] at e3; cases e3
    cases o with
    | d d => cases e4 with | d e4 => exact e4
    | l os => exact ⟨g, e4, fun a ha => hF a (e5 a ha)⟩
    | m _ _ => exact ⟨g, e4, fun a ha => hF a (e5 a ha)⟩⟩
/-- what the items of a value are, where it lies -/
inductive At (K : PySem.W.Frag) (F : Addr → Prop) (Hb H : Hp) : V → List Vl → Bool → Prop
  | tup {a : Addr} {vs : List V} {xs : List Vl} : SqT K Hb a vs → Src K F Hb H vs xs → At K F Hb H (.ref a) xs true
  | lst {a : Addr} {vs : List V} {xs : List Vl} : (∀ H2, KeptF F Hb H H2 → SqL K H2 a vs) → Src K F Hb H vs xs → At K F Hb H (.ref a) xs false
theorem items_at {xs : List Vl} (S : StR K M bp Z fpf Hb H σ ρ) (r : RVl K Z fpf Hb H v x fp) (h : itemsM M x = some xs) : ∃ Hb', Same Hb Hb' ∧ StR K M bp Z fpf Hb' H σ ρ ∧ At K (FM M Z) Hb' H v xs x.isT ∧ (∀ a, Hb' a ≠ none → Hb a ≠ none ∨ a ∈ fp) := by
  have h0 := itemsM_some h
  clear h
  obtain ⟨h, hbw⟩ := h0
  unfold Vl.items at h
  split at h
  · cases h
    obtain ⟨h, _⟩ := rp_d r
    cases h with
    | tup h1 h2 => exact ⟨Hb, fun _ _ e => e, S, .tup h1 (.data h2), fun _ h => .inl h⟩
  · cases h
    obtain ⟨h, _⟩ := rp_d r
    cases h with
    | lst h1 h2 => exact ⟨Hb, fun _ _ e => e, S, .lst (fun H2 k => SqL.of (k.1 _ _ h1)) (.data h2), fun _ h => .inl h⟩
  · rename_i ns
    cases h
    obtain ⟨h, _⟩ := rp_d r
    cases h with
    | scr h1 =>
      have e : (ns.map fun n => dv (.int n)) = (ns.map D.int).map dv := by rw [List.map_map]; rfl
      rw [e]
      exact ⟨Hb, fun _ _ e => e, S, .lst (fun H2 k => k.1.seq h1) (.data RpL.ints), fun _ h => .inl h⟩
  · rename_i os
    cases h
    obtain ⟨S', e'⟩ := S.froze (fun a ha => (r.1.at_ a ha).1) r.2.1 r.2.2
    have hr : Rp K (froze Hb H fp) v (.lst (Ow.toDs os)) := RO.frz e' _ v fp r.1 fun a h => h
    have e : (os.map fun o => dv o.toD) = (Ow.toDs os).map dv := by rw [Ow.toDs_eq, List.map_map]; rfl
    rw [e]
    cases hr with
    | lst h1 h2 => exact ⟨_, e', S', .lst (fun H2 k => SqL.of (k.1 _ _ h1)) (.data h2), fun a ha => by
        unfold froze at ha
        split at ha
        · rename_i hm; exact .inr hm
        · exact .inl ha⟩
  · rename_i os
    cases h
    obtain ⟨f0, r, hF, _⟩ := r
    obtain ⟨p, vs, f, e1, e2, e3, e4, _⟩ := r.sub
    subst e1
    refine ⟨Hb, fun _ _ e => e, S, .lst (fun H2 k => SqL.of ?_) (.lent e3 fun a ha => ⟨hbw rfl, hF a (by rw [e4]; exact List.mem_cons_of_mem _ ha)⟩), fun _ h => .inl h⟩
    rw [k.2 p ⟨hbw rfl, hF p (by rw [e4]; exact List.mem_cons_self)⟩]
    exact e2
  · cases h
theorem get_of {α β : Type} {xs : List α} {ys : List β} (h : xs.length = ys.length) {i : Nat} (hi : i < ys.length) : ∃ x y, xs[i]? = some x ∧ ys[i]? = some y :=
  ⟨xs[i]'(by omega), ys[i], List.getElem?_eq_getElem _, List.getElem?_eq_getElem _⟩
theorem itT {F : Addr → Prop} {a : Addr} {vs : List V} {xs : List Vl} (h : SqT K Hb a vs) (s : Src K F Hb H vs xs) : ItR K F Hb H (Itt K a) (xs.map Itm.one) where
  go := fun i H2 k hi => by
    rw [List.length_map] at hi
    obtain ⟨v, x, h1, _⟩ := get_of s.len hi
    exact ⟨vs, v, same_t k.1 h, h1⟩
  stop := fun H2 k => ⟨vs, same_t k.1 h, by rw [List.length_map, s.len]; exact Nat.le_refl _⟩
  yld := fun i H2 v H3 t k y ht => by
    obtain ⟨e, y⟩ := y
    rw [List.getElem?_map] at ht
    obtain ⟨x, e1, e2⟩ := Option.map_eq_some_iff.mp ht
    subst e2
    exact ⟨e, s.at_ i v x (y vs (same_t k.1 h)) e1⟩
theorem itL {F : Addr → Prop} {a : Addr} {vs : List V} {xs : List Vl} (h : ∀ H2, KeptF F Hb H H2 → SqL K H2 a vs) (s : Src K F Hb H vs xs) : ItR K F Hb H (Itl K a) (xs.map Itm.one) where
  go := fun i H2 k hi => by
    rw [List.length_map] at hi
    obtain ⟨v, x, h1, _⟩ := get_of s.len hi
    exact ⟨vs, v, h H2 k, h1⟩
  stop := fun H2 k => ⟨vs, h H2 k, by rw [List.length_map, s.len]; exact Nat.le_refl _⟩
  yld := fun i H2 v H3 t k y ht => by
    obtain ⟨e, y⟩ := y
    rw [List.getElem?_map] at ht
    obtain ⟨x, e1, e2⟩ := Option.map_eq_some_iff.mp ht
    subst e2
    exact ⟨e, s.at_ i v x (y vs (h H2 k)) e1⟩
theorem itRg {F : Addr → Prop} {lo : Int} {n : Nat} : ItR K F Hb H (Itr lo n) (rngI lo n) where
  go := fun i H2 k hi => by
    show i < n
    simpa [rngI] using hi
  stop := fun H2 k => by show n ≤ _; simp [rngI]
  yld := fun i H2 v H3 t k y ht => by
    obtain ⟨e, y⟩ := y
    unfold rngI at ht
    rw [List.getElem?_map] at ht
    obtain ⟨j, e1, e2⟩ := Option.map_eq_some_iff.mp ht
    have : j = i := by
      obtain ⟨hl, e⟩ := List.getElem?_eq_some_iff.mp e1
      simpa using e.symm
    subst this
    subst e2
    exact ⟨e, y ▸ .int _⟩
theorem enumI_get : ∀ (xs : List Vl) (j : Int) (i : Nat) (t : Itm), (enumI j xs)[i]? = some t → ∃ x, xs[i]? = some x ∧ t = .many [dv (.int (j + i)), x]
  | [], _, _, _, h => by simp [enumI] at h
  | x :: xs, j, 0, t, h => by
    simp [enumI] at h
    exact ⟨x, rfl, by rw [← h]; simp⟩
  | x :: xs, j, i + 1, t, h => by
    obtain ⟨y, h1, h2⟩ := enumI_get xs (j + 1) i t (by simpa [enumI] using h)
    refine ⟨y, by simpa using h1, ?_⟩
    rw [h2]
    have : j + 1 + (i : Int) = j + ((i + 1 : Nat) : Int) := by omega
    rw [this]
theorem enumI_len : ∀ (xs : List Vl) (j : Int), (enumI j xs).length = xs.length
  | [], _ => rfl
  | x :: xs, j => by simp [enumI, enumI_len xs]
theorem itET {F : Addr → Prop} {a : Addr} {vs : List V} {xs : List Vl} (h : SqT K Hb a vs) (s : Src K F Hb H vs xs) : ItR K F Hb H (ItT K a) (enumI 0 xs) where
  go := fun i H2 k hi => by
    rw [enumI_len] at hi
    obtain ⟨v, x, h1, _⟩ := get_of s.len hi
    exact ⟨vs, v, same_t k.1 h, h1⟩
  stop := fun H2 k => ⟨vs, same_t k.1 h, by rw [enumI_len, s.len]⟩
  yld := fun i H2 v H3 t k y ht => by
    obtain ⟨T, w, e1, e2, e3, y⟩ := y
    obtain ⟨x, g1, g2⟩ := enumI_get xs 0 i t ht
    subst g2
    exact ⟨T, _, x, .int (i : Nat), w, rfl, e1, e2, e3, by rw [Int.zero_add]; exact .int _, s.at_ i w x (y vs (same_t k.1 h)) g1⟩
theorem itEL {F : Addr → Prop} {a : Addr} {vs : List V} {xs : List Vl} (h : ∀ H2, KeptF F Hb H H2 → SqL K H2 a vs) (s : Src K F Hb H vs xs) : ItR K F Hb H (Ite K a) (enumI 0 xs) where
  go := fun i H2 k hi => by
    rw [enumI_len] at hi
    obtain ⟨v, x, h1, _⟩ := get_of s.len hi
    exact ⟨vs, v, h H2 k, h1⟩
  stop := fun H2 k => ⟨vs, h H2 k, by rw [enumI_len, s.len]; exact Nat.le_refl _⟩
  yld := fun i H2 v H3 t k y ht => by
    obtain ⟨T, w, e1, e2, e3, y⟩ := y
    obtain ⟨x, g1, g2⟩ := enumI_get xs 0 i t ht
    subst g2
    exact ⟨T, _, x, .int (i : Nat), w, rfl, e1, e2, e3, by rw [Int.zero_add]; exact .int _, s.at_ i w x (y vs (h H2 k)) g1⟩
theorem zipI_get : ∀ (xs ys : List Vl) (i : Nat) (t : Itm), (zipI xs ys)[i]? = some t → ∃ x y, xs[i]? = some x ∧ ys[i]? = some y ∧ t = .many [x, y]
  | [], _, _, _, h => by simp [zipI] at h
  | _ :: _, [], _, _, h => by simp [zipI] at h
  | x :: xs, y :: ys, 0, t, h => by
    simp [zipI] at h
    exact ⟨x, y, rfl, rfl, h.symm⟩
  | x :: xs, y :: ys, i + 1, t, h => by
    obtain ⟨a, b, h1, h2, h3⟩ := zipI_get xs ys i t (by simpa [zipI] using h)
    exact ⟨a, b, by simpa using h1, by simpa using h2, h3⟩
theorem zipI_len : ∀ (xs ys : List Vl), (zipI xs ys).length = min xs.length ys.length
  | [], _ => by simp [zipI]
  | _ :: _, [] => by simp [zipI]
  | x :: xs, y :: ys => by simp only [zipI, List.length_cons, zipI_len xs ys]; omega
theorem itZT {F : Addr → Prop} {a b : Addr} {vs ws : List V} {xs ys : List Vl} (h : SqT K Hb a vs) (s : Src K F Hb H vs xs) (h' : SqT K Hb b ws) (s' : Src K F Hb H ws ys) : ItR K F Hb H (RZ.ItzT K a b) (zipI xs ys) where
  go := fun i H2 k hi => by
    rw [zipI_len] at hi
    obtain ⟨v, x, h1, _⟩ := get_of s.len (i := i) (by omega)
    obtain ⟨w, y, h2, _⟩ := get_of s'.len (i := i) (by omega)
    exact ⟨vs, ws, v, w, same_t k.1 h, same_t k.1 h', h1, h2⟩
  stop := fun H2 k => ⟨vs, ws, same_t k.1 h, same_t k.1 h', by rw [zipI_len, s.len, s'.len]; omega⟩
  yld := fun i H2 v H3 t k y ht => by
    obtain ⟨T, w1, w2, e1, e2, e3, y1, y2⟩ := y
    obtain ⟨x, y, g1, g2, g3⟩ := zipI_get xs ys i t ht
    subst g3
    exact ⟨T, x, y, w1, w2, rfl, e1, e2, e3, s.at_ i w1 x (y1 vs (same_t k.1 h)) g1, s'.at_ i w2 y (y2 ws (same_t k.1 h')) g2⟩
theorem itZL {F : Addr → Prop} {a b : Addr} {vs ws : List V} {xs ys : List Vl} (h : ∀ H2, KeptF F Hb H H2 → SqL K H2 a vs) (s : Src K F Hb H vs xs) (h' : ∀ H2, KeptF F Hb H H2 → SqL K H2 b ws) (s' : Src K F Hb H ws ys) : ItR K F Hb H (Itz K a b) (zipI xs ys) where
  go := fun i H2 k hi => by
    rw [zipI_len] at hi
    obtain ⟨v, x, h1, _⟩ := get_of s.len (i := i) (by omega)
    obtain ⟨w, y, h2, _⟩ := get_of s'.len (i := i) (by omega)
    exact ⟨vs, ws, v, w, h H2 k, h' H2 k, h1, h2⟩
  stop := fun H2 k => ⟨vs, ws, h H2 k, h' H2 k, by rw [zipI_len, s.len, s'.len]; omega⟩
  yld := fun i H2 v H3 t k y ht => by
    obtain ⟨T, w1, w2, e1, e2, e3, y1, y2⟩ := y
    obtain ⟨x, y, g1, g2, g3⟩ := zipI_get xs ys i t ht
    subst g3
    exact ⟨T, x, y, w1, w2, rfl, e1, e2, e3, s.at_ i w1 x (y1 vs (h H2 k)) g1, s'.at_ i w2 y (y2 ws (h' H2 k)) g2⟩
end
end WM

/-! WM: what is walked, as the syntax has it; targets; comprehensions. -/
namespace WM
open PySem PySem.Spec PyProof.Rows L2
section
variable {K : PySem.W.Frag} {M : Nat → Bool} {bp : List (Nat × Addr)} {W : WX} {cls : Nat → Value} {Z : Fz} {fpf fpf' : Nat → List Addr} {Hb Hb' H H' : Hp} {σ : L2.St} {ρ ρ' : Env} {v u : V} {x y z : Vl} {fp fp1 fp2 : List Addr}

theorem At.mono {xs : List Vl} {b : Bool} (S' : StR K M bp Z fpf Hb' H σ ρ) (e : Same Hb Hb') (h : At K (FM M Z) Hb H v xs b) : At K (FM M Z) Hb' H v xs b := by
  have lm : ∀ {w : V} {x : Vl}, Lent K (FM M Z) Hb H w x → Lent K (FM M Z) Hb' H w x := fun {w x} l => by
    match x, l with
    | .ow (.d d), l => exact Rp.mono e d w l
    | .bw o, ⟨f, h1, h2⟩ => exact ⟨f, RO.mono e o w f (fun a ha => ⟨rfl, (S'.fr a (.inl (h2 a ha).2)).2.1⟩) h1, h2⟩
  cases h with
  | tup h s => exact .tup (same_t e h) ⟨s.len, fun i v x h1 h2 => lm (s.at_ i v x h1 h2)⟩
  | lst h s => exact .lst (fun H2 k => h H2 ⟨e.trans k.1, k.2⟩) ⟨s.len, fun i v x h1 h2 => lm (s.at_ i v x h1 h2)⟩
section
variable {X : Cx} {tg e e2 : Expr} {fa fb : Env → R Vl}
theorem one_arg {t : TE} (h : PE X e t) (ns : notStar e = true) : PA X [e] (tCons t tNil) := pa_cons h pa_nil (star_ok [] X.env ns)
theorem piE (ha : PE X e (tE X.K M bp W cls fa)) : PI X tg e (tI X.K M bp W cls fun ρ => (fa ρ).bind fun x ρ1 => R.of ((itemsM M x).map fun xs => xs.map Itm.one) ρ1) := by
  constructor
  intro pins s σ H Rk I h
  obtain ⟨Z, fpf, Hb, ρ, S, q⟩ := h
  have core : ∀ b : Bool, (∀ x ρ1, fa ρ = .ok x ρ1 → x.isT = b) → (if b then iTup X.K (tE X.K M bp W cls fa) σ H Rk else iList X.K (tE X.K M bp W cls fa) σ H Rk) := fun b hb => by
    have main : ∀ x ρ1 fpf1 Hb1 H1 v fp, Same Hb Hb1 → StR X.K M bp Z fpf1 Hb1 H1 σ ρ1 → RVl X.K Z fpf1 Hb1 H1 v x fp → Pst X.K M bp W cls Z Hb1 σ (R.of ((itemsM M x).map fun xs => xs.map Itm.one) ρ1) (fun xs fpf' Hb' H' => ∀ J, ItR X.K (FM M Z) Hb' H' J xs → Rk J H') →
        (∃ a xs, x.isT = true ∧ v = .ref a ∧ SqT X.K H1 a xs ∧ Rk (Itt X.K a) H1) ∨ (∃ a xs, x.isT = false ∧ v = .ref a ∧ SqL X.K H1 a xs ∧ Rk (Itl X.K a) H1) := by
      intro x ρ1 fpf1 Hb1 H1 v fp e1 S1 r1 q1
      obtain ⟨ts, et, q2⟩ := q1.of S1
      obtain ⟨xs, ei, rfl⟩ := Option.map_eq_some_iff.mp et
      obtain ⟨Hb2, e2, S2, at2, _⟩ := items_at S1 r1 ei
      cases hT : x.isT with
      | true =>
        rw [hT] at at2
        cases at2 with
        | tup h s => exact .inl ⟨_, _, rfl, rfl, same_t S2.ex h, q2 Hb2 H1 fpf1 e2 S2 _ (itT h s)⟩
      | false =>
        rw [hT] at at2
        cases at2 with
        | lst h s => exact .inr ⟨_, _, rfl, rfl, h H1 ⟨S2.ex, fun _ _ => rfl⟩, q2 Hb2 H1 fpf1 e2 S2 _ (itL h s)⟩
    cases b with
    | true =>
      refine ⟨Z, fpf, Hb, ρ, S, q.bind.imp fun x ρ1 fpf1 Hb1 H1 e e1 S1 q v fp r => ?_⟩
      rcases main x ρ1 fpf1 Hb1 H1 v fp e1 S1 r (q ρ1 e S1) with ⟨a, xs, hT, h1, h2, h3⟩ | ⟨a, xs, hT, _⟩
      · exact ⟨a, h1, ⟨xs, h2⟩, h3⟩
      · rw [hb x ρ1 e] at hT; cases hT
    | false =>
      refine ⟨Z, fpf, Hb, ρ, S, q.bind.imp fun x ρ1 fpf1 Hb1 H1 e e1 S1 q v fp r => ?_⟩
      rcases main x ρ1 fpf1 Hb1 H1 v fp e1 S1 r (q ρ1 e S1) with ⟨a, xs, hT, _⟩ | ⟨a, xs, hT, h1, h2, h3⟩
      · rw [hb x ρ1 e] at hT; cases hT
      · exact ⟨a, h1, ⟨xs, h2⟩, h3⟩
  cases hf : fa ρ with
  | ok x ρ1 =>
    cases hT : x.isT with
    | true =>
      have c := core true fun y ρ2 e => by rw [hf] at e; cases e; exact hT
      exact (pi_tup ha).run pins s σ H Rk I c
    | false =>
      have c := core false fun y ρ2 e => by rw [hf] at e; cases e; exact hT
      exact (pi_list ha).run pins s σ H Rk I c
  | exc c ρ1 =>
    have c := core true fun y ρ2 e => by rw [hf] at e; cases e
    exact (pi_tup ha).run pins s σ H Rk I c
  | bad =>
    dsimp only at q
    rw [hf] at q
    exact q.elim
theorem inSmall_of {i : Int} (h : inSmall i = true) : -(2 ^ 62) ≤ i ∧ i < 2 ^ 62 := by
  unfold inSmall at h
  simpa [Bool.and_eq_true] using h
theorem piR1 {p pos : Pos} (ha : PE X e (tE X.K M bp W cls fa)) (ns : notStar e = true) (hg : Gl X "range") (hm : X.mg "range" = none) : PI X tg (.Call (.Name "range" p) [e] [] pos) (tI X.K M bp W cls fun ρ => (fa ρ).bind fun x ρ1 => match x with
    | .ow (.d (.int n)) => if inSmall n then .ok (rngI 0 n.toNat) ρ1 else .bad
    | _ => .bad) := by
  have h := pi_range1 (tg := tg) (p := p) (pos := pos) hg hm (one_arg ha ns) (star_ok [] X.env ns)
  refine ⟨fun pins s σ H Rk I q => h.run pins s σ H Rk I ?_⟩
  obtain ⟨Z, fpf, Hb, ρ, S, q⟩ := q
  refine tE_then S q fun x ρ1 fpf1 Hb1 H1 v fp e1 S1 r1 q1 => ?_
  show ∃ j : Int, [v] = [V.int j] ∧ _ ∧ _ ∧ _
  split at q1
  · rename_i n
    have := rp_int r1
    subst this
    split at q1
    · rename_i hs
      exact ⟨n, rfl, (inSmall_of hs).1, (inSmall_of hs).2, q1 Hb1 H1 fpf1 (fun _ _ e => e) S1 _ itRg⟩
    · exact q1.elim
  · exact q1.elim
theorem two_arg {t t2 : TE} (h : PE X e t) (h2 : PE X e2 t2) (ns : notStar e = true) (ns2 : notStar e2 = true) : PA X [e, e2] (tCons t (tCons t2 tNil)) := pa_cons h (one_arg h2 ns2) (star_ok [e2] X.env ns)
theorem star2 (ns : notStar e = true) (ns2 : notStar e2 = true) : starEach [e, e2] X.env = (false, eval e X.env) :: starEach [e2] X.env := star_ok [e2] X.env ns
theorem piR2 {p pos : Pos} (ha : PE X e (tE X.K M bp W cls fa)) (hb : PE X e2 (tE X.K M bp W cls fb)) (ns : notStar e = true) (ns2 : notStar e2 = true) (hg : Gl X "range") (hm : X.mg "range" = none) : PI X tg (.Call (.Name "range" p) [e, e2] [] pos) (tI X.K M bp W cls fun ρ => (fa ρ).bind fun x ρ1 => (fb ρ1).bind fun y ρ2 => match x, y with
    | .ow (.d (.int i)), .ow (.d (.int j)) => if inSmall i && inSmall j then .ok (rngI i (j - i).toNat) ρ2 else .bad
    | _, _ => .bad) := by
  have h := pi_range2 (tg := tg) (p := p) (pos := pos) hg hm (two_arg ha hb ns ns2) (by rw [star2 ns ns2, star_ok [] X.env ns2]; rfl) (star_ok [] X.env ns2)
  refine ⟨fun pins s σ H Rk I q => h.run pins s σ H Rk I ?_⟩
  obtain ⟨Z, fpf, Hb, ρ, S, q⟩ := q
  refine tE_two (Q := fun v u H2 => iRng2 (fun _ H Q => Q [v, u] H) σ H2 Rk) S q fun x y ρ2 fpf2 Hb2 H2 v u fp1 fp2 e2 S2 r1 r2 dj q1 => ?_
  show ∃ i j : Int, [v, u] = [V.int i, V.int j] ∧ _ ∧ _
  split at q1
  · rename_i i j
    have := rp_int r1
    have := rp_int r2
    subst v u
    split at q1
    · rename_i hs
      rw [Bool.and_eq_true] at hs
      exact ⟨i, j, rfl, ⟨(inSmall_of hs.1).1, (inSmall_of hs.1).2, (inSmall_of hs.2).1, (inSmall_of hs.2).2⟩, q1 Hb2 H2 fpf2 (fun _ _ e => e) S2 _ itRg⟩
    · exact q1.elim
  · exact q1.elim
theorem itRgC {F : Addr → Prop} {lo c : Int} {n : Nat} : ItR K F Hb H (Itc lo c n) (rngC lo c n) where
  go := fun i H2 k hi => by
    show i < n
    simpa [rngC] using hi
  stop := fun H2 k => by show n ≤ _; simp [rngC]
  yld := fun i H2 v H3 t k y ht => by
    obtain ⟨e, y⟩ := y
    unfold rngC at ht
    rw [List.getElem?_map] at ht
    obtain ⟨j, e1, e2⟩ := Option.map_eq_some_iff.mp ht
    have : j = i := by
      obtain ⟨hl, e⟩ := List.getElem?_eq_some_iff.mp e1
      simpa using e.symm
    subst this
    subst e2
    exact ⟨e, y ▸ .int _⟩
theorem rngV_of {i j c : Int} {ts : List Itm} (h : rngV i j c = some ts) : ∃ n, RgC i j c n ∧ ts = rngC i c n := by
  unfold rngV at h
  split at h
  · rename_i hc
    simp only [Bool.and_eq_true, decide_eq_true_eq] at hc
    cases h
    exact ⟨_, ⟨hc.1.1.1, hc.1.1.2, hc.1.2, (Int.toNat_of_nonneg hc.2).symm⟩, rfl⟩
  · cases h
theorem piR3 {p pos : Pos} {c : Int} {kd : Nat} {cp : Pos} (hc : PE X (.Constant (.int c) kd cp) (fun _ H Q => Q (.int c) H)) (ha : PE X e (tE X.K M bp W cls fa)) (hb : PE X e2 (tE X.K M bp W cls fb)) (ns : notStar e = true) (ns2 : notStar e2 = true) (hg : Gl X "range") (hm : X.mg "range" = none) : PI X tg (.Call (.Name "range" p) [e, e2, .Constant (.int c) kd cp] [] pos) (tI X.K M bp W cls fun ρ => (fa ρ).bind fun x ρ1 => (fb ρ1).bind fun y ρ2 => match x, y with
    | .ow (.d (.int i)), .ow (.d (.int j)) => R.of (rngV i j c) ρ2
    | _, _ => .bad) := by
  have nc : notStar (.Constant (.int c) kd cp) = true := rfl
  have h := pi_range3 (tg := tg) (p := p) (pos := pos) hg hm (pa_cons ha (two_arg hb hc ns2 nc) (star_ok [e2, .Constant (.int c) kd cp] X.env ns)) (star_ok [e2, .Constant (.int c) kd cp] X.env ns) (by
    rw [star2 ns2 nc, star_ok [] X.env nc]; rfl)
  refine ⟨fun pins s σ H Rk I q => h.run pins s σ H Rk I ?_⟩
  obtain ⟨Z, fpf, Hb, ρ, S, q⟩ := q
  refine tE_two (Q := fun v u H2 => iRng3 (fun _ H Q => Q [v, u, .int c] H) σ H2 Rk) S q fun x y ρ2 fpf2 Hb2 H2 v u fp1 fp2 e2 S2 r1 r2 dj q1 => ?_
  show ∃ (i j k : Int) (n : Nat), [v, u, V.int c] = [V.int i, V.int j, V.int k] ∧ _ ∧ _
  split at q1
  · rename_i i j
    have := rp_int r1
    have := rp_int r2
    subst v u
    obtain ⟨ts, et, q3⟩ := q1.of S2
    obtain ⟨n, hn, rfl⟩ := rngV_of et
    exact ⟨i, j, c, n, rfl, hn, q3 Hb2 H2 fpf2 (fun _ _ e => e) S2 _ itRgC⟩
  · exact q1.elim
theorem piEn {p pos tpos : Pos} {elts : List Expr} {kk : Nat} (ha : PE X e (tE X.K M bp W cls fa)) (ns : notStar e = true) (hg : Gl X "enumerate") (hm : X.mg "enumerate" = none) : PI X (.Tuple elts kk tpos) (.Call (.Name "enumerate" p) [e] [] pos) (tI X.K M bp W cls fun ρ => (fa ρ).bind fun x ρ1 => R.of ((itemsM M x).map fun xs => enumI 0 xs) ρ1) := by
  constructor
  intro pins s σ H Rk I h
  obtain ⟨Z, fpf, Hb, ρ, S, q⟩ := h
  have main : ∀ x ρ1 fpf1 Hb1 H1 v fp, Same Hb Hb1 → StR X.K M bp Z fpf1 Hb1 H1 σ ρ1 → RVl X.K Z fpf1 Hb1 H1 v x fp → Pst X.K M bp W cls Z Hb1 σ (R.of ((itemsM M x).map fun xs => enumI 0 xs) ρ1) (fun xs fpf' Hb' H' => ∀ J, ItR X.K (FM M Z) Hb' H' J xs → Rk J H') →
      (∃ a xs, x.isT = true ∧ v = .ref a ∧ SqT X.K H1 a xs ∧ Rk (ItT X.K a) H1) ∨ (∃ a xs, x.isT = false ∧ v = .ref a ∧ SqL X.K H1 a xs ∧ Rk (Ite X.K a) H1) := by
    intro x ρ1 fpf1 Hb1 H1 v fp e1 S1 r1 q1
    obtain ⟨ts, et, q2⟩ := q1.of S1
    obtain ⟨xs, ei, rfl⟩ := Option.map_eq_some_iff.mp et
    obtain ⟨Hb2, e2, S2, at2, _⟩ := items_at S1 r1 ei
    cases hT : x.isT with
    | true =>
      rw [hT] at at2
      cases at2 with
      | tup h s => exact .inl ⟨_, _, rfl, rfl, same_t S2.ex h, q2 Hb2 H1 fpf1 e2 S2 _ (itET h s)⟩
    | false =>
      rw [hT] at at2
      cases at2 with
      | lst h s => exact .inr ⟨_, _, rfl, rfl, h H1 ⟨S2.ex, fun _ _ => rfl⟩, q2 Hb2 H1 fpf1 e2 S2 _ (itEL h s)⟩
  have coreT : (∀ x ρ1, fa ρ = .ok x ρ1 → x.isT = true) → iEnT X.K (tCons (tE X.K M bp W cls fa) tNil) σ H Rk := fun hb => by
    refine ⟨Z, fpf, Hb, ρ, S, q.bind.imp fun x ρ1 fpf1 Hb1 H1 e e1 S1 q v fp r => ?_⟩
    show ∃ a xs, [v] = [V.ref a] ∧ _
    rcases main x ρ1 fpf1 Hb1 H1 v fp e1 S1 r (q ρ1 e S1) with ⟨a, xs, hT, h1, h2, h3⟩ | ⟨a, xs, hT, _⟩
    · exact ⟨a, xs, by rw [h1], h2, h3⟩
    · rw [hb x ρ1 e] at hT; cases hT
  have coreF : (∀ x ρ1, fa ρ = .ok x ρ1 → x.isT = false) → iEnum X.K (tCons (tE X.K M bp W cls fa) tNil) σ H Rk := fun hb => by
    refine ⟨Z, fpf, Hb, ρ, S, q.bind.imp fun x ρ1 fpf1 Hb1 H1 e e1 S1 q v fp r => ?_⟩
    show ∃ a xs, [v] = [V.ref a] ∧ _
    rcases main x ρ1 fpf1 Hb1 H1 v fp e1 S1 r (q ρ1 e S1) with ⟨a, xs, hT, _⟩ | ⟨a, xs, hT, h1, h2, h3⟩
    · rw [hb x ρ1 e] at hT; cases hT
    · exact ⟨a, xs, by rw [h1], h2, h3⟩
  have runT := fun c => (pi_enT (p := p) (pos := pos) (tpos := tpos) (elts := elts) (kk := kk) hg hm (one_arg ha ns) (star_ok [] X.env ns)).run pins s σ H Rk I c
  have runF := fun c => (pi_enum (p := p) (pos := pos) (tpos := tpos) (elts := elts) (kk := kk) hg hm (one_arg ha ns) (star_ok [] X.env ns)).run pins s σ H Rk I c
  cases hf : fa ρ with
  | ok x ρ1 =>
    cases hT : x.isT with
    | true => exact runT (coreT fun y ρ2 e => by rw [hf] at e; cases e; exact hT)
    | false => exact runF (coreF fun y ρ2 e => by rw [hf] at e; cases e; exact hT)
  | exc c ρ1 => exact runT (coreT fun y ρ2 e => by rw [hf] at e; cases e)
  | bad =>
    dsimp only at q
    rw [hf] at q
    exact q.elim
theorem RVl.stepF (S : StR K M bp Z fpf Hb H σ ρ) (e : Same Hb Hb') (r : RVl K Z fpf Hb H v x fp) (n : ∀ a ∈ fp, Hb' a = none) (nF : ∀ a, Z.F a → Hb' a = none) : RVl K Z fpf Hb' H v x fp := by
  cases x with
  | ow o => exact ⟨RO.mono e o v fp (fun a ha => ⟨rfl, n a ha⟩) r.1, r.2⟩
  | bw o => obtain ⟨f, h1, h2, h3⟩ := r; exact ⟨f, RO.mono e o v f (fun a ha => ⟨rfl, nF a (h2 a ha)⟩) h1, h2, h3⟩
theorem piZ {p pos tpos : Pos} {elts : List Expr} {kk : Nat} (ha : PE X e (tE X.K M bp W cls fa)) (hb : PE X e2 (tE X.K M bp W cls fb)) (ns : notStar e = true) (ns2 : notStar e2 = true) (hg : Gl X "zip") (hm : X.mg "zip" = none) : PI X (.Tuple elts kk tpos) (.Call (.Name "zip" p) [e, e2] [] pos) (tI X.K M bp W cls fun ρ => (fa ρ).bind fun x ρ1 => (fb ρ1).bind fun y ρ2 => R.of (zipV M x y) ρ2) := by
  have h := RZ.pi_zipA (p := p) (pos := pos) (tpos := tpos) (elts := elts) (kk := kk) hg hm (two_arg ha hb ns ns2) (star2 ns ns2) (by rw [star_ok [] X.env ns2]; rfl)
  refine ⟨fun pins s σ H Rk I q => h.run pins s σ H Rk I ?_⟩
  obtain ⟨Z, fpf, Hb, ρ, S, q⟩ := q
  refine tE_two (Q := fun v u H2 => RZ.iZipA X.K (fun _ H Q => Q [v, u] H) σ H2 Rk) S q fun x y ρ2 fpf2 Hb2 H2 v u fp1 fp2 e2 S2 r1 r2 dj q1 => ?_
  obtain ⟨ts, et, q2⟩ := q1.of S2
  unfold zipV at et
  split at et
  · rename_i hk
    split at et
    · rename_i xs ys ex ey
      cases et
      obtain ⟨Hb3, e3, S3, at3, nn⟩ := items_at S2 r1 ex
      have hbn : ∀ a, Hb2 a = none → a ∉ fp1 → Hb3 a = none := fun a h1 h2 => by
        cases q : Hb3 a with
        | none => rfl
        | some o =>
          rcases nn a (by rw [q]; exact nofun) with h | h
          · exact absurd h1 h
          · exact absurd h h2
      have r2' : RVl X.K Z fpf2 Hb3 H2 u y fp2 := by
        refine r2.stepF S2 e3 (fun a ha => hbn a ?_ fun h => dj a h ha) fun a ha => (S3.fr a (.inl ha)).2.1
        cases y with
        | ow o => exact (r2.1.at_ a ha).1
        | bw o => obtain ⟨f, _, _, h⟩ := r2; subst h; cases ha
      obtain ⟨Hb4, e4, S4, at4, _⟩ := items_at S3 r2' ey
      have at3' := at3.mono S4 e4
      have fin := q2 Hb4 H2 fpf2 (e3.trans e4) S4
      rw [← hk] at at4
      cases hT : x.isT with
      | true =>
        rw [hT] at at3' at4
        cases at3' with
        | tup h s =>
          cases at4 with
          | tup h' s' => exact ⟨_, _, _, _, rfl, .inr ⟨same_t S4.ex h, same_t S4.ex h', fin _ (itZT h s h' s')⟩⟩
      | false =>
        rw [hT] at at3' at4
        cases at3' with
        | lst h s =>
          cases at4 with
          | lst h' s' => exact ⟨_, _, _, _, rfl, .inl ⟨h H2 ⟨S4.ex, fun _ _ => rfl⟩, h' H2 ⟨S4.ex, fun _ _ => rfl⟩, fin _ (itZL h s h' s')⟩⟩
    · cases et
  · cases et
end
end
end WM

/-! a text's signs, one by one -/
namespace WM
open PySem PySem.Spec PyProof.Rows L2
section
variable {K : PySem.W.Frag} {Hb H : Hp}
theorem itS {F : Addr → Prop} {z : Str} : ItR K F Hb H (Its z) (signI z) where
  go := fun i H2 k hi => by
    show i < z.cps.size
    simpa [signI] using hi
  stop := fun H2 k => by show z.cps.size ≤ _; simp [signI]
  yld := fun i H2 v H3 t k y ht => by
    obtain ⟨e, c, hc, rfl⟩ := y
    unfold signI at ht
    rw [List.getElem?_map] at ht
    obtain ⟨c', e1, e2⟩ := Option.map_eq_some_iff.mp ht
    subst e2
    rw [Array.getElem?_toList, hc] at e1
    cases e1
    exact ⟨e, .str _⟩
end
section
variable {K : PySem.W.Frag} {M : Nat → Bool} {bp : List (Nat × Addr)} {W : WX} {cls : Nat → Value} {X : Cx} {tg e : Expr} {fa : Env → R Vl}
theorem piS (ha : PE X e (tE X.K M bp W cls fa)) : PI X tg e (tI X.K M bp W cls fun ρ => (fa ρ).bind fun x ρ1 => match x with
    | .ow (.d (.str z)) => if small z.length then .ok (signI z) ρ1 else .bad
    | _ => .bad) := by
  refine ⟨fun pins s σ H Rk I q => (pi_str ha).run pins s σ H Rk I ?_⟩
  obtain ⟨Z, fpf, Hb, ρ, S, q⟩ := q
  refine tE_then S q fun x ρ1 fpf1 Hb1 H1 v fp e1 S1 r1 q1 => ?_
  split at q1
  · rename_i z
    split at q1
    · exact ⟨z, look_str r1 rfl, q1 Hb1 H1 fpf1 (fun _ _ e => e) S1 _ itS⟩
    · exact q1.elim
  · exact q1.elim
end
end WM

/-! WM: targets; comprehensions. -/
namespace WM
open PySem PySem.Spec PyProof.Rows L2
section
variable {K : PySem.W.Frag} {M : Nat → Bool} {bp : List (Nat × Addr)} {W : WX} {cls : Nat → Value} {Z : Fz} {fpf fpf' : Nat → List Addr} {Hb Hb' H H' : Hp} {σ σ' : L2.St} {ρ ρ' : Env} {v u : V} {x y z : Vl} {fp fp1 fp2 : List Addr}

/-! ### targets -/
def gNames : List Nat → TGs
  | [] => gNil
  | i :: is => gCons (gName i) (gNames is)
def tgR (K : PySem.W.Frag) : Tg → TG
  | .n i => gName i
  | .t is => fun v σ H Q => gTup K is.length (gNames is) v σ H Q ∨ gLst K is.length (gNames is) v σ H Q
theorem isSet_ok {X : Cx} {own : Scope} {i : Nat} {y : Str} {pos : Pos} (hnd : X.N.Nodup) (hf : ∀ y, own.names.lookup y = some .cell → X.fn y = true) (h : isSet X.N X.env.scope own i y = true) : PG X (.Name y pos) (gName i) := by
  unfold isSet at h
  simp only [Bool.and_eq_true, Bool.or_eq_true, decide_eq_true_eq] at h
  obtain ⟨h1, h2⟩ := h
  rcases h2 with h2 | ⟨h2, h3⟩
  · exact pg_name hnd h1 (.inl h2) (.inr h2)
  · exact pg_name hnd h1 (.inr h2) (.inl (hf y h3))
theorem okNs_ok {X : Cx} {own : Scope} (hnd : X.N.Nodup) (hf : ∀ y, own.names.lookup y = some .cell → X.fn y = true) : ∀ {is : List Nat} {es : List Expr}, okNs X.N X.env.scope own is es = true →
    PGs X es (gNames is) ∧ (assignEach es X.env).length = is.length ∧ (assignEach es X.env).findIdx? (·.1) = none
  | [], [], _ => ⟨pgs_nil, rfl, rfl⟩
  | i :: is, e :: es, h => by
    cases e with
    | Name y p =>
      have h : (isSet X.N X.env.scope own i y && okNs X.N X.env.scope own is es) = true := h
      rw [Bool.and_eq_true] at h
      obtain ⟨h1, h2, h3⟩ := okNs_ok hnd hf h.2
      refine ⟨pgs_cons (isSet_ok hnd hf h.1) h1, ?_, ?_⟩
      · show (assignEach es X.env).length + 1 = is.length + 1
        rw [h2]
      · show List.findIdx? (·.1) ((false, _) :: assignEach es X.env) = none
        rw [List.findIdx?_cons]
        simp [h3]
    | _ => cases h
  | [], _ :: _, h => by simp [okNs] at h
  | _ :: _, [], h => by simp [okNs] at h
theorem okTg_ok {X : Cx} {own : Scope} {t : Tg} {e : Expr} (hc : X.calm = true) (hnd : X.N.Nodup) (hf : ∀ y, own.names.lookup y = some .cell → X.fn y = true) (h : okTg X.N X.env.scope own t e = true) : PG X e (tgR X.K t) := by
  cases t with
  | n i =>
    cases e with
    | Name y p => exact isSet_ok hnd hf h
    | _ => cases h
  | t is =>
    cases e with
    | Tuple es k p =>
      obtain ⟨h1, h2, h3⟩ := okNs_ok hnd hf (show okNs X.N X.env.scope own is es = true from h)
      refine ⟨fun pins s σ H v u Q I r w => ?_⟩
      rcases w with w | w
      · exact (pg_tup hc h1 h2 h3).run pins s σ H v u Q I r w
      · exact (pg_lst hc h1 h2 h3).run pins s σ H v u Q I r w
    | _ => cases h
theorem Lent.mono {F : Addr → Prop} {w : V} {x : Vl} (e : Same Hb Hb') (k : ∀ a, F a → H' a = H a ∧ Hb' a = none) (l : Lent K F Hb H w x) : Lent K F Hb' H' w x := by
  match x, l with
  | .ow (.d d), l => exact Rp.mono e d w l
  | .bw o, ⟨f, h1, h2⟩ => exact ⟨f, RO.mono e o w f (fun a ha => k a (h2 a ha)) h1, h2⟩
/-- a slot that may not be changed now gets a thing that is lent -/
theorem setC_ok {i : Nat} (S : StR K M bp Z fpf Hb H σ ρ) (l : Lent K Z.F Hb H v x) (h : setC M ρ i x = some ρ') : StR K M bp Z fpf Hb H (σ.set i (some v)) ρ' ∧ M i = false ∧ i < σ.length := by
  unfold setC at h
  split at h
  · cases h
  · rename_i hM
    have hM : M i = false := by simpa using hM
    have key : ∀ s : Sl, ρ[i]? ≠ none → ρ' = ρ.set i s → (match s with | .no => True | .bor o => ∃ f, RO K Hb H v o f ∧ ∀ a ∈ f, Z.F a | .val o => ∃ f, RO K Hb H v o f ∧ ∀ a ∈ f, Z.F a | .ref o => False) → StR K M bp Z fpf Hb H (σ.set i (some v)) ρ' ∧ M i = false ∧ i < σ.length := by
      intro s hi e hs
      have hl : i < ρ.length := by
        cases q : ρ[i]? with
        | none => exact absurd q hi
        | some _ => exact (List.getElem?_eq_some_iff.mp q).1
      have hl' : i < σ.length := by rw [← S.len]; exact hl
      subst e
      refine ⟨⟨S.ex, S.fr, by rw [List.length_set, List.length_set]; exact S.len, fun j s' hj => ?_, S.sep, S.nf, S.hb, S.off⟩, hM, hl'⟩
      by_cases e : j = i
      · subst e
        rw [List.getElem?_set_self hl] at hj
        cases hj
        rw [List.getElem?_set_self hl']
        cases s with
        | no => trivial
        | bor o => obtain ⟨f, h1, h2⟩ := hs; exact ⟨v, f, rfl, h1, h2⟩
        | val o =>
          obtain ⟨f, h1, h2⟩ := hs
          show if M j = true then _ else _
          rw [if_neg (by rw [hM]; exact Bool.false_ne_true)]
          exact ⟨v, f, rfl, h1, h2⟩
        | ref o => exact hs.elim
      · rw [List.getElem?_set_ne (Ne.symm e)] at hj
        rw [List.getElem?_set_ne (Ne.symm e)]
        exact S.sl j s' hj
    cases e1 : ρ[i]? with
    | none => rw [e1] at h; cases h
    | some s0 =>
      have n0 : ρ[i]? ≠ none := by rw [e1]; exact nofun
      rw [e1] at h
      match s0, x, l with
      | .ref _, _, _ => cases h
      | .no, .ow (.d y), l => cases h; exact key _ n0 rfl ⟨[], .d l, fun _ h => (nomatch h)⟩
      | .val _, .ow (.d y), l => cases h; exact key _ n0 rfl ⟨[], .d l, fun _ h => (nomatch h)⟩
      | .bor _, .ow (.d y), l => cases h; exact key _ n0 rfl ⟨[], .d l, fun _ h => (nomatch h)⟩
      | .no, .bw o, l => cases h; exact key _ n0 rfl l
      | .val _, .bw o, l => cases h; exact key _ n0 rfl l
      | .bor _, .bw o, l => cases h; exact key _ n0 rfl l
theorem wipe_get {vs : List Nat} {i : Nat} : ∀ {σ : L2.St}, (wipe σ vs)[i]? = if i ∈ vs ∧ i < σ.length then some none else σ[i]? := by
  induction vs with
  | nil => intro σ; simp [wipe]
  | cons j vs ih =>
    intro σ
    unfold wipe
    by_cases e : i = j
    · subst e
      by_cases hl : i < σ.length
      · rw [List.getElem?_set_self (by rw [wipe_length]; exact hl)]; simp [hl]
      · rw [List.getElem?_eq_none (by rw [List.length_set, wipe_length]; omega)]
        simp [hl]
    · rw [List.getElem?_set_ne (Ne.symm e), ih]
      simp [e]
theorem wipe_set {vs : List Nat} {i : Nat} {w : Option V} (hi : i ∈ vs) (σ : L2.St) : wipe (σ.set i w) vs = wipe σ vs := by
  refine List.ext_getElem? fun j => ?_
  rw [wipe_get, wipe_get, List.length_set]
  by_cases e : j = i
  · subst e
    by_cases hl : j < σ.length
    · rw [if_pos ⟨hi, hl⟩, if_pos ⟨hi, hl⟩]
    · rw [if_neg (fun h => hl h.2), if_neg (fun h => hl h.2), List.getElem?_eq_none (by rw [List.length_set]; omega), List.getElem?_eq_none (by omega)]
  · rw [List.getElem?_set_ne (Ne.symm e)]
theorem wipe_set0 {i : Nat} {w : Option V} : ∀ {vs : List Nat}, i ∉ vs → ∀ σ : L2.St, wipe (σ.set i w) vs = (wipe σ vs).set i w
  | [], _, σ => rfl
  | j :: vs, h, σ => by
    unfold wipe
    rw [wipe_set0 (fun q => h (List.mem_cons_of_mem _ q)) σ, List.set_comm]
    exact fun e => h (e ▸ List.mem_cons_self)
theorem setAllC_ok {slots : List Nat} {Q : L2.St → Hp → Prop} : ∀ {is : List Nat} {xs : List Vl} {vs : List V} {σ : L2.St} {ρ ρ' : Env}, (∀ i ∈ is, i ∈ slots) → StR K M bp Z fpf Hb H σ ρ → vs.length = xs.length → (∀ (i : Nat) v x, vs[i]? = some v → xs[i]? = some x → Lent K Z.F Hb H v x) → setAllC M ρ is xs = some ρ' →
    (∀ σ', StR K M bp Z fpf Hb H σ' ρ' → wipe σ' slots = wipe σ slots → (∀ j, M j = true → σ'[j]? = σ[j]?) → Q σ' H) → gNames is vs σ H Q ∧ is.length = xs.length
  | [], [], vs, σ, ρ, ρ', _, S, hl, _, h, q => by
    cases h
    refine ⟨⟨List.eq_nil_of_length_eq_zero hl, q σ S rfl fun _ _ => rfl⟩, rfl⟩
  | [], _ :: _, _, _, _, _, _, _, _, _, h, _ => by simp [setAllC] at h
  | _ :: _, [], _, _, _, _, _, _, _, _, h, _ => by simp [setAllC] at h
  | i :: is, x :: xs, vs, σ, ρ, ρ', hs, S, hl, hv, h, q => by
    obtain ⟨ρ1, h1, h2⟩ := Option.bind_eq_some_iff.mp (show (setC M ρ i x).bind (fun ρ' => setAllC M ρ' is xs) = some ρ' from h)
    cases vs with
    | nil => simp at hl
    | cons v vs =>
      obtain ⟨S1, hM, hlt⟩ := setC_ok S (hv 0 v x rfl rfl) h1
      have rc := setAllC_ok (fun j hj => hs j (List.mem_cons_of_mem _ hj)) S1 (by simpa using hl) (fun j w y g1 g2 => hv (j + 1) w y (by simpa using g1) (by simpa using g2)) h2 fun σ' S' e k => q σ' S' (e.trans (wipe_set (hs i List.mem_cons_self) σ)) fun j hj => by
        rw [k j hj, List.getElem?_set_ne (fun e => by rw [e, hj] at hM; cases hM)]
      exact ⟨⟨v, vs, rfl, rc.1⟩, by simp [rc.2]⟩
theorem setTC_ok {t : Tg} {it : Itm} {H2 H3 : Hp} {Q : L2.St → Hp → Prop} (S : StR K M bp Z fpf Hb H2 σ ρ) (r : ItmR K Z.F Hb H2 H2 v H3 it) (h : setTC M ρ t it = some ρ')
    (q : ∀ σ', StR K M bp Z fpf Hb H3 σ' ρ' → wipe σ' t.slots = wipe σ t.slots → (∀ j, M j = true → σ'[j]? = σ[j]?) → Same H2 H3 → Q σ' H3) : tgR K t v σ H3 Q := by
  unfold setTC at h
  split at h
  · rename_i i x
    obtain ⟨rfl, l⟩ := r
    obtain ⟨S', hM, hl⟩ := setC_ok S l h
    exact q _ S' (wipe_set List.mem_cons_self σ) (fun j hj => List.getElem?_set_ne fun e => by rw [e, hj] at hM; cases hM) (fun _ _ e => e)
  · rename_i is x
    obtain ⟨rfl, l⟩ := r
    split at h
    · rename_i xs
      have l : Rp K Hb v (.tup xs) := l
      cases l with
      | tup h1 h2 =>
        have s := Src.data (H := H3) (F := Z.F) h2
        obtain ⟨g, e⟩ := setAllC_ok (Q := Q) (slots := is) (fun _ h => h) S s.len s.at_ h fun σ' S' e k => q σ' S' e k fun _ _ e => e
        exact .inl ⟨_, _, rfl, same_t S.ex h1, by rw [s.len]; exact e.symm, g⟩
    · rename_i xs
      have l : Rp K Hb v (.lst xs) := l
      cases l with
      | lst h1 h2 =>
        have s := Src.data (H := H3) (F := Z.F) h2
        obtain ⟨g, e⟩ := setAllC_ok (Q := Q) (slots := is) (fun _ h => h) S s.len s.at_ h fun σ' S' e k => q σ' S' e k fun _ _ e => e
        exact .inr ⟨_, _, rfl, SqL.of (S.ex _ _ h1), by rw [s.len]; exact e.symm, g⟩
    · cases h
  · rename_i is xs
    obtain ⟨T, x1, x2, y1, y2, rfl, rfl, hT, rfl, l1, l2⟩ := r
    have S' := S.new (o := .tup [y1, y2]) hT
    have lm : ∀ {w : V} {x : Vl}, Lent K Z.F Hb H2 w x → Lent K Z.F Hb (upd H2 T (.tup [y1, y2])) w x := fun l => l.mono (fun _ _ e => e) fun a ha => ⟨upd_ne fun e => (S.fr a (.inl ha)).2.2 (by rw [e]; exact hT), (S.fr a (.inl ha)).2.1⟩
    obtain ⟨g, e⟩ := setAllC_ok (Q := Q) (slots := is) (vs := [y1, y2]) (fun _ h => h) S' rfl (fun i w x g1 g2 => by
      match i with
      | 0 => cases g1; cases g2; exact lm l1
      | 1 => cases g1; cases g2; exact lm l2
      | _ + 2 => simp at g1) h fun σ' S'' e k => q σ' S'' e k (same_upd hT)
    exact .inl ⟨T, [y1, y2], rfl, SqT.of upd_same, by rw [e]; rfl, g⟩
  · cases h

/-! ### slots taken away, put back -/
theorem wipeS_get {is : List Nat} {i : Nat} : ∀ {ρ : Env}, (wipeS ρ is)[i]? = if i ∈ is ∧ i < ρ.length then some .no else ρ[i]? := drop_get
theorem StR.wiped (S : StR K M bp Z fpf Hb H σ ρ) (is : List Nat) : StR K M bp Z fpf Hb H (wipe σ is) (wipeS ρ is) := by
  refine ⟨S.ex, S.fr, by rw [wipe_length]; exact (drop_len (is := is)).trans S.len, fun i s hs => ?_, S.sep, S.nf, S.hb, S.off⟩
  rw [wipeS_get] at hs
  split at hs
  · cases hs; trivial
  · rename_i hi
    have q := S.sl i s hs
    have e : (wipe σ is)[i]? = σ[i]? := by rw [wipe_get, if_neg (by rw [← S.len]; exact hi)]
    rw [e]
    exact q
theorem merge_get {i : Nat} (hi : i < ρ.length) : (merge M ρ ρ')[i]? = some (if M i = true then ρ'.getD i .no else ρ.getD i .no) := by
  unfold merge
  rw [List.getElem?_map, List.getElem?_range hi]
  rfl
theorem merge_len : (merge M ρ ρ').length = ρ.length := by simp [merge]
theorem StR.merge {fpf0 : Nat → List Addr} {Hb0 H0 : Hp} {σ0 : L2.St} {ρ0 : Env} (S0 : StR K M bp Z fpf0 Hb0 H0 σ0 ρ0) (S : StR K M bp Z fpf Hb H σ ρ) (e : Same Hb0 Hb) (hσ : ∀ j v, M j = true → σ[j]? = some (some v) → σ0[j]? = some (some v)) : StR K M bp Z fpf Hb H σ0 (merge M ρ0 ρ) := by
  refine ⟨S.ex, S.fr, merge_len.trans S0.len, fun i s hs => ?_, S.sep, S.nf, S.hb, S.off⟩
  have hl : i < ρ0.length := by have := (List.getElem?_eq_some_iff.mp hs).1; rwa [merge_len] at this
  rw [merge_get hl] at hs
  by_cases hM : M i = true
  · rw [if_pos hM] at hs
    cases q : ρ[i]? with
    | none =>
      have : ρ.getD i .no = .no := by rw [List.getD_eq_getElem?_getD, q]; rfl
      rw [this] at hs; cases hs; trivial
    | some s' =>
      have : ρ.getD i .no = s' := by rw [List.getD_eq_getElem?_getD, q]; rfl
      rw [this] at hs
      have e2 : s' = s := Option.some.inj hs
      subst e2
      have k := S.sl i s' q
      cases s' with
      | no => trivial
      | bor o => obtain ⟨w, f, h1, h2, h3⟩ := k; exact ⟨w, f, hσ i w hM h1, h2, h3⟩
      | val o =>
        show if M i = true then _ else _
        have k : if M i = true then _ else _ := k
        rw [if_pos hM] at k ⊢
        obtain ⟨w, h1, h2⟩ := k
        exact ⟨w, hσ i w hM h1, h2⟩
      | ref o =>
        obtain ⟨⟨p, k1, k2⟩, k⟩ := k
        refine ⟨⟨p, k1, hσ i _ hM k2⟩, ?_⟩
        have k : if M i = true then _ else _ := k
        rw [if_pos hM] at k ⊢
        obtain ⟨w, h1, h2⟩ := k
        exact ⟨w, hσ i w hM h1, h2⟩
  · rw [if_neg hM] at hs
    have : ρ0[i]? = some s := by
      have e1 : ρ0.getD i .no = s := Option.some.inj hs
      rw [List.getD_eq_getElem?_getD, List.getElem?_eq_getElem hl] at e1
      rw [List.getElem?_eq_getElem hl]
      exact congrArg some e1
    have k := S0.sl i s this
    have mF : ∀ {o : Ow} {w : V} {f : List Addr}, RO K Hb0 H0 w o f → (∀ a ∈ f, Z.F a) → RO K Hb H w o f := fun r h => RO.mono e _ _ _ (fun a ha => ⟨(S.fr a (.inl (h a ha))).1.trans (S0.fr a (.inl (h a ha))).1.symm, (S.fr a (.inl (h a ha))).2.1⟩) r
    cases s with
    | no => trivial
    | bor o => obtain ⟨w, f, h1, h2, h3⟩ := k; exact ⟨w, f, h1, mF h2 h3, h3⟩
    | val o =>
      show if M i = true then _ else _
      have k : if M i = true then _ else _ := k
      rw [if_neg hM] at k ⊢
      obtain ⟨w, f, h1, h2, h3⟩ := k
      exact ⟨w, f, h1, mF h2 h3, h3⟩
    | ref o =>
      refine ⟨k.1, ?_⟩
      have k : if M i = true then _ else _ := k.2
      show if M i = true then _ else _
      rw [if_neg hM] at k ⊢
      obtain ⟨w, f, h1, h2, h3⟩ := k
      exact ⟨w, f, h1, mF h2 h3, h3⟩
/-- what we hold ourselves is changed -/
theorem StR.mut (S : StR K M bp Z fpf Hb H σ ρ) {p : Addr} {o : HO} (h1 : ¬ (Z.F p ∨ Z.G p)) (h2 : ∀ i, p ∉ fpf i) (h3 : Hb p = none) : StR K M bp Z fpf Hb (upd H p o) σ ρ := by
  have kp : ∀ a, (Z.F a ∨ Z.G a ∨ ∃ i, a ∈ fpf i) → upd H p o a = H a := fun a ha => upd_ne fun e => by
    subst e
    rcases ha with ha | ha | ⟨i, ha⟩
    · exact h1 (.inl ha)
    · exact h1 (.inr ha)
    · exact h2 i ha
  have mF : ∀ {q : Ow} {v : V} {f : List Addr}, RO K Hb H v q f → (∀ a ∈ f, Z.F a) → RO K Hb (upd H p o) v q f := fun r h => RO.mono (fun _ _ e => e) _ _ _ (fun a ha => ⟨kp a (.inl (h a ha)), (S.fr a (.inl (h a ha))).2.1⟩) r
  have mI : ∀ {q : Ow} {v : V} (i : Nat), RO K Hb H v q (fpf i) → RO K Hb (upd H p o) v q (fpf i) := fun i r => RO.mono (fun _ _ e => e) _ _ _ (fun a ha => ⟨kp a (.inr (.inr ⟨i, ha⟩)), (S.hb i a ha).1⟩) r
  refine ⟨fun b x e => ?_, fun a ha => ?_, S.len, fun i s hs => ?_, S.sep, S.nf, fun i a ha => ?_, S.off⟩
  · rw [upd_ne (fun q => by subst q; rw [h3] at e; cases e)]; exact S.ex b x e
  · have q := S.fr a ha
    rw [kp a (ha.elim .inl fun h => .inr (.inl h))]
    exact q
  · have q := S.sl i s hs
    cases s with
    | no => trivial
    | bor o => obtain ⟨v, f, g1, g2, g3⟩ := q; exact ⟨v, f, g1, mF g2 g3, g3⟩
    | val o =>
      show if M i = true then _ else _
      have q : if M i = true then _ else _ := q
      split
      · rename_i hM; rw [if_pos hM] at q; obtain ⟨v, g1, g2⟩ := q; exact ⟨v, g1, mI i g2⟩
      · rename_i hM; rw [if_neg hM] at q; obtain ⟨v, f, g1, g2, g3⟩ := q; exact ⟨v, f, g1, mF g2 g3, g3⟩
    | ref o =>
      refine ⟨q.1, ?_⟩
      have q : if M i = true then _ else _ := q.2
      show if M i = true then _ else _
      split
      · rename_i hM; rw [if_pos hM] at q; obtain ⟨v, g1, g2⟩ := q; exact ⟨v, g1, mI i g2⟩
      · rename_i hM; rw [if_neg hM] at q; obtain ⟨v, f, g1, g2, g3⟩ := q; exact ⟨v, f, g1, mF g2 g3, g3⟩
  · rw [kp a (.inr (.inr ⟨i, ha⟩))]
    exact S.hb i a ha
end
end WM

/-! WM: a comprehension. -/
namespace WM
open PySem PySem.Spec PyProof.Rows L2
section
variable {K : PySem.W.Frag} {M : Nat → Bool} {bp : List (Nat × Addr)} {W : WX} {cls : Nat → Value} {Z : Fz} {fpf fpf' : Nat → List Addr} {Hb Hb' H H' : Hp} {σ σ' : L2.St} {ρ ρ' : Env} {v u : V} {x y z : Vl} {fp fp1 fp2 : List Addr}
variable (K M bp W cls) in
def tT (f : Env → R Vl) : TT := fun σ H Q => ∃ Z fpf Hb ρ, StR K M bp Z fpf Hb H σ ρ ∧ Pst K M bp W cls Z Hb σ (f ρ) fun x fpf' Hb' H' => ∃ b, x = dv (.bl b) ∧ Q b H'
def W0 : WX := fun _ _ _ _ => False
theorem RVl.app {acc : List Ow} {o : Ow} {p : Addr} {fpD fp2 : List Addr} (S : StR K M bp Z fpf Hb H σ ρ) (rD : RVl K Z fpf Hb H (.ref p) (.ow (.l acc)) fpD) (r : RVl K Z fpf Hb H v (.ow o) fp2) (dj : Disj fpD fp2) :
    ∃ vs, H p = some (.lst vs) ∧ vs.length = acc.length ∧ StR K M bp Z fpf Hb (upd H p (.lst (vs ++ [v]))) σ ρ ∧ RVl K Z fpf Hb (upd H p (.lst (vs ++ [v]))) (.ref p) (.ow (.l (acc ++ [o]))) (fpD ++ fp2) := by
  obtain ⟨h, hF, hd⟩ := rD
  obtain ⟨q, vs, f, e1, e2, e3, e4, e5, e6⟩ := h.sub
  cases e1
  have pm : p ∈ fpD := by rw [e4]; exact List.mem_cons_self
  have nf2 : p ∉ fp2 := fun h => dj p pm h
  have S' := S.mut (o := .lst (vs ++ [v])) (hF p pm) (fun i hi => hd i p hi pm) e6
  refine ⟨vs, e2, e3.length, S', ?_, fun a ha => ?_, fun i a hi ha => ?_⟩
  · have m1 : ROs K Hb (upd H p (.lst (vs ++ [v]))) vs acc f := ROs.mono (fun _ _ e => e) _ _ _ (fun a ha => ⟨upd_ne fun e => e5 (e ▸ ha), (e3.at_ a ha).1⟩) e3
    have m2 : RO K Hb (upd H p (.lst (vs ++ [v]))) v o fp2 := RO.mono (fun _ _ e => e) _ _ _ (fun a ha => ⟨upd_ne fun e => nf2 (e ▸ ha), (r.1.at_ a ha).1⟩) r.1
    have m3 := ROs.app m1 (ROs.cons m2 ROs.nil fun _ _ h => (nomatch h)) fun a h1 h2 => dj a (by rw [e4]; exact List.mem_cons_of_mem _ h1) (by simpa using h2)
    rw [e4]
    have := RO.l (p := p) e6 upd_same m3 fun h => by
      rcases List.mem_append.mp h with h | h
      · exact e5 h
      · exact nf2 (by simpa using h)
    simpa using this
  · rcases List.mem_append.mp ha with ha | ha
    · exact hF a ha
    · exact r.2.1 a ha
  · rcases List.mem_append.mp ha with ha | ha
    · exact hd i a hi ha
    · exact r.2.2 i a hi ha
theorem own_rvl {o : Ow} (r : RVl K Z fpf Hb H v y fp) (h : y.own = some o) : RVl K Z fpf Hb H v (.ow o) fp := by
  unfold Vl.own at h
  split at h
  · cases h; exact r
  · cases h
    obtain ⟨f, h1, h2, h3⟩ := r
    cases h1 with
    | d h1 => subst h3; exact .d h1
  · cases h
  · cases h
theorem wipe_wipe (σ : L2.St) (vs : List Nat) : wipe (wipe σ vs) vs = wipe σ vs := by
  refine List.ext_getElem? fun j => ?_
  rw [wipe_get, wipe_length]
  split
  · rename_i hj; rw [wipe_get, if_pos hj]
  · rfl
theorem lc_ok {fi : Env → R (List Itm)} {fc fe : Env → R Vl} {t : Tg} {hc : Bool} (σ : L2.St) (H : Hp) (Q : VK)
    (h : tE K M bp W cls (fun ρ => (fi ρ).bind fun xs ρ1 => (lcL M t (lcBody hc fc fe) xs (wipeS ρ1 t.slots) []).bind fun os ρ2 => .ok (.ow (.l os)) (merge M ρ1 ρ2)) σ H Q) :
    tLc (tI K M bp W cls fi) (tgR K t) (if hc = true then tT K M bp W0 cls fc else tYes) (tE K M bp W0 cls fe) t.slots σ H Q := by
  obtain ⟨Z, fpf, Hb, ρ, S, q⟩ := h
  refine ⟨Z, fpf, Hb, ρ, S, q.bind.imp ?_⟩
  intro xs ρ1 fpf1 Hb1 H1 e e1 S1 q J hJ D hD
  have hJ := hJ.wide (F' := Z.F) FM.sub
  have q := q ρ1 e S1
  generalize hT : lcL M t (lcBody hc fc fe) xs (wipeS ρ1 t.slots) [] = T at q
  have fr1 : ∀ {fpf' : Nat → List Addr} {Hb' H' : Hp} {σ' : L2.St} {ρ' : Env}, StR K M bp Z fpf' Hb' H' σ' ρ' → ∀ a, Z.F a → H' a = H1 a := fun S' a ha => (S'.fr a (.inl ha)).1.trans (S1.fr a (.inl ha)).1.symm
  have kept : ∀ {fpf' : Nat → List Addr} {Hb' H' : Hp} {σ' : L2.St} {ρ' : Env}, Same Hb1 Hb' → StR K M bp Z fpf' Hb' H' σ' ρ' → KeptF Z.F Hb1 H1 H' := fun e' S' => ⟨fun b x h => S'.ex b x (e' b x h), fr1 S'⟩
  let Wv : Nat → Nat → Hp → Prop := fun i m H => i ≤ xs.length ∧ m = xs.length - i ∧ ∃ fpfi Hbi ρi acc fpD, Same Hb1 Hbi ∧ StR K M bp Z fpfi Hbi H (wipe σ t.slots) ρi ∧ RVl K Z fpfi Hbi H (.ref D) (.ow (.l acc)) fpD ∧ lcL M t (lcBody hc fc fe) (xs.drop i) ρi acc = T
  have nobad : T ≠ .bad := fun e => by rw [e] at q; exact q
  refine ⟨Wv, ⟨xs.length, Nat.zero_le _, rfl, fpf1, Hb1, wipeS ρ1 t.slots, [], [D], fun _ _ e => e, (S1.new hD).wiped _, ⟨.l (S1.un hD) upd_same .nil (fun h => (nomatch h)), fun a ha => ?_, fun i a hi ha => ?_⟩, hT⟩, ?_⟩
  · rw [List.mem_singleton.mp ha]; exact (S1.out hD).1
  · rw [List.mem_singleton.mp ha] at hi; exact (S1.out hD).2 i hi
  rintro i m H2 ⟨hi, rfl, fpfi, Hbi, ρi, acc, fpD, ei, Si, rD, hrun⟩
  have kpi := kept ei Si
  by_cases hlt : i < xs.length
  · have hx : xs[i]? = some xs[i] := List.getElem?_eq_getElem hlt
    have hdrop : xs.drop i = xs[i] :: xs.drop (i + 1) := List.drop_eq_getElem_cons hlt
    rw [hdrop] at hrun
    refine .inr ⟨hJ.go i H2 kpi hlt, fun H' => Wv (i + 1) (xs.length - (i + 1)) H', fun H' hw => ⟨_, by omega, hw⟩, fun w H3 hy => ?_⟩
    have itm := hJ.yld i H2 w H3 _ kpi hy hx
    have lm : ∀ {u : V} {y : Vl}, Lent K Z.F Hb1 H1 u y → Lent K Z.F Hbi H2 u y := fun l => l.mono ei fun a ha => ⟨fr1 Si a ha, (Si.fr a (.inl ha)).2.1⟩
    have itm' : ItmR K Z.F Hbi H2 H2 w H3 xs[i] := by
      cases hxi : xs[i] with
      | one y => rw [hxi] at itm; exact ⟨itm.1, lm itm.2⟩
      | many ys =>
        rw [hxi] at itm
        obtain ⟨T', x1, x2, y1, y2, g1, g2, g3, g4, g5, g6⟩ := itm
        exact ⟨T', x1, x2, y1, y2, g1, g2, g3, g4, lm g5, lm g6⟩
    unfold lcL at hrun
    cases hset : setTC M ρi t xs[i] with
    | none => rw [hset] at hrun; exact absurd hrun.symm nobad
    | some ρ2 =>
      rw [hset] at hrun
      dsimp only at hrun
      refine setTC_ok Si itm' hset fun σ2 S2 hw2 hM2 sm2 => ⟨hw2.trans (wipe_wipe _ _), ?_⟩
      -- the list is held meanwhile
      have rD2 : RVl K Z fpfi Hbi H3 (.ref D) (.ow (.l acc)) fpD := ⟨RO.mono (fun _ _ e => e) _ _ _ (fun a ha => ⟨ne_some sm2 (rD.1.at_ a ha).2, (rD.1.at_ a ha).1⟩) rD.1, rD.2⟩
      have SH := S2.hold rD2
      have fr0 : ∀ a, Z.F a ∨ Z.G a → H3 a = Z.hp a := fun a ha => (S2.fr a ha).1
      have hσ : ∀ j v, M j = true → σ2[j]? = some (some v) → (wipe σ t.slots)[j]? = some (some v) := fun j v hj h => by rw [← hM2 j hj]; exact h
      -- a turn's end
      have fin : ∀ {fpf5 : Nat → List Addr} {Hb5 H5 : Hp} {ρ5 : Env} {acc5 : List Ow} {fp5 : List Addr}, Same Hbi Hb5 → StR K M bp Z fpf5 Hb5 H5 σ2 ρ5 → RVl K Z fpf5 Hb5 H5 (.ref D) (.ow (.l acc5)) fp5 →
          lcL M t (lcBody hc fc fe) (xs.drop (i + 1)) (merge M ρi ρ5) acc5 = T → Wv (i + 1) (xs.length - (i + 1)) H5 := fun {fpf5 Hb5 H5 ρ5 acc5 fp5} e5 S5 r5 h5 =>
        ⟨by omega, rfl, fpf5, Hb5, merge M ρi ρ5, acc5, fp5, ei.trans e5, Si.merge S5 e5 hσ, r5, h5⟩
      have elt : ∀ {ρ3 : Env} {fpf3 : Nat → List Addr} {Hb3 H4 : Hp}, Same Hbi Hb3 → StR K M bp (Z.more H3 fpD) fpf3 Hb3 H4 σ2 ρ3 → (∃ y ρ4 o, fe ρ3 = .ok y ρ4 ∧ y.own = some o ∧ small acc.length = true ∧ lcL M t (lcBody hc fc fe) (xs.drop (i + 1)) (merge M ρi ρ4) (acc ++ [o]) = T) →
          tE K M bp W0 cls fe σ2 H4 fun y H5 => ∃ acc5, H5 D = some (.lst acc5) ∧ acc5.length < sizeLine ∧ Wv (i + 1) (xs.length - (i + 1)) (upd H5 D (.lst (acc5 ++ [y]))) := by
        intro ρ3 fpf3 Hb3 H4 e3 S3 hyp
        obtain ⟨y, ρ4, o, hfe, hown, hsm, hT'⟩ := hyp
        refine ⟨_, _, _, _, S3, ?_⟩
        rw [hfe]
        intro Hb5 H5 fpf5 e5 S5 u fp5 ru
        have rD5 := rD2.kept S2 (e3.trans e5) S5
        obtain ⟨ru', dj⟩ := ru.drop
        obtain ⟨vs, g1, g2, g3, g4⟩ := RVl.app (S5.letgo fr0) rD5 (own_rvl ru' hown) dj
        exact ⟨vs, g1, by rw [g2]; exact small_lt hsm, fin (e3.trans e5) g3 g4 hT'⟩
      have noelt : ∀ {ρ3 : Env} {fpf3 : Nat → List Addr} {Hb3 H4 : Hp}, Same Hbi Hb3 → StR K M bp (Z.more H3 fpD) fpf3 Hb3 H4 σ2 ρ3 → lcL M t (lcBody hc fc fe) (xs.drop (i + 1)) (merge M ρi ρ3) acc = T → Wv (i + 1) (xs.length - (i + 1)) H4 := by
        intro ρ3 fpf3 Hb3 H4 e3 S3 hT'
        exact fin e3 (S3.letgo fr0) (rD2.kept S2 e3 S3) hT'
      -- what the body does
      have body : ∀ {ρ3 : Env}, ((fe ρ3).bind fun y ρ4 => (match y.own with | some o => .ok (some o) ρ4 | none => .bad : WM.R (Option Ow))) = lcBody hc fc fe ρ2 → ∃ y ρ4 o, fe ρ3 = .ok y ρ4 ∧ y.own = some o ∧ small acc.length = true ∧ lcL M t (lcBody hc fc fe) (xs.drop (i + 1)) (merge M ρi ρ4) (acc ++ [o]) = T := by
        intro ρ3 hb
        rw [← hb] at hrun
        cases hf : fe ρ3 with
        | bad => rw [hf] at hrun; exact absurd hrun.symm nobad
        | exc c ρ4 => rw [hf] at hrun; exact absurd hrun.symm nobad
        | ok y ρ4 =>
          rw [hf] at hrun
          simp only [WM.R.bind] at hrun
          cases ho : y.own with
          | none => rw [ho] at hrun; exact absurd hrun.symm nobad
          | some o =>
            rw [ho] at hrun
            dsimp only at hrun
            split at hrun
            · rename_i hs; exact ⟨y, ρ4, o, rfl, ho, hs, hrun⟩
            · exact absurd hrun.symm nobad
      cases hc with
      | false =>
        rw [if_neg Bool.false_ne_true]
        have g := elt (fun _ _ e => e) SH (body rfl)
        exact iteT (B := Wv (i + 1) (xs.length - (i + 1)) H3) g
      | true =>
        rw [if_pos rfl]
        refine ⟨_, _, _, _, SH, ?_⟩
        cases hfc : fc ρ2 with
        | bad =>
          have hb : lcBody true fc fe ρ2 = .bad := congrArg (fun r => WM.R.bind r fun b ρ1 => lcTail fe b ρ1) hfc
          rw [hb] at hrun; exact absurd hrun.symm nobad
        | exc c ρ3 =>
          have hb : lcBody true fc fe ρ2 = .exc c ρ3 := congrArg (fun r => WM.R.bind r fun b ρ1 => lcTail fe b ρ1) hfc
          rw [hb] at hrun; exact absurd hrun.symm nobad
        | ok x ρ3 =>
          intro Hb4 H4 fpf4 e4 S4
          have hb : lcBody true fc fe ρ2 = lcTail fe x ρ3 := congrArg (fun r => WM.R.bind r fun b ρ1 => lcTail fe b ρ1) hfc
          match x, hb with
          | .ow (.d (.bl true)), hb =>
            exact ⟨true, rfl, iteT (B := Wv (i + 1) (xs.length - (i + 1)) H4) (elt e4 S4 (body hb.symm))⟩
          | .ow (.d (.bl false)), hb =>
            rw [hb] at hrun
            exact ⟨false, rfl, iteF (noelt e4 S4 hrun)⟩
          | .ow (.d .non), hb => rw [hb] at hrun; exact absurd hrun.symm nobad
          | .ow (.d (.int _)), hb => rw [hb] at hrun; exact absurd hrun.symm nobad
          | .ow (.d (.str _)), hb => rw [hb] at hrun; exact absurd hrun.symm nobad
          | .ow (.d (.tup _)), hb => rw [hb] at hrun; exact absurd hrun.symm nobad
          | .ow (.d (.lst _)), hb => rw [hb] at hrun; exact absurd hrun.symm nobad
          | .ow (.d (.scr _)), hb => rw [hb] at hrun; exact absurd hrun.symm nobad
          | .ow (.d (.dic _ _)), hb => rw [hb] at hrun; exact absurd hrun.symm nobad
          | .ow (.l _), hb => rw [hb] at hrun; exact absurd hrun.symm nobad
          | .ow (.m _ _), hb => rw [hb] at hrun; exact absurd hrun.symm nobad
          | .bw _, hb => rw [hb] at hrun; exact absurd hrun.symm nobad
  · have hin : i = xs.length := by omega
    subst hin
    rw [List.drop_length] at hrun
    have hrun : WM.R.ok acc ρi = T := hrun
    subst hrun
    refine .inl ⟨hJ.stop H2 kpi, ?_⟩
    have Sf : StR K M bp Z fpfi Hbi H2 σ (merge M ρ1 ρi) := S1.merge Si ei fun j v _ h => by
      rw [wipe_get] at h
      split at h
      · cases h
      · exact h
    exact q Hbi H2 fpfi ei Sf (.ref D) fpD rD
end
end WM

/-! WM: every expression. -/
namespace WM
open PySem PySem.Spec PyProof.Rows L2
section
variable {X : Cx} {M : Nat → Bool} {bp : List (Nat × Addr)} {W : WX} {cls : Nat → Value}
theorem units65 {k : Nat} {A : Around} (r : Room k A) : A.units + 65 < cLine := by have := r.un; omega
theorem bin_ok {o : BO} {op : Operator} (hp : PL X) (h : o.bop = some op) : ∃ r, OpR X (binaryOp op) r ∧ Op2 X.K r (binV o) := by
  cases o <;> first | (cases h; done) | skip
  all_goals cases h
  · exact ⟨_, op_add, op2_add⟩
  · exact ⟨_, op_sub, op2_sub⟩
  · exact ⟨_, op_mulB, op2_mul⟩
  · exact ⟨_, op_modA, op2_mod⟩
  · exact ⟨_, op_fdivA hp, op2_fdiv⟩
  · exact ⟨_, op_pow, op2_pow⟩
  · exact ⟨_, op_shl, op2_shl⟩
  · exact ⟨_, op_shr, op2_shr⟩
  · exact ⟨_, op_and, op2_band⟩
  · exact ⟨_, op_cat, op2_cat⟩
  · exact ⟨_, op_rep, op2_rep⟩
  · exact ⟨_, op_catA, op2_tcat⟩
  · exact ⟨_, op_repTA, op2_trep⟩
  · exact ⟨_, op_add_str, op2_scat⟩
  · exact ⟨_, op_srep, op2_srep⟩
theorem opC {f : Value → Value → Sem Value} {g : Int → Int → Bool}
    (rule : ∀ (i j : Int) (t u : Tok) (s : Shared) (Q : Value → Shared → Prop) (E : Value → Shared → Prop), Q (.bool (g i j)) s → wpAny (model X.prog X.w) X.A (f (.int i t) (.int j u)) Q E s) : OpR X f (rI0 fun i j => .bl (g i j)) := opB0 rule
theorem cmp_ok {o : BO} {op : CmpOp} {k : Nat} (hr : Room k X.A) (h : o.cop = some op) : ∃ r, OpR X (compareOp op) r ∧ Op2 X.K r (binV o) := by
  cases o <;> first | (cases h; done) | skip
  all_goals cases h
  · exact ⟨_, opC fun _ _ _ _ _ _ _ q => lt_int q, op2_lt⟩
  · exact ⟨_, opC fun _ _ _ _ _ _ _ q => le_int q, op2_le⟩
  · exact ⟨_, opC fun _ _ _ _ _ _ _ q => gt_int q, op2_gt⟩
  · exact ⟨_, opC fun _ _ _ _ _ _ _ q => ge_int q, op2_ge⟩
  · exact ⟨_, op_eqD hr.units, op2_eq⟩
  · exact ⟨_, op_neD hr.units, op2_ne⟩
  · exact ⟨_, op_inA (units65 hr), op2_isIn⟩
  · exact ⟨_, op_notInA (units65 hr), op2_notIn⟩
  · exact ⟨_, op_isBl, op2_isB⟩
  · exact ⟨_, op_notBl, op2_ntB⟩
theorem ord_ok {o : BO} {op : CmpOp} (h : o.cop = some op) (h2 : o.ord = true) : ∃ g : Int → Int → Bool, OpR X (compareOp op) (rI0 fun i j => .bl (g i j)) ∧ ∀ i j, intBO o i j = some (.bl (g i j)) := by
  cases o <;> first | (cases h2; done) | skip
  all_goals cases h
  · exact ⟨_, opC fun _ _ _ _ _ _ _ q => lt_int q, fun _ _ => rfl⟩
  · exact ⟨_, opC fun _ _ _ _ _ _ _ q => le_int q, fun _ _ => rfl⟩
  · exact ⟨_, opC fun _ _ _ _ _ _ _ q => gt_int q, fun _ _ => rfl⟩
  · exact ⟨_, opC fun _ _ _ _ _ _ _ q => ge_int q, fun _ _ => rfl⟩
theorem un_ok {o : UO} {x : Str} (hc : X.calm = true) (hb : ∀ x ∈ bnames, X.mg x = none) (h : o.nm = some x) : ∃ r : V → Hp → VK → Prop, Op1 X.K r (unV o) ∧
    ∀ (e : Expr) (t : TE) (p pos : Pos), notStar e = true → PE X e t → Gl X x → PE X (.Call (.Name x p) [e] [] pos) (tUn r t) := by
  cases o <;> first | (cases h; done) | skip
  all_goals cases h
  · exact ⟨_, op1_len, fun e t p pos ns he hg => pe_callB call_len hg (hb _ (by decide)) PySem.boot_len (one_arg he ns) (by decide) (by decide) (star_ok [] X.env ns) rfl⟩
  · exact ⟨_, op1_abs, fun e t p pos ns he hg => pe_callB call_abs hg (hb _ (by decide)) (by decide +kernel) (one_arg he ns) (by decide) (by decide) (star_ok [] X.env ns) rfl⟩
  · exact ⟨_, op1_tuple, fun e t p pos ns he hg => pe_callTy call_tuple_of hg (hb _ (by decide)) (by decide +kernel) (one_arg he ns) (by decide) (by decide) (star_ok [] X.env ns) rfl⟩
  · exact ⟨_, op1_list, fun e t p pos ns he hg => pe_callTy call_list_of hg (hb _ (by decide)) (by decide +kernel) (one_arg he ns) (by decide) (by decide) (star_ok [] X.env ns) rfl⟩
  · exact ⟨_, op1_sum, fun e t p pos ns he hg => pe_callB (cr_sumA hc) hg (hb _ (by decide)) (by decide +kernel) (one_arg he ns) (by decide) (by decide) (star_ok [] X.env ns) rfl⟩
  · exact ⟨_, op1_any, fun e t p pos ns he hg => pe_callB (cr_any hc) hg (hb _ (by decide)) (by decide +kernel) (one_arg he ns) (by decide) (by decide) (star_ok [] X.env ns) rfl⟩
  · exact ⟨_, op1_all, fun e t p pos ns he hg => pe_callB (cr_all hc) hg (hb _ (by decide)) (by decide +kernel) (one_arg he ns) (by decide) (by decide) (star_ok [] X.env ns) rfl⟩
  · exact ⟨_, op1_int, fun e t p pos ns he hg => pe_callTy cr_intA hg (hb _ (by decide)) (by decide +kernel) (one_arg he ns) (by decide) (by decide) (star_ok [] X.env ns) rfl⟩
  · exact ⟨_, op1_max, fun e t p pos ns he hg => pe_callB (cr_maxA hc) hg (hb _ (by decide)) (by decide +kernel) (one_arg he ns) (by decide) (by decide) (star_ok [] X.env ns) rfl⟩
  · exact ⟨_, op1_sorted, fun e t p pos ns he hg => pe_callB cr_sorted hg (hb _ (by decide)) (by decide +kernel) (one_arg he ns) (by decide) (by decide) (star_ok [] X.env ns) rfl⟩
  · exact ⟨_, op1_str, fun e t p pos ns he hg => pe_callTy call_str_int hg (hb _ (by decide)) (by decide +kernel) (one_arg he ns) (by decide) (by decide) (star_ok [] X.env ns) rfl⟩

/-- an expression, as a value, as a test -/
structure Snd (X : Cx) (M : Nat → Bool) (bp : List (Nat × Addr)) (W : WX) (cls : Nat → Value) (e : Expr) (f : Env → R Vl) : Prop where
  pe : PE X e (tE X.K M bp W cls f)
  pt : PT X e (tT X.K M bp W cls f)
  pw : ∀ op vs pos, e = .BoolOp op vs pos → PW X e (tT X.K M bp W cls f)
theorem weakT {e : Expr} {t t' : TT} (h : PT X e t) (w : ∀ σ H Q, t' σ H Q → t σ H Q) : PT X e t' := ⟨fun pins s σ H Q I q => h.run pins s σ H Q I (w σ H Q q)⟩
theorem weakW {e : Expr} {t t' : TT} (h : PW X e t) (w : ∀ σ H Q, t' σ H Q → t σ H Q) : PW X e t' := ⟨fun wh pins s σ H Q I q => h.run wh pins s σ H Q I (w σ H Q q)⟩
theorem tT_of {f : Env → R Vl} (σ : L2.St) (H : Hp) (Q : Bool → Hp → Prop) (h : tT X.K M bp W cls f σ H Q) : tB (tE X.K M bp W cls f) σ H Q := by
  obtain ⟨Z, fpf, Hb, ρ, S, q⟩ := h
  refine ⟨Z, fpf, Hb, ρ, S, q.imp fun x ρ' fpf' Hb' H' e e1 S1 ⟨b, eb, qb⟩ v fp r => ?_⟩
  subst eb
  exact ⟨b, rp_bl r, qb⟩
/-- what is no test of its own kind -/
theorem Snd.val {e : Expr} {f : Env → R Vl} (h : PE X e (tE X.K M bp W cls f)) (he : ∀ whole, isTrue e X.env whole = (do let v ← whole; standAt e.pos; holding [v] (truthy v))) (nb : ∀ op vs pos, e ≠ .BoolOp op vs pos) : Snd X M bp W cls e f :=
  ⟨h, weakT (pt_val h he) tT_of, fun op vs pos q => absurd q (nb op vs pos)⟩
/-- from a test's rule whose reading is that of the value -/
theorem Snd.tst {e : Expr} {f : Env → R Vl} {t : TE} (h : PE X e t) (ht : PT X e (tB t)) (w : ∀ σ H Q, tE X.K M bp W cls f σ H Q → t σ H Q) (nb : ∀ op vs pos, e ≠ .BoolOp op vs pos) : Snd X M bp W cls e f :=
  ⟨weakE h w, weakT ht fun σ H Q q => w σ H _ (tT_of σ H Q q), fun op vs pos q => absurd q (nb op vs pos)⟩
theorem tT_then {f : Env → R Vl} {g : Vl → Env → R Vl} {σ : L2.St} {H : Hp} {Z : Fz} {fpf : Nat → List Addr} {Hb : Hp} {ρ : Env} {k : Vl → (Nat → List Addr) → Hp → Hp → Prop} {Q : Bool → Hp → Prop} (S : StR X.K M bp Z fpf Hb H σ ρ)
    (hg : ∀ x ρ1, (∀ b, x ≠ dv (.bl b)) → g x ρ1 = .bad) (h : Pst X.K M bp W cls Z Hb σ ((f ρ).bind g) k)
    (hq : ∀ b ρ1 fpf1 Hb1 H1, Same Hb Hb1 → StR X.K M bp Z fpf1 Hb1 H1 σ ρ1 → Pst X.K M bp W cls Z Hb1 σ (g (dv (.bl b)) ρ1) k → Q b H1) : tT X.K M bp W cls f σ H Q := by
  refine ⟨Z, fpf, Hb, ρ, S, h.bind.imp fun x ρ1 fpf1 Hb1 H1 e e1 S1 q => ?_⟩
  have q := q ρ1 e S1
  by_cases hb : ∃ b, x = dv (.bl b)
  · obtain ⟨b, rfl⟩ := hb
    exact ⟨b, rfl, hq b ρ1 fpf1 Hb1 H1 e1 S1 q⟩
  · rw [hg x ρ1 fun b e => hb ⟨b, e⟩] at q
    exact q.elim
def andV (fb : Env → R Vl) (x : Vl) (ρ1 : Env) : R Vl :=
  match x with
  | .ow (.d (.bl true)) => fb ρ1
  | .ow (.d (.bl false)) => .ok (dv (.bl false)) ρ1
  | _ => .bad
def orV (fb : Env → R Vl) (x : Vl) (ρ1 : Env) : R Vl :=
  match x with
  | .ow (.d (.bl true)) => .ok (dv (.bl true)) ρ1
  | .ow (.d (.bl false)) => fb ρ1
  | _ => .bad
theorem andV_bad {fb : Env → R Vl} (x : Vl) (ρ1 : Env) (h : ∀ b, x ≠ dv (.bl b)) : andV fb x ρ1 = .bad := by
  unfold andV; split
  · exact absurd rfl (h _)
  · exact absurd rfl (h _)
  · rfl
theorem orV_bad {fb : Env → R Vl} (x : Vl) (ρ1 : Env) (h : ∀ b, x ≠ dv (.bl b)) : orV fb x ρ1 = .bad := by
  unfold orV; split
  · exact absurd rfl (h _)
  · exact absurd rfl (h _)
  · rfl
theorem tE_and {fa fb : Env → R Vl} (σ : L2.St) (H : Hp) (Q : VK) (h : tE X.K M bp W cls (fun ρ => (fa ρ).bind (andV fb)) σ H Q) : tAndV (tE X.K M bp W cls fa) (tE X.K M bp W cls fb) σ H Q := by
  obtain ⟨Z, fpf, Hb, ρ, S, q⟩ := h
  refine tE_then S q fun x ρ1 fpf1 Hb1 H1 v fp1 e1 S1 r1 q => ?_
  by_cases hb : ∃ b, x = dv (.bl b)
  · obtain ⟨b, rfl⟩ := hb
    refine ⟨b, rp_bl r1, ?_⟩
    cases b with
    | true => exact iteT (B := Q (.bl false) H1) ⟨Z, fpf1, Hb1, ρ1, S1, q⟩
    | false => exact iteF (A := tE X.K M bp W cls fb σ H1 Q) (q Hb1 H1 fpf1 (fun _ _ e => e) S1 _ [] .bl)
  · rw [andV_bad x ρ1 fun b e => hb ⟨b, e⟩] at q
    exact q.elim
theorem tE_or {fa fb : Env → R Vl} (σ : L2.St) (H : Hp) (Q : VK) (h : tE X.K M bp W cls (fun ρ => (fa ρ).bind (orV fb)) σ H Q) : tOrV (tE X.K M bp W cls fa) (tE X.K M bp W cls fb) σ H Q := by
  obtain ⟨Z, fpf, Hb, ρ, S, q⟩ := h
  refine tE_then S q fun x ρ1 fpf1 Hb1 H1 v fp1 e1 S1 r1 q => ?_
  by_cases hb : ∃ b, x = dv (.bl b)
  · obtain ⟨b, rfl⟩ := hb
    refine ⟨b, rp_bl r1, ?_⟩
    cases b with
    | true => exact iteT (B := tE X.K M bp W cls fb σ H1 Q) (q Hb1 H1 fpf1 (fun _ _ e => e) S1 _ [] .bl)
    | false => exact iteF (A := Q (.bl true) H1) ⟨Z, fpf1, Hb1, ρ1, S1, q⟩
  · rw [orV_bad x ρ1 fun b e => hb ⟨b, e⟩] at q
    exact q.elim
theorem tT_and {fa fb : Env → R Vl} (σ : L2.St) (H : Hp) (Q : Bool → Hp → Prop) (h : tT X.K M bp W cls (fun ρ => (fa ρ).bind (andV fb)) σ H Q) : tAnd (tT X.K M bp W cls fa) (tT X.K M bp W cls fb) σ H Q := by
  obtain ⟨Z, fpf, Hb, ρ, S, q⟩ := h
  refine tT_then S andV_bad q fun b ρ1 fpf1 Hb1 H1 e1 S1 q => ?_
  cases b with
  | true => exact iteT (B := Q false H1) ⟨Z, fpf1, Hb1, ρ1, S1, q⟩
  | false =>
    obtain ⟨b, e, q⟩ := q Hb1 H1 fpf1 (fun _ _ e => e) S1
    cases e
    exact iteF (A := tT X.K M bp W cls fb σ H1 Q) q
theorem tT_or {fa fb : Env → R Vl} (σ : L2.St) (H : Hp) (Q : Bool → Hp → Prop) (h : tT X.K M bp W cls (fun ρ => (fa ρ).bind (orV fb)) σ H Q) : tOr (tT X.K M bp W cls fa) (tT X.K M bp W cls fb) σ H Q := by
  obtain ⟨Z, fpf, Hb, ρ, S, q⟩ := h
  refine tT_then S orV_bad q fun b ρ1 fpf1 Hb1 H1 e1 S1 q => ?_
  cases b with
  | false => exact iteF (A := Q true H1) ⟨Z, fpf1, Hb1, ρ1, S1, q⟩
  | true =>
    obtain ⟨b, e, q⟩ := q Hb1 H1 fpf1 (fun _ _ e => e) S1
    cases e
    exact iteT (B := tT X.K M bp W cls fb σ H1 Q) q
theorem Snd.and2 {l r : Expr} {pos : Pos} {fa fb : Env → R Vl} (ha : Snd X M bp W cls l fa) (hb : Snd X M bp W cls r fb) : Snd X M bp W cls (.BoolOp .And [l, r] pos) fun ρ => (fa ρ).bind (andV fb) :=
  ⟨weakE (pe_and ha.pe (pe_one hb.pe)) tE_and, weakT (pw_and ha.pt (pw_and1 hb.pt)).pt tT_and, fun _ _ _ _ => weakW (pw_and ha.pt (pw_and1 hb.pt)) tT_and⟩
theorem Snd.andN {l r : Expr} {rest : List Expr} {pos : Pos} {fa fb : Env → R Vl} (ha : Snd X M bp W cls l fa) (hb : Snd X M bp W cls (.BoolOp .And (r :: rest) pos) fb) : Snd X M bp W cls (.BoolOp .And (l :: r :: rest) pos) fun ρ => (fa ρ).bind (andV fb) :=
  ⟨weakE (pe_and ha.pe hb.pe) tE_and, weakT (pw_and ha.pt (hb.pw _ _ _ rfl)).pt tT_and, fun _ _ _ _ => weakW (pw_and ha.pt (hb.pw _ _ _ rfl)) tT_and⟩
theorem Snd.or2 {l r : Expr} {pos : Pos} {fa fb : Env → R Vl} (ha : Snd X M bp W cls l fa) (hb : Snd X M bp W cls r fb) : Snd X M bp W cls (.BoolOp .Or [l, r] pos) fun ρ => (fa ρ).bind (orV fb) :=
  ⟨weakE (pe_or ha.pe (pe_one hb.pe)) tE_or, weakT (pw_or ha.pt (pw_or1 hb.pt)).pt tT_or, fun _ _ _ _ => weakW (pw_or ha.pt (pw_or1 hb.pt)) tT_or⟩
theorem Snd.orN {l r : Expr} {rest : List Expr} {pos : Pos} {fa fb : Env → R Vl} (ha : Snd X M bp W cls l fa) (hb : Snd X M bp W cls (.BoolOp .Or (r :: rest) pos) fb) : Snd X M bp W cls (.BoolOp .Or (l :: r :: rest) pos) fun ρ => (fa ρ).bind (orV fb) :=
  ⟨weakE (pe_or ha.pe hb.pe) tE_or, weakT (pw_or ha.pt (hb.pw _ _ _ rfl)).pt tT_or, fun _ _ _ _ => weakW (pw_or ha.pt (hb.pw _ _ _ rfl)) tT_or⟩
theorem Snd.not {e : Expr} {pos : Pos} {f : Env → R Vl} (h : Snd X M bp W cls e f) : Snd X M bp W cls (.UnaryOp .Not e pos) fun ρ => (f ρ).bind fun x ρ1 => R.of (unV .not x) ρ1 := by
  refine ⟨weakE (pe_not h.pe) ?_, weakT (pt_not h.pt) ?_, fun _ _ _ e => nomatch e⟩
  · intro σ H Q q
    exact tE_un (op1_not (K := X.K)) σ H Q q
  · intro σ H Q q
    obtain ⟨Z, fpf, Hb, ρ, S, q⟩ := q
    refine tT_then S (fun x ρ1 hx => ?_) q fun b ρ1 fpf1 Hb1 H1 e1 S1 q => ?_
    · have : unV .not x = none := by
        unfold unV
        split
        all_goals first | rfl | (rename_i h; cases h; done) | skip
        all_goals (split <;> first | exact absurd rfl (hx _) | rfl)
      rw [this]
      rfl
    · obtain ⟨c, e, q⟩ := q Hb1 H1 fpf1 (fun _ _ e => e) S1
      cases e
      exact q
end
end WM

/-! WM: every expression is evaluated as the evaluator says. -/
namespace WM
open PySem PySem.Spec PyProof.Rows L2
section
variable {nm : Nm} {N : List Str} {C : CallS} {gv : Nat → Option D} {cls : Nat → Value} {k : Nat} {M : Nat → Bool} {bp : List (Nat × Addr)}
theorem isGl_ok {X : Cx} {sc : Scope} {x : Str} (hs : X.env.scope = sc) (h : isGl sc x = true) : Gl X x ∧ (x == ("__debug__" : Str)) = false ∧ x ≠ "__name__" := by
  unfold isGl dbg at h
  simp only [Bool.and_eq_true, Bool.not_eq_true', Bool.or_eq_false_iff, decide_eq_true_eq] at h
  refine ⟨?_, h.1.1.1, fun e => ?_⟩
  · show X.env.scope.names.lookup x = _
    rw [hs]; exact h.2
  · have := h.1.2
    rw [e] at this
    simp at this
theorem isLoc_ok {X : Cx} {sc : Scope} {i : Nat} {x : Str} {pos : Pos} (hs : X.env.scope = sc) (h : isLoc X.N sc i x = true) : PE X (.Name x pos) (tVar i) := by
  unfold isLoc dbg at h
  simp only [Bool.and_eq_true, Bool.not_eq_true', Bool.or_eq_false_iff, decide_eq_true_eq] at h
  refine pe_var h.1.1 ?_ h.1.2.1.1 h.1.2.1.2
  unfold Vis
  rw [hs]
  have q := h.2
  split at q
  · rename_i e; exact .inl e
  · rename_i e; exact .inr (.inl e)
  · rename_i e; exact .inr (.inr e)
  · cases q
theorem var_ok {X : Cx} {W : WX} {i : Nat} (σ : L2.St) (H : Hp) (Q : VK) (h : tE X.K M bp W cls (ev C gv M (.v i)) σ H Q) : tVar i σ H Q := by
  obtain ⟨Z, fpf, Hb, ρ, S, q⟩ := h
  simp only [ev] at q
  have lendL : ∀ {v : V} {os : List Ow} {f : List Addr}, RO X.K Hb H v (.l os) f → (∀ a ∈ f, Z.F a) → RVl X.K Z fpf Hb H v (.bw (.l os)) [] := fun r hF => ⟨_, r, hF, rfl⟩
  have lendM : ∀ {v : V} {ks : List (Int × Int)} {ds : List D} {f : List Addr}, RO X.K Hb H v (.m ks ds) f → (∀ a ∈ f, Z.F a) → RVl X.K Z fpf Hb H v (.bw (.m ks ds)) [] := fun r hF => ⟨_, r, hF, rfl⟩
  have datD : ∀ {v : V} {d : D} {f : List Addr}, RO X.K Hb H v (.d d) f → RVl X.K Z fpf Hb H v (dv d) [] := fun r => by cases r with | d r => exact .d r
  have own : ∀ o, ρ[i]? = some (.val o) ∨ ρ[i]? = some (.ref o) → (match o with
      | .d x => Pst X.K M bp W cls Z Hb σ (.ok (dv x) ρ) fun x fpf' Hb' H' => ∀ v fp, RVl X.K Z fpf' Hb' H' v x fp → Q v H'
      | .l os => Pst X.K M bp W cls Z Hb σ (if M i = true then .bad else .ok (.bw (.l os)) ρ) fun x fpf' Hb' H' => ∀ v fp, RVl X.K Z fpf' Hb' H' v x fp → Q v H'
      | .m ks ds => Pst X.K M bp W cls Z Hb σ (if M i = true then .bad else .ok (.bw (.m ks ds)) ρ) fun x fpf' Hb' H' => ∀ v fp, RVl X.K Z fpf' Hb' H' v x fp → Q v H') → tVar i σ H Q := by
    intro o ho q
    have k : if M i = true then ∃ v, σ[i]? = some (some v) ∧ RO X.K Hb H v o (fpf i) else ∃ v fp, σ[i]? = some (some v) ∧ RO X.K Hb H v o fp ∧ ∀ a ∈ fp, Z.F a := by
      rcases ho with ho | ho
      · exact S.sl i _ ho
      · exact (S.sl i _ ho).2
    cases o with
    | d x =>
      split at k
      · obtain ⟨v, h1, h2⟩ := k; exact ⟨v, h1, q Hb H fpf (fun _ _ e => e) S v [] (datD h2)⟩
      · obtain ⟨v, f, h1, h2, _⟩ := k; exact ⟨v, h1, q Hb H fpf (fun _ _ e => e) S v [] (datD h2)⟩
    | l os =>
      split at k
      · rename_i hM; dsimp only at q; rw [if_pos hM] at q; exact q.elim
      · rename_i hM; dsimp only at q; rw [if_neg hM] at q
        obtain ⟨v, f, h1, h2, h3⟩ := k
        exact ⟨v, h1, q Hb H fpf (fun _ _ e => e) S v [] (lendL h2 h3)⟩
    | m ks ds =>
      split at k
      · rename_i hM; dsimp only at q; rw [if_pos hM] at q; exact q.elim
      · rename_i hM; dsimp only at q; rw [if_neg hM] at q
        obtain ⟨v, f, h1, h2, h3⟩ := k
        exact ⟨v, h1, q Hb H fpf (fun _ _ e => e) S v [] (lendM h2 h3)⟩
  split at q
  · rename_i o ho
    refine own o (.inl ho) ?_
    cases o <;> exact q
  · rename_i o ho
    refine own o (.inr ho) ?_
    cases o <;> exact q
  · rename_i o ho
    obtain ⟨v, f, h1, h2, h3⟩ := S.sl i _ ho
    refine ⟨v, h1, q Hb H fpf (fun _ _ e => e) S v [] ?_⟩
    cases o with
    | d x => exact datD h2
    | l os => exact lendL h2 h3
    | m _ _ => exact lendM h2 h3
  · exact q.elim
theorem mv_ok {X : Cx} {W : WX} {i : Nat} (σ : L2.St) (H : Hp) (Q : VK) (h : tE X.K M bp W cls (ev C gv M (.mv i)) σ H Q) : tVar i σ H Q := by
  obtain ⟨Z, fpf, Hb, ρ, S, q⟩ := h
  simp only [ev] at q
  have core : ∀ o, ρ[i]? = some (.val o) → Pst X.K M bp W cls Z Hb σ (if M i = true then .ok (.ow o) (ρ.set i .no) else .bad) (fun x fpf' Hb' H' => ∀ v fp, RVl X.K Z fpf' Hb' H' v x fp → Q v H') → tVar i σ H Q := by
    clear q
    intro os ho q
    split at q
    · rename_i hM
      have k := S.sl i _ ho
      dsimp only at k
      rw [if_pos hM] at k
      obtain ⟨v, h1, h2⟩ := k
      have hl : i < ρ.length := (List.getElem?_eq_some_iff.mp ho).1
      have S' : StR X.K M bp Z (fun j => if j = i then [] else fpf j) Hb H σ (ρ.set i .no) := by
        refine ⟨S.ex, S.fr, by rw [List.length_set]; exact S.len, fun j s hj => ?_, fun a b hab => ?_, fun j a ha => ?_, fun j a ha => ?_, fun j hj => ?_⟩
        · by_cases e : j = i
          · subst e
            rw [List.getElem?_set_self hl] at hj
            cases hj; trivial
          · rw [List.getElem?_set_ne (Ne.symm e)] at hj
            have q := S.sl j s hj
            try dsimp only
            rw [if_neg e]
            exact q
        · try dsimp only
          intro x hx hy
          split at hx
          · cases hx
          · split at hy
            · cases hy
            · exact S.sep a b hab x hx hy
        · try dsimp only at ha
          split at ha
          · cases ha
          · exact S.nf j a ha
        · try dsimp only at ha
          split at ha
          · cases ha
          · exact S.hb j a ha
        · try dsimp only
          split
          · rfl
          · exact S.off j hj
      refine ⟨v, h1, q Hb H _ (fun _ _ e => e) S' v (fpf i) ⟨h2, S.nf i, fun j a ha hb => ?_⟩⟩
      try dsimp only at ha
      split at ha
      · cases ha
      · rename_i e; exact S.sep j i e a ha hb
    · exact q.elim
  split at q
  · rename_i os ho
    exact core _ ho q
  · rename_i ks ds ho
    exact core _ ho q
  · exact q.elim
theorem lit_ok {X : Cx} {W : WX} {x : D} {c : Const} {j : Nat} {pos : Pos} (h : okC x c = true) : PE X (.Constant c j pos) (tE X.K M bp W cls (ev C gv M (.c x))) := by
  have key : ∀ {v : V}, PE X (.Constant c j pos) (tC v) → (∀ H, Rp X.K H v x) → PE X (.Constant c j pos) (tE X.K M bp W cls (ev C gv M (.c x))) := fun {v} hp hr => weakE hp fun σ H Q q => by
    obtain ⟨Z, fpf, Hb, ρ, S, q⟩ := q
    exact q Hb H fpf (fun _ _ e => e) S v [] (.d (hr Hb))
  cases x <;> cases c <;> simp only [okC, Bool.false_eq_true, decide_eq_true_eq] at h
  · exact key pe_non fun _ => .non
  · subst h; exact key pe_bl fun _ => .bl _
  · subst h; exact key pe_int fun _ => .int _
  · subst h; exact key pe_str fun _ => .str _
def IAs.len : IAs → Nat
  | .nil => 0
  | .val _ as => as.len + 1
  | .ref _ as => as.len + 1
theorem okAs_len : ∀ {as : IAs} {sc : Scope} {es : List Expr}, okAs nm N as sc es = true → as.len = es.length
  | .nil, _, [], _ => rfl
  | .val e as, sc, x :: xs, h => by
    have h : (okE nm N e sc x && okAs nm N as sc xs) = true := by simpa [okAs] using h
    rw [Bool.and_eq_true] at h
    simp [IAs.len, okAs_len h.2]
  | .ref i as, sc, x :: xs, h => by
    cases x with
    | Name y p =>
      have h : (isLoc N sc i y && okAs nm N as sc xs) = true := by simpa [okAs] using h
      rw [Bool.and_eq_true] at h
      simp [IAs.len, okAs_len h.2]
    | _ => simp [okAs] at h
  | .nil, _, _ :: _, h => by simp [okAs] at h
  | .val _ _, _, [], h => by simp [okAs] at h
  | .ref _ _, _, [], h => by simp [okAs] at h
theorem evA_len : ∀ {as : IAs} {ρ ρ' : Env} {ags : List Ag}, evA C gv M as ρ = .ok ags ρ' → ags.length = as.len
  | .nil, _, _, _, h => by simp only [evA] at h; cases h; rfl
  | .val e as, ρ, ρ', ags, h => by
    simp only [evA] at h
    cases h1 : ev C gv M e ρ with
    | ok x ρ1 =>
      rw [h1] at h
      simp only [R.bind] at h
      cases h2 : evA C gv M as ρ1 with
      | ok xs ρ2 =>
        rw [h2] at h
        cases h
        simp [IAs.len, evA_len h2]
      | exc c ρ2 => rw [h2] at h; cases h
      | bad => rw [h2] at h; cases h
    | exc c ρ1 => rw [h1] at h; cases h
    | bad => rw [h1] at h; cases h
  | .ref i as, ρ, ρ', ags, h => by
    simp only [evA] at h
    have key : ((evA C gv M as ρ).bind fun xs ρ2 => (.ok (.r i :: xs) ρ2 : R (List Ag))) = .ok ags ρ' → ags.length = (IAs.ref i as).len := fun h => by
      cases h2 : evA C gv M as ρ with
      | ok xs ρ2 =>
        rw [h2] at h
        cases h
        simp [IAs.len, evA_len h2]
      | exc c ρ2 => rw [h2] at h; cases h
      | bad => rw [h2] at h; cases h
    split at h
    · exact key h
    · exact key h
    · exact key h
    · exact key h
    · cases h
theorem tyNm_ok (t : Ty) : bootBuiltins t.nm = some (.type (match t with | .int => "int" | .bool => "bool" | .tuple => "tuple" | .list => "list" | .str => "str")) := by
  cases t <;> decide +kernel
/-- the class of a value that we bear -/
def tyS : D → String
  | .non => "NoneType" | .bl _ => "bool" | .int _ => "int" | .str _ => "str" | .tup _ => "tuple" | .lst _ => "list" | .scr _ => "list" | .dic _ _ => "dict"
def Ty.s : Ty → String
  | .int => "int" | .bool => "bool" | .tuple => "tuple" | .list => "list" | .str => "str"
theorem kit_all (K : PySem.W.Frag) (t : Ty) (d : D) : PySem.W.kitOne K (.type (tyS d)) (.type t.s) = some (isaV t d) := by
  cases t <;> cases d <;> (refine kit_ty ?_; simp only [tyS, Ty.s, isaV]; decide +kernel)
theorem rd_list {K : PySem.W.Frag} {H : Hp} {a : Addr} {vs : List V} (h : SqL K H a vs) : TyX K H (.ref a) (.type "list") := by
  rcases h with (h | ⟨o, h⟩) | ⟨o, its, n, h1, h2, _⟩
  · exact .base (.lst h)
  · exact .base (.frz h)
  · exact .kList h1 h2
theorem rd_tuple {K : PySem.W.Frag} {H : Hp} {a : Addr} {vs : List V} (h : SqT K H a vs) : TyX K H (.ref a) (.type "tuple") := by
  rcases h with (h | ⟨o, h⟩) | ⟨o, its, n, h1, h2, _⟩
  · exact .base (.tup h)
  · exact .fTuple h
  · exact .kTuple h1 h2
theorem ty_of {K : PySem.W.Frag} {M : Nat → Bool} {Z : Fz} {fpf : Nat → List Addr} {Hb H : Hp} {σ : L2.St} {ρ : Env} {v : V} {x : Vl} {fp : List Addr} (S : StR K M bp Z fpf Hb H σ ρ) (r : RVl K Z fpf Hb H v x fp) : TyX K H v (.type (tyS x.look)) := by
  obtain ⟨o, f, e, h⟩ := r.ro
  have eo : x.look = o.toD := by rcases e with rfl | rfl <;> rfl
  rw [eo]
  cases h with
  | d h =>
    cases h with
    | non => exact .base .non
    | bl b => exact .base (.bl b)
    | int i => exact .base (.int i)
    | str s => exact .base (.str s)
    | tup h1 _ => exact rd_tuple (same_t S.ex h1)
    | lst h1 _ => exact rd_list (SqL.of (S.ex _ _ h1))
    | scr h1 => exact rd_list (S.ex.seq h1)
    | dic h1 _ _ => exact .base (.dT (S.ex _ _ h1))
  | l h1 h2 => exact rd_list (SqL.of h2)
  | m h1 h2 _ _ => exact .base (.dT h2)
theorem isa_ok {X : Cx} {W : WX} {f : Env → R Vl} {t : Ty} {e : Expr} {p p2 pos : Pos} (h : PE X e (tE X.K M bp W cls f)) (ns : notStar e = true) (hg : Gl X "isinstance") (hm : X.mg "isinstance" = none) (hg2 : Gl X t.nm) (hm2 : X.mg t.nm = none) :
    PE X (.Call (.Name "isinstance" p) [e, .Name t.nm p2] [] pos) (tE X.K M bp W cls fun ρ => (f ρ).bind fun x ρ1 => .ok (dv (.bl (isaV t x.look))) ρ1) := by
  have hb : bootBuiltins t.nm = some (.type t.s) := tyNm_ok t
  have h2 : PE X (.Name t.nm p2) (tC (.ty t.s)) := pe_bltn hg2 hm2 hb rfl (by cases t <;> decide) (by cases t <;> decide)
  refine weakE (pe_callB call_isi hg hm (by decide +kernel) (two_arg h h2 ns rfl) (by decide) (by decide) (star2 ns rfl) rfl) fun σ H Q q => ?_
  obtain ⟨Z, fpf, Hb, ρ, S, q⟩ := q
  refine tE_then S q fun x ρ1 fpf1 Hb1 H1 v fp1 e1 S1 r1 q1 => ?_
  exact ⟨v, .ty t.s, _, _, _, rfl, .ty _, ty_of S1 r1, kit_all _ t x.look, q1 Hb1 H1 fpf1 (fun _ _ e => e) S1 _ [] .bl⟩
end
end WM

/-! WM: every expression is evaluated as the evaluator says. -/
namespace WM
open PySem PySem.Spec PyProof.Rows L2
section
variable {nm : Nm} {N : List Str} {C : CallS} {gv : Nat → Option D} {cls : Nat → Value} {k : Nat} {M : Nat → Bool} {bp : List (Nat × Addr)}
theorem and2 {a b : Bool} (h : (a && b) = true) : a = true ∧ b = true := by rwa [Bool.and_eq_true] at h
theorem takesN0 {X : Cx} : L2N.Takes X (fun _ _ _ _ => False) := fun _ _ x => by
  obtain ⟨_, _, _, _, _, _, _, _, _, _, _, _, _, _, _, _, z⟩ := x
  exact z.elim
theorem wEx {X : Cx} : L2N.Takes X W0 := takesN0
theorem tL_nil {K : PySem.W.Frag} {W : WX} (σ : L2.St) (H : Hp) (Q : List V → Hp → Prop) (h : tL K M bp W cls (fun ρ => .ok [] ρ) σ H Q) : tNil σ H Q := by
  obtain ⟨Z, fpf, Hb, ρ, S, q⟩ := h
  exact q Hb H fpf (fun _ _ e => e) S [] [] .nil
theorem RVls.kept {K : PySem.W.Frag} {Z : Fz} {fpf fpf' : Nat → List Addr} {Hb Hb' H H' : Hp} {σ : L2.St} {ρ : Env} : True := trivial
theorem drops {K : PySem.W.Frag} {Z : Fz} {Hq : Hp} {fp1 : List Addr} {fpf : Nat → List Addr} {Hb H : Hp} : ∀ {vs : List V} {xs : List Vl} {fp : List Addr}, RVls K (Z.more Hq fp1) fpf Hb H vs xs fp → RVls K Z fpf Hb H vs xs fp ∧ Disj fp1 fp
  | _, _, _, .nil => ⟨.nil, fun _ _ h => (nomatch h)⟩
  | _, _, _, .cons r t d => by
    obtain ⟨h1, h2⟩ := drops t
    obtain ⟨g1, g2⟩ := r.drop
    exact ⟨.cons g1 h1 d, fun a ha hb => (List.mem_append.mp hb).elim (g2 a ha) (h2 a ha)⟩
theorem tL_cons {K : PySem.W.Frag} {W : WX} {fe : Env → R Vl} {fs : Env → R (List Vl)} (σ : L2.St) (H : Hp) (Q : List V → Hp → Prop) (h : tL K M bp W cls (fun ρ => (fe ρ).bind fun x ρ1 => (fs ρ1).bind fun xs ρ2 => .ok (x :: xs) ρ2) σ H Q) :
    tCons (tE K M bp W cls fe) (tL K M bp W cls fs) σ H Q := by
  obtain ⟨Z, fpf, Hb, ρ, S, q⟩ := h
  refine tE_then S q fun x ρ1 fpf1 Hb1 H1 v fp1 e1 S1 r1 q => ?_
  refine ⟨_, _, _, _, S1.hold r1, (q.bind.more (fp := fp1) S1).imp fun xs ρ2 fpf2 Hb2 H2 e e2 S2 q2 vs fp2 r2 => ?_⟩
  have S2' := S2.letgo fun a ha => (S1.fr a ha).1
  obtain ⟨r2', dj⟩ := drops r2
  exact q2 ρ2 S2 e ρ2 e S2' Hb2 H2 fpf2 (fun _ _ e => e) S2' (v :: vs) (fp1 ++ fp2) (.cons (r1.kept S1 e2 S2) r2' dj)
theorem tAg_nil {K : PySem.W.Frag} {W : WX} (σ : L2.St) (H : Hp) (Q : List V → Hp → Prop) (h : tAg K M bp W cls (fun ρ => .ok [] ρ) σ H Q) : tNil σ H Q := by
  obtain ⟨Z, fpf, Hb, ρ, S, q⟩ := h
  exact q Hb H fpf (fun _ _ e => e) S [] [] .nil
theorem dropA {K : PySem.W.Frag} {Z : Fz} {Hq : Hp} {fp1 : List Addr} {fpf : Nat → List Addr} {Hb H : Hp} {σ : L2.St} : ∀ {vs : List V} {xs : List Ag} {fp : List Addr}, RAgs K (Z.more Hq fp1) fpf Hb H σ vs xs fp → RAgs K Z fpf Hb H σ vs xs fp ∧ Disj fp1 fp
  | _, _, _, .nil => ⟨.nil, fun _ _ h => (nomatch h)⟩
  | _, _, _, .v r t d => by
    obtain ⟨h1, h2⟩ := dropA t
    obtain ⟨g1, g2⟩ := r.drop
    exact ⟨.v g1 h1 d, fun a ha hb => (List.mem_append.mp hb).elim (g2 a ha) (h2 a ha)⟩
  | _, _, _, .r hs t => by
    obtain ⟨h1, h2⟩ := dropA t
    exact ⟨.r hs h1, h2⟩
theorem tAg_val {K : PySem.W.Frag} {W : WX} {fe : Env → R Vl} {fs : Env → R (List Ag)} (σ : L2.St) (H : Hp) (Q : List V → Hp → Prop) (h : tAg K M bp W cls (fun ρ => (fe ρ).bind fun x ρ1 => (fs ρ1).bind fun xs ρ2 => .ok (.v x :: xs) ρ2) σ H Q) :
    tCons (tE K M bp W cls fe) (tAg K M bp W cls fs) σ H Q := by
  obtain ⟨Z, fpf, Hb, ρ, S, q⟩ := h
  refine tE_then S q fun x ρ1 fpf1 Hb1 H1 v fp1 e1 S1 r1 q => ?_
  refine ⟨_, _, _, _, S1.hold r1, (q.bind.more (fp := fp1) S1).imp fun xs ρ2 fpf2 Hb2 H2 e e2 S2 q2 vs fp2 r2 => ?_⟩
  have S2' := S2.letgo fun a ha => (S1.fr a ha).1
  obtain ⟨r2', dj⟩ := dropA r2
  exact q2 ρ2 S2 e ρ2 e S2' Hb2 H2 fpf2 (fun _ _ e => e) S2' (v :: vs) (fp1 ++ fp2) (.v (r1.kept S1 e2 S2) r2' dj)
theorem tAg_ref {K : PySem.W.Frag} {W : WX} {i : Nat} {fs : Env → R (List Ag)} (σ : L2.St) (H : Hp) (Q : List V → Hp → Prop) (h : tAg K M bp W cls (fun ρ => match ρ[i]? with
      | some (.val (.l _)) => (fs ρ).bind fun xs ρ2 => .ok (.r i :: xs) ρ2
      | some (.ref (.l _)) => (fs ρ).bind fun xs ρ2 => .ok (.r i :: xs) ρ2
      | some (.val (.m _ _)) => (fs ρ).bind fun xs ρ2 => .ok (.r i :: xs) ρ2
      | some (.ref (.m _ _)) => (fs ρ).bind fun xs ρ2 => .ok (.r i :: xs) ρ2
      | _ => .bad) σ H Q) : tCons (tVar i) (tAg K M bp W cls fs) σ H Q := by
  obtain ⟨Z, fpf, Hb, ρ, S, q⟩ := h
  have key : ∀ v, σ[i]? = some (some v) → Pst K M bp W cls Z Hb σ ((fs ρ).bind fun xs ρ2 => .ok (.r i :: xs) ρ2) (fun xs fpf' Hb' H' => ∀ vs fp, RAgs K Z fpf' Hb' H' σ vs xs fp → Q vs H') → tCons (tVar i) (tAg K M bp W cls fs) σ H Q := fun v hv q => by
    refine ⟨v, hv, Z, fpf, Hb, ρ, S, q.bind.imp fun xs ρ2 fpf2 Hb2 H2 e e2 S2 q2 vs fp r => ?_⟩
    exact q2 ρ2 e S2 Hb2 H2 fpf2 (fun _ _ e => e) S2 (v :: vs) fp (.r hv r)
  have sv : ∀ o, (ρ[i]? = some (.val o) ∨ ρ[i]? = some (.ref o)) → ∃ v, σ[i]? = some (some v) := fun o ho => by
    have k : if M i = true then ∃ v, σ[i]? = some (some v) ∧ RO K Hb H v o (fpf i) else ∃ v fp, σ[i]? = some (some v) ∧ RO K Hb H v o fp ∧ ∀ a ∈ fp, Z.F a := by
      rcases ho with ho | ho
      · exact S.sl i _ ho
      · exact (S.sl i _ ho).2
    split at k
    · obtain ⟨v, h, _⟩ := k; exact ⟨v, h⟩
    · obtain ⟨v, _, h, _⟩ := k; exact ⟨v, h⟩
  dsimp only at q
  split at q
  · rename_i os ho; obtain ⟨v, hv⟩ := sv _ (.inl ho); exact key v hv q
  · rename_i os ho; obtain ⟨v, hv⟩ := sv _ (.inr ho); exact key v hv q
  · rename_i ho; obtain ⟨v, hv⟩ := sv _ (.inl ho); exact key v hv q
  · rename_i ho; obtain ⟨v, hv⟩ := sv _ (.inr ho); exact key v hv q
  · exact q.elim
theorem mapM_cons {α β : Type} {f : α → Option β} {x : α} {xs : List α} {r : List β} (h : (x :: xs).mapM f = some r) : ∃ y ys, f x = some y ∧ xs.mapM f = some ys ∧ r = y :: ys := by
  rw [List.mapM_cons] at h
  obtain ⟨y, h1, h2⟩ := Option.bind_eq_some_iff.mp h
  obtain ⟨ys, h3, h4⟩ := Option.bind_eq_some_iff.mp h2
  exact ⟨y, ys, h1, h3, (Option.some.inj h4).symm⟩
/-- all in hand frozen -/
theorem datas {K : PySem.W.Frag} {Z : Fz} {fpf : Nat → List Addr} {σ : L2.St} {ρ : Env} {H : Hp} : ∀ {vs : List V} {xs : List Vl} {fp : List Addr} {ds : List D} {Hb : Hp}, StR K M bp Z fpf Hb H σ ρ → RVls K Z fpf Hb H vs xs fp → xs.mapM Vl.data = some ds →
    ∃ Hb', Same Hb Hb' ∧ StR K M bp Z fpf Hb' H σ ρ ∧ RpL K Hb' vs ds ∧ ∀ a, Hb' a ≠ none → Hb a ≠ none ∨ a ∈ fp
  | _, _, _, _, Hb, S, .nil, h => by cases h; exact ⟨Hb, fun _ _ e => e, S, .nil, fun _ h => .inl h⟩
  | _, _, _, _, Hb, S, .cons (f1 := f1) (f2 := f2) r t dj, h => by
    obtain ⟨d, ds, h1, h2, rfl⟩ := mapM_cons h
    obtain ⟨Hb1, e1, S1, h3, nn⟩ := datas S t h2
    have nf : ∀ a ∈ f1, Hb a = none := fun a ha => by
      rename_i x _
      cases x with
      | ow o => exact (r.1.at_ a ha).1
      | bw o => obtain ⟨_, _, _, e⟩ := r; subst e; cases ha
    have r' := r.stepF S e1 (fun a ha => by
      cases q : Hb1 a with
      | none => rfl
      | some o =>
        rcases nn a (by rw [q]; exact nofun) with h | h
        · exact absurd (nf a ha) h
        · exact (dj a ha h).elim) fun a ha => (S1.fr a (.inl ha)).2.1
    rename_i x _
    cases x with
    | ow o =>
      cases h1
      obtain ⟨S2, e2⟩ := S1.froze (fun a ha => (r'.1.at_ a ha).1) r'.2.1 r'.2.2
      refine ⟨_, e1.trans e2, S2, .cons (RO.frz e2 o _ f1 r'.1 fun a h => h) (RpL.mono e2 _ _ h3), fun a ha => ?_⟩
      unfold froze at ha
      split at ha
      · rename_i hm; exact .inr (List.mem_append_left _ hm)
      · exact (nn a ha).imp id (List.mem_append_right _)
    | bw o =>
      cases o with
      | d x =>
        cases h1
        obtain ⟨f, g1, _, _⟩ := r'
        cases g1 with
        | d g1 => exact ⟨Hb1, e1, S1, .cons g1 h3, fun a ha => (nn a ha).imp id (List.mem_append_right _)⟩
      | l os => cases h1
      | m _ _ => cases h1
theorem owns {K : PySem.W.Frag} {Z : Fz} {fpf : Nat → List Addr} {Hb H : Hp} : ∀ {vs : List V} {xs : List Vl} {fp : List Addr} {os : List Ow}, RVls K Z fpf Hb H vs xs fp → xs.mapM Vl.own = some os →
    ROs K Hb H vs os fp ∧ (∀ a ∈ fp, ¬ (Z.F a ∨ Z.G a)) ∧ ∀ i, Disj (fpf i) fp
  | _, _, _, _, .nil, h => by cases h; exact ⟨.nil, fun _ h => (nomatch h), fun _ _ _ h => (nomatch h)⟩
  | _, _, _, _, .cons r t dj, h => by
    obtain ⟨o, os, h1, h2, rfl⟩ := mapM_cons h
    obtain ⟨g1, g2, g3⟩ := owns t h2
    have r' := own_rvl r h1
    exact ⟨.cons r'.1 g1 dj, fun a ha => (List.mem_append.mp ha).elim (r'.2.1 a) (g2 a), fun i a hi ha => (List.mem_append.mp ha).elim (r'.2.2 i a hi) (g3 i a hi)⟩


theorem isN_inv {a : IE} {sc : Scope} {l : Expr} {ops : List CmpOp} {rs : List Expr} {pos : Pos} (h : okE nm N (.un .isN a) sc (.Compare l ops rs pos) = true) : ∃ j p2, ops = [.Is] ∧ rs = [.Constant .none j p2] ∧ okE nm N a sc l = true := by
  match ops, rs with
  | [], _ => simp [okE] at h
  | _ :: _ :: _, _ => simp [okE] at h
  | [_], [] => simp [okE] at h
  | [_], _ :: _ :: _ => simp [okE] at h
  | [op], [r] =>
    cases op <;> first | (simp [okE] at h; done) | skip
    cases r <;> first | (simp [okE] at h; done) | skip
    rename_i c j p2
    cases c <;> first | (simp [okE] at h; done) | skip
    exact ⟨j, p2, rfl, rfl, by simpa [okE] using h⟩
theorem notN_inv {a : IE} {sc : Scope} {l : Expr} {ops : List CmpOp} {rs : List Expr} {pos : Pos} (h : okE nm N (.un .notN a) sc (.Compare l ops rs pos) = true) : ∃ j p2, ops = [.IsNot] ∧ rs = [.Constant .none j p2] ∧ okE nm N a sc l = true := by
  match ops, rs with
  | [], _ => simp [okE] at h
  | _ :: _ :: _, _ => simp [okE] at h
  | [_], [] => simp [okE] at h
  | [_], _ :: _ :: _ => simp [okE] at h
  | [op], [r] =>
    cases op <;> first | (simp [okE] at h; done) | skip
    cases r <;> first | (simp [okE] at h; done) | skip
    rename_i c j p2
    cases c <;> first | (simp [okE] at h; done) | skip
    exact ⟨j, p2, rfl, rfl, by simpa [okE] using h⟩
theorem plainIx_ok {b : Expr} (h : plainIx b = true) : PlainIx b := by
  cases b <;> first | (cases h; done) | exact fun _ _ => rfl
theorem pe_call0S {X : Cx} {CX : CXT} {f : Addr} {fd : FuncData} {ps : List Str} {sp : Sp} {E : L2.St → XK} {x : Str} {p pos : Pos} (F : FnOk X.prog X.w X.K X.mg X.base CX k f fd ps sp) (hr : Room k X.A) (hg : Gl X x) (hm : X.mg x = some (.ref f)) (hk : PySem.W.keepIn X.K (.ref f) = true) (hb : L2.Binds X.K fd ps []) (hx : ∀ σ, PassesAt CX X σ (E σ))
    (hdb : (x == ("__debug__" : Str)) = false) : PE X (.Call (.Name x p) [] [] pos) (tCallS sp E tNil) := by
  refine ⟨fun pins s σ H Q I h => ?_⟩
  refine wpAny_Call_Name_kw (ld_glob I hg hm ?_ hdb)
  exact PySem.W.callWith_K0 I.kIn hk (run_fnS (us := []) F hr hb (hx σ) I .nil h)
theorem okAs_ns {as : IAs} {sc : Scope} {x : Expr} {xs : List Expr} {pos : Pos} {env : PySem.Env} (h : okAs nm N as sc (x :: xs) = true) : starEach (x :: xs) env = (false, eval x env) :: starEach xs env ∧ (backTo pos (starEach xs env)).any (·.1) = false := by
  cases as with
  | nil => simp [okAs] at h
  | val e es =>
    have h : (okE nm N e sc x && okAs nm N es sc xs) = true := by simpa [okAs] using h
    obtain ⟨h1, h2⟩ := and2 h
    exact ⟨star_ok xs env (okE_ns h1), okAs_star h2⟩
  | ref i es =>
    cases x with
    | Name y p =>
      have h : (isLoc N sc i y && okAs nm N es sc xs) = true := by simpa [okAs] using h
      obtain ⟨h1, h2⟩ := and2 h
      exact ⟨star_ok xs env rfl, okAs_star h2⟩
    | _ => simp [okAs] at h
theorem bname {X : Cx} {sc : Scope} {x : Str} (hX : XOk nm C gv cls k X) (hs : X.env.scope = sc) (h : isGl sc x = true) (hb : x ∈ bnames) : Gl X x ∧ X.mg x = none := ⟨(isGl_ok hs h).1, hX.bi x hb⟩
theorem max2_inv {a b : IE} {sc : Scope} {e : Expr} (h : okE nm N (.max2 a b) sc e = true) : ∃ x l r p pos, e = .Call (.Name x p) [l, r] [] pos ∧ (decide (x = "max") && isGl sc x && okE nm N a sc l && okE nm N b sc r) = true := by
  cases e with
  | Call fe args kws pos =>
    cases fe with
    | Name x p =>
      match args, kws with
      | [l, r], [] => exact ⟨x, l, r, p, pos, rfl, by simpa [okE] using h⟩
      | [], _ => simp [okE] at h
      | [_], _ => simp [okE] at h
      | _ :: _ :: _ :: _, _ => simp [okE] at h
      | [_, _], _ :: _ => simp [okE] at h
    | _ => simp [okE] at h
  | _ => simp [okE] at h
theorem min2_inv {a b : IE} {sc : Scope} {e : Expr} (h : okE nm N (.min2 a b) sc e = true) : ∃ x l r p pos, e = .Call (.Name x p) [l, r] [] pos ∧ (decide (x = "min") && isGl sc x && okE nm N a sc l && okE nm N b sc r) = true := by
  cases e with
  | Call fe args kws pos =>
    cases fe with
    | Name x p =>
      match args, kws with
      | [l, r], [] => exact ⟨x, l, r, p, pos, rfl, by simpa [okE] using h⟩
      | [], _ => simp [okE] at h
      | [_], _ => simp [okE] at h
      | _ :: _ :: _ :: _, _ => simp [okE] at h
      | [_, _], _ :: _ => simp [okE] at h
    | _ => simp [okE] at h
  | _ => simp [okE] at h
theorem isa_inv {t : Ty} {a : IE} {sc : Scope} {e : Expr} (h : okE nm N (.isa t a) sc e = true) : ∃ x y l p p2 pos, e = .Call (.Name x p) [l, .Name y p2] [] pos ∧ (decide (x = "isinstance") && isGl sc x && okE nm N a sc l && decide (y = t.nm) && isGl sc y) = true := by
  cases e with
  | Call fe args kws pos =>
    cases fe with
    | Name x p =>
      match args, kws with
      | [l, r], [] =>
        cases r with
        | Name y p2 => exact ⟨x, y, l, p, p2, pos, rfl, by simpa [okE] using h⟩
        | _ => simp [okE] at h
      | [], _ => simp [okE] at h
      | [_], _ => simp [okE] at h
      | _ :: _ :: _ :: _, _ => simp [okE] at h
      | [_, _], _ :: _ => simp [okE] at h
    | _ => simp [okE] at h
  | _ => simp [okE] at h
theorem sl_inv {a : IE} {lo hi : IO} {sc : Scope} {e : Expr} (h : okE nm N (.sl a lo hi) sc e = true) : ∃ l lo' hi' p2 pos, e = .Subscript l (.Slice lo' hi' none p2) pos ∧ (okE nm N a sc l && okO nm N lo sc lo' && okO nm N hi sc hi') = true := by
  cases e with
  | Subscript l r pos =>
    cases r with
    | Slice lo' hi' st p2 =>
      cases st with
      | none => exact ⟨l, lo', hi', p2, pos, rfl, by simpa [okE] using h⟩
      | some _ => simp [okE] at h
    | _ => simp [okE] at h
  | _ => simp [okE] at h
theorem lrng_inv {a : IE} {sc : Scope} {e : Expr} (h : okE nm N (.lrng a) sc e = true) : ∃ x y l p1 p2 p3 p4, e = .Call (.Name x p1) [.Call (.Name y p2) [l] [] p3] [] p4 ∧ (decide (x = "list") && isGl sc x && decide (y = "range") && isGl sc y && okE nm N a sc l) = true := by
  cases e with
  | Call fe args kws pos =>
    cases fe with
    | Name x p =>
      match args, kws with
      | [r], [] =>
        cases r with
        | Call fe2 args2 kws2 pos2 =>
          cases fe2 with
          | Name y p2 =>
            match args2, kws2 with
            | [l], [] => exact ⟨x, y, l, p, p2, pos2, pos, rfl, by simpa [okE] using h⟩
            | [], _ => simp [okE] at h
            | _ :: _ :: _, _ => simp [okE] at h
            | [_], _ :: _ => simp [okE] at h
          | _ => simp [okE] at h
        | _ => simp [okE] at h
      | [], _ => simp [okE] at h
      | _ :: _ :: _, _ => simp [okE] at h
      | [_], _ :: _ => simp [okE] at h
    | _ => simp [okE] at h
  | _ => simp [okE] at h
theorem nmC_base {o : Expr} {m : Str} {env : PySem.Env} (h : nmC o = true) : attributeBase o m env (eval o env) = eval o env := by
  cases o <;> first | (cases h; done) | rfl
theorem tM1_of {fa fb : Env → R Vl} {op : Vl → Vl → Option Vl} {r : V → List V → Hp → VK → Prop} {K : PySem.W.Frag} {M : Nat → Bool} {bp : List (Nat × Addr)} {W : WX} {cls : Nat → Value} (ho : Op2 K (fun x y H Q => r x [y] H Q) op) (σ : L2.St) (H : Hp) (Q : VK)
    (h : tE K M bp W cls (fun ρ => (fa ρ).bind fun x ρ1 => match x with
      | .ow (.d (.str t)) => (fb ρ1).bind fun y ρ2 => R.of (op (dv (.str t)) y) ρ2
      | _ => .bad) σ H Q) : tM1 r (tE K M bp W cls fa) (tE K M bp W cls fb) σ H Q := by
  obtain ⟨Z, fpf, Hb, ρ, S, q⟩ := h
  refine tE_then S q fun x ρ1 fpf1 Hb1 H1 v fp e1 S1 r1 q => ?_
  split at q
  · rename_i t
    have ev_ := look_str r1 rfl
    subst ev_
    refine ⟨⟨t, rfl⟩, Z, fpf1, Hb1, ρ1, S1, ?_⟩
    refine q.bind.imp fun y ρ2 fpf2 Hb2 H2 er e2 S2 q v2 fp2 r2 => ?_
    obtain ⟨z, ez, q3⟩ := (q ρ2 er S2).of S2
    exact ho M bp Z fpf2 Hb2 H2 σ ρ2 (.str t) v2 (dv (.str t)) y z [] fp2 Q S2 ⟨.d (.str t), fun _ h => (nomatch h), fun _ _ _ h => (nomatch h)⟩ r2 (fun _ h => (nomatch h)) ez fun w Hb' H' fp e' S' r' => q3 Hb' H' fpf2 e' S' w fp r'
  · exact q.elim
theorem sset_inv {a : IE} {sc : Scope} {e : Expr} (h : okE nm N (.sset a) sc e = true) : ∃ x y l p1 p2 p3 p4, e = .Call (.Name x p1) [.Call (.Name y p2) [l] [] p3] [] p4 ∧ (decide (x = "sorted") && isGl sc x && decide (y = "set") && isGl sc y && okE nm N a sc l) = true := by
  cases e with
  | Call fe args kws pos =>
    cases fe with
    | Name x p =>
      match args, kws with
      | [r], [] =>
        cases r with
        | Call fe2 args2 kws2 pos2 =>
          cases fe2 with
          | Name y p2 =>
            match args2, kws2 with
            | [l], [] => exact ⟨x, y, l, p, p2, pos2, pos, rfl, by simpa [okE] using h⟩
            | [], _ => simp [okE] at h
            | _ :: _ :: _, _ => simp [okE] at h
            | [_], _ :: _ => simp [okE] at h
          | _ => simp [okE] at h
        | _ => simp [okE] at h
      | [], _ => simp [okE] at h
      | _ :: _ :: _, _ => simp [okE] at h
      | [_], _ :: _ => simp [okE] at h
    | _ => simp [okE] at h
  | _ => simp [okE] at h
theorem lc_inv {t : Tg} {it : IT} {hc : Bool} {c e : IE} {sc : Scope} {ex : Expr} (h : okE nm N (.lc t it hc c e) sc ex = true) : ∃ elt tg iter ifs scope pos, ex = .ListComp elt [⟨tg, iter, ifs, 0⟩] scope pos ∧
    (okI nm N it sc iter tg && blkC N sc scope (tgOwn tg t.slots) && okTg N (relS scope sc) scope t tg && decide ((tgOwn tg t.slots).map (·.2) = t.slots) && decide (t.slots.Nodup) &&
      (match ifs with
        | [] => !hc
        | [q] => hc && okE nm N c (relS scope sc) q
        | _ => false) && okE nm N e (relS scope sc) elt) = true := by
  cases ex with
  | ListComp elt gens scope pos =>
    match gens with
    | [⟨tg, iter, ifs, n⟩] =>
      simp only [okE] at h
      obtain ⟨h, h8⟩ := and2 h
      obtain ⟨h, h7⟩ := and2 h
      obtain ⟨h, h6⟩ := and2 h
      obtain ⟨h, h5⟩ := and2 h
      obtain ⟨h, h4⟩ := and2 h
      obtain ⟨h, h3⟩ := and2 h
      obtain ⟨h1, h2⟩ := and2 h
      have h1 := of_decide_eq_true h1
      subst h1
      refine ⟨elt, tg, iter, ifs, scope, pos, rfl, ?_⟩
      simp only [Bool.and_eq_true]
      exact ⟨⟨⟨⟨⟨⟨h2, h3⟩, h4⟩, h5⟩, h6⟩, h7⟩, h8⟩
    | [] => simp [okE] at h
    | _ :: _ :: _ => simp [okE] at h
  | _ => simp [okE] at h
theorem chain_inv {o1 o2 : BO} {a b c : IE} {sc : Scope} {e : Expr} (h : okE nm N (.chain o1 o2 a b c) sc e = true) : ∃ l p1 p2 m r pos, e = .Compare l [p1, p2] [m, r] pos ∧
    (decide (o1.cop = some p1) && decide (o2.cop = some p2) && o1.ord && o2.ord && okE nm N a sc l && okE nm N b sc m && okE nm N c sc r && !lastMarks [p1, p2] [m, r]) = true := by
  cases e with
  | Compare l ops rs pos =>
    match ops, rs with
    | [p1, p2], [m, r] => exact ⟨l, p1, p2, m, r, pos, rfl, by simpa only [okE] using h⟩
    | [], _ => simp [okE] at h
    | [_], _ => simp [okE] at h
    | _ :: _ :: _ :: _, _ => simp [okE] at h
    | [_, _], [] => simp [okE] at h
    | [_, _], [_] => simp [okE] at h
    | [_, _], _ :: _ :: _ :: _ => simp [okE] at h
  | _ => simp [okE] at h
theorem rng1_inv {a : IE} {sc : Scope} {e tg : Expr} (h : okI nm N (.rng1 a) sc e tg = true) : ∃ x l p pos, e = .Call (.Name x p) [l] [] pos ∧ (decide (x = "range") && isGl sc x && okE nm N a sc l) = true := by
  cases e with
  | Call fe args kws pos =>
    cases fe with
    | Name x p =>
      match args, kws with
      | [l], [] => exact ⟨x, l, p, pos, rfl, by simpa [okI] using h⟩
      | [], _ => simp [okI] at h
      | _ :: _ :: _, _ => simp [okI] at h
      | [_], _ :: _ => simp [okI] at h
    | _ => simp [okI] at h
  | _ => simp [okI] at h
theorem plainIx_noSl {b : Expr} (h : plainIx b = true) : NoSl b := by
  cases b <;> first | (cases h; done) | exact fun _ _ => rfl
theorem dnew_inv {sc : Scope} {e : Expr} (h : okE nm N .dnew sc e = true) : ∃ pos, e = .Dict [] [] pos := by
  cases e with
  | Dict ks vs pos =>
    match ks, vs with
    | [], [] => exact ⟨pos, rfl⟩
    | [], _ :: _ => simp [okE] at h
    | _ :: _, _ => simp [okE] at h
  | _ => simp [okE] at h
theorem dget_inv {a b : IE} {sc : Scope} {e : Expr} (h : okE nm N (.dget a b) sc e = true) : ∃ l r pos, e = .Subscript l r pos ∧ (okE nm N a sc l && okE nm N b sc r && plainIx r) = true := by
  cases e with
  | Subscript l r pos => exact ⟨l, r, pos, rfl, by simpa [okE] using h⟩
  | _ => simp [okE] at h
theorem frz_inv {X : Cx} {a : IE} {sc : Scope} {e : Expr} (h : okE nm N (.frz a) sc e = true) : okE nm N a sc e = true ∧ (∀ whole, isTrue e X.env whole = (do let v ← whole; standAt e.pos; holding [v] (truthy v))) ∧ ∀ op vs pos, e ≠ .BoolOp op vs pos := by
  cases e with
  | List xs p => exact ⟨by simpa [okE] using h, fun _ => rfl, fun _ _ _ => nofun⟩
  | BinOp l op r p => exact ⟨by simpa [okE] using h, fun _ => rfl, fun _ _ _ => nofun⟩
  | _ => simp [okE] at h
theorem rng3_inv {a b : IE} {c : Int} {sc : Scope} {e tg : Expr} (h : okI nm N (.rng3 a b c) sc e tg = true) : ∃ x l r kd cp p pos, e = .Call (.Name x p) [l, r, .Constant (.int c) kd cp] [] pos ∧ (decide (x = "range") && isGl sc x && okE nm N a sc l && okE nm N b sc r) = true := by
  cases e with
  | Call fe args kws pos =>
    cases fe with
    | Name x p =>
      cases kws with
      | nil =>
        simp only [okI] at h
        rw [Bool.and_eq_true] at h
        obtain ⟨h1, h2⟩ := h
        split at h2
        · rename_i l r g
          rw [Bool.and_eq_true, Bool.and_eq_true] at h2
          obtain ⟨kd, cp, rfl⟩ := isIntC_ok h2.2
          exact ⟨x, l, r, kd, cp, p, pos, rfl, by rw [h1, h2.1.1, h2.1.2]; rfl⟩
        · cases h2
      | cons _ _ => simp [okI] at h
    | _ => simp [okI] at h
  | _ => simp [okI] at h
theorem rng2_inv {a b : IE} {sc : Scope} {e tg : Expr} (h : okI nm N (.rng2 a b) sc e tg = true) : ∃ x l r p pos, e = .Call (.Name x p) [l, r] [] pos ∧ (decide (x = "range") && isGl sc x && okE nm N a sc l && okE nm N b sc r) = true := by
  cases e with
  | Call fe args kws pos =>
    cases fe with
    | Name x p =>
      match args, kws with
      | [l, r], [] => exact ⟨x, l, r, p, pos, rfl, by simpa [okI] using h⟩
      | [], _ => simp [okI] at h
      | [_], _ => simp [okI] at h
      | _ :: _ :: _ :: _, _ => simp [okI] at h
      | [_, _], _ :: _ => simp [okI] at h
    | _ => simp [okI] at h
  | _ => simp [okI] at h
theorem enum_inv {a : IE} {sc : Scope} {e tg : Expr} (h : okI nm N (.enum a) sc e tg = true) : ∃ x l p pos es kk tp, e = .Call (.Name x p) [l] [] pos ∧ tg = .Tuple es kk tp ∧ (decide (x = "enumerate") && isGl sc x && okE nm N a sc l) = true := by
  cases e with
  | Call fe args kws pos =>
    cases fe with
    | Name x p =>
      match args, kws with
      | [l], [] =>
        cases tg with
        | Tuple es kk tp => exact ⟨x, l, p, pos, es, kk, tp, rfl, rfl, by simpa [okI] using h⟩
        | _ => simp [okI] at h
      | [], _ => simp [okI] at h
      | _ :: _ :: _, _ => simp [okI] at h
      | [_], _ :: _ => simp [okI] at h
    | _ => simp [okI] at h
  | _ => simp [okI] at h
theorem zip_inv {a b : IE} {sc : Scope} {e tg : Expr} (h : okI nm N (.zip a b) sc e tg = true) : ∃ x l r p pos es kk tp, e = .Call (.Name x p) [l, r] [] pos ∧ tg = .Tuple es kk tp ∧ (decide (x = "zip") && isGl sc x && okE nm N a sc l && okE nm N b sc r) = true := by
  cases e with
  | Call fe args kws pos =>
    cases fe with
    | Name x p =>
      match args, kws with
      | [l, r], [] =>
        cases tg with
        | Tuple es kk tp => exact ⟨x, l, r, p, pos, es, kk, tp, rfl, rfl, by simpa [okI] using h⟩
        | _ => simp [okI] at h
      | [], _ => simp [okI] at h
      | [_], _ => simp [okI] at h
      | _ :: _ :: _ :: _, _ => simp [okI] at h
      | [_, _], _ :: _ => simp [okI] at h
    | _ => simp [okI] at h
  | _ => simp [okI] at h
theorem okI_fold {it : IT} {sc : Scope} {e tg : Expr} {env : PySem.Env} (h : okI nm N it sc e tg = true) : ∀ x, foldedSetIterable e env x = pure x := by
  intro x
  cases e with
  | Set _ _ =>
    cases it <;> simp [okI] at h
  | _ => rfl
theorem rg_own {K : PySem.W.Frag} {Hb H : Hp} (n : Int) : ROs K Hb H (rgV 0 n) ((List.range n.toNat).map fun (k : Nat) => .d (.int k)) [] := by
  unfold rgV
  have : (n - 0).toNat = n.toNat := by rw [Int.sub_zero]
  rw [this]
  generalize n.toNat = m
  have key : ∀ xs : List Nat, ROs K Hb H (xs.map fun (i : Nat) => V.int (0 + (i : Int))) (xs.map fun (k : Nat) => Ow.d (.int k)) [] := by
    intro xs
    induction xs with
    | nil => exact .nil
    | cons a xs ih =>
      have := ROs.cons (K := K) (Hb := Hb) (H := H) (.d (.int (0 + (a : Int)))) ih fun _ h => (nomatch h)
      simpa using this
  exact key _
mutual
theorem sndE : ∀ (ie : IE) (sc : Scope) (e : Expr), okE nm N ie sc e = true → ∀ (X : Cx) (W : WX), XOk nm C gv cls k X → X.N = N → X.env.scope = sc → L2N.Takes X W → Snd X M bp W cls e (ev C gv M ie)
  | .c x, sc, e, h, X, W, hX, hN, hs, tk => by
    cases e with
    | Constant c j pos => exact .val (lit_ok (by simpa [okE] using h)) (by intro _; rfl) (by intro _ _ _ q; cases q)
    | _ => simp [okE] at h
  | .v i, sc, e, h, X, W, hX, hN, hs, tk => by
    cases e with
    | Name y pos =>
      subst hN
      exact .val (weakE (isLoc_ok hs (by simpa [okE] using h)) var_ok) (by intro _; rfl) (by intro _ _ _ q; cases q)
    | _ => simp [okE] at h
  | .mv i, sc, e, h, X, W, hX, hN, hs, tk => by
    cases e with
    | Name y pos =>
      subst hN
      exact .val (weakE (isLoc_ok hs (by simpa [okE] using h)) mv_ok) (by intro _; rfl) (by intro _ _ _ q; cases q)
    | _ => simp [okE] at h
  | .g j, sc, e, h, X, W, hX, hN, hs, tk => by
    cases e with
    | Name y pos =>
      have h : (decide (y = nm.gl j) && isGl sc y) = true := by simpa [okE] using h
      obtain ⟨h1, h2⟩ := and2 h
      have h1 := of_decide_eq_true h1
      obtain ⟨g1, g2, _⟩ := isGl_ok hs h2
      refine .val ⟨fun pins s σ H Q I q => ?_⟩ (by intro _; rfl) (by intro _ _ _ q; cases q)
      obtain ⟨Z, fpf, Hb, ρ, S, q⟩ := q
      simp only [ev] at q
      obtain ⟨z, ez, q⟩ := q.of S
      obtain ⟨x, ex, rfl⟩ := Option.map_eq_some_iff.mp ez
      obtain ⟨v, u, m1, m2, m3⟩ := hX.gls j x ex
      exact (pe_glob g1 (by rw [h1]; exact m1) m2 g2).run pins s σ H Q I (q Hb H fpf (fun _ _ e => e) S v [] (.d (m3 Hb)))
    | _ => simp [okE] at h
  | .bin o a b, sc, e, h, X, W, hX, hN, hs, tk => by
    cases e with
    | BinOp l op r pos =>
      have h : (decide (o.bop = some op) && okE nm N a sc l && okE nm N b sc r) = true := by simpa [okE] using h
      obtain ⟨h, h3⟩ := and2 h
      obtain ⟨h1, h2⟩ := and2 h
      obtain ⟨r', hr, ho⟩ := bin_ok (X := X) hX.pl (of_decide_eq_true h1)
      have ha := sndE a sc l h2 X W hX hN hs tk
      have hb := sndE b sc r h3 X W hX hN hs tk
      refine .val (weakE (pe_op hr ha.pe hb.pe) fun σ H Q q => tE_bin ho σ H Q (by simpa only [ev] using q)) (by intro _; rfl) (by intro _ _ _ q; cases q)
    | Compare l ops rs pos =>
      match ops, rs with
      | [op], [r] =>
        have h : (decide (o.cop = some op) && okE nm N a sc l && okE nm N b sc r && !behindInMarks op r) = true := by simpa [okE] using h
        obtain ⟨h, h4⟩ := and2 h
        obtain ⟨h, h3⟩ := and2 h
        obtain ⟨h1, h2⟩ := and2 h
        have h4 : behindInMarks op r = false := by simpa using h4
        obtain ⟨r', hr, ho⟩ := cmp_ok (X := X) hX.room (of_decide_eq_true h1)
        have ha := sndE a sc l h2 X W hX hN hs tk
        have hb := sndE b sc r h3 X W hX hN hs tk
        exact .tst (pe_cmpR hr ha.pe hb.pe h4) (pt_cmpR hr ha.pe hb.pe h4) (fun σ H Q q => tE_bin ho σ H Q (by simpa only [ev] using q)) (by intro _ _ _ q; cases q)
      | [], _ => simp [okE] at h
      | _ :: _ :: _, _ => simp [okE] at h
      | [_], [] => simp [okE] at h
      | [_], _ :: _ :: _ => simp [okE] at h
    | _ => simp [okE] at h
  | .un o a, sc, e, h, X, W, hX, hN, hs, tk => by
    have call : ∀ {x : Str} {p pos : Pos} {e' : Expr}, e = .Call (.Name x p) [e'] [] pos → (decide (o.nm = some x) && isGl sc x && okE nm N a sc e') = true → Snd X M bp W cls e (ev C gv M (.un o a)) := fun {x p pos e'} ee h0 => by
      clear h
      subst ee
      obtain ⟨h0', h3⟩ := and2 h0
      obtain ⟨h1, h2⟩ := and2 h0'
      obtain ⟨r, ho, hp⟩ := un_ok (X := X) hX.calm hX.bi (of_decide_eq_true h1)
      have ha := sndE a sc e' h3 X W hX hN hs tk
      exact .val (weakE (hp e' _ p pos (okE_ns h3) ha.pe (isGl_ok hs h2).1) fun σ H Q q => tE_un ho σ H Q (by simpa only [ev] using q)) (by intro _; rfl) (by intro _ _ _ q; cases q)
    cases e with
    | Call f args kws pos =>
      match f, args, kws with
      | .Name x p, [e'], [] =>
        refine call rfl ?_
        cases o <;> simpa [okE] using h
      | .Name x p, [], _ => cases o <;> simp [okE] at h
      | .Name x p, _ :: _ :: _, _ => cases o <;> simp [okE] at h
      | .Name x p, [_], _ :: _ => cases o <;> simp [okE] at h
      | .BoolOp .., _, _ => cases o <;> simp [okE] at h
      | .NamedExpr .., _, _ => cases o <;> simp [okE] at h
      | .BinOp .., _, _ => cases o <;> simp [okE] at h
      | .UnaryOp .., _, _ => cases o <;> simp [okE] at h
      | .Lambda .., _, _ => cases o <;> simp [okE] at h
      | .IfExp .., _, _ => cases o <;> simp [okE] at h
      | .Dict .., _, _ => cases o <;> simp [okE] at h
      | .Set .., _, _ => cases o <;> simp [okE] at h
      | .ListComp .., _, _ => cases o <;> simp [okE] at h
      | .SetComp .., _, _ => cases o <;> simp [okE] at h
      | .DictComp .., _, _ => cases o <;> simp [okE] at h
      | .GeneratorExp .., _, _ => cases o <;> simp [okE] at h
      | .Await .., _, _ => cases o <;> simp [okE] at h
      | .Yield .., _, _ => cases o <;> simp [okE] at h
      | .YieldFrom .., _, _ => cases o <;> simp [okE] at h
      | .Compare .., _, _ => cases o <;> simp [okE] at h
      | .Call .., _, _ => cases o <;> simp [okE] at h
      | .FormattedValue .., _, _ => cases o <;> simp [okE] at h
      | .JoinedStr .., _, _ => cases o <;> simp [okE] at h
      | .Constant .., _, _ => cases o <;> simp [okE] at h
      | .Attribute .., _, _ => cases o <;> simp [okE] at h
      | .Subscript .., _, _ => cases o <;> simp [okE] at h
      | .Starred .., _, _ => cases o <;> simp [okE] at h
      | .List .., _, _ => cases o <;> simp [okE] at h
      | .Tuple .., _, _ => cases o <;> simp [okE] at h
      | .Slice .., _, _ => cases o <;> simp [okE] at h
    | UnaryOp op e' pos =>
      cases o <;> first | (simp [okE] at h; done) | skip
      · -- neg
        cases op <;> first | (simp [okE] at h; done) | skip
        have ha := sndE a sc e' (by simpa [okE] using h) X W hX hN hs tk
        exact .val (weakE (pe_un un_neg ha.pe) fun σ H Q q => tE_un op1_neg σ H Q (by simpa only [ev] using q)) (by intro _; rfl) (by intro _ _ _ q; cases q)
      · -- not
        cases op <;> first | (simp [okE] at h; done) | skip
        have ha := sndE a sc e' (by simpa [okE] using h) X W hX hN hs tk
        have hn := Snd.not (pos := pos) ha
        exact ⟨weakE hn.pe fun σ H Q q => by simpa only [ev] using q, weakT hn.pt fun σ H Q q => by simpa only [ev] using q, fun _ _ _ q => nomatch q⟩
    | Compare l ops rs pos =>
      have key : ∀ {op : CmpOp} {j : Nat} {p2 : Pos}, ops = [op] → rs = [.Constant .none j p2] → (o = .isN ∧ op = .Is ∨ o = .notN ∧ op = .IsNot) → okE nm N a sc l = true → Snd X M bp W cls (.Compare l ops rs pos) (ev C gv M (.un o a)) := by
        intro op j p2 e1 e2 e3 h0
        clear h
        subst e1 e2
        have ha := sndE a sc l h0 X W hX hN hs tk
        rcases e3 with ⟨rfl, rfl⟩ | ⟨rfl, rfl⟩
        · exact .tst (pe_cmp (pc_isN ha.pe) (nomark _)) (pt_cmp (pc_isN ha.pe) (nomark _)) (fun σ H Q q => tE_un op1_isN σ H Q (by simpa only [ev] using q)) (by intro _ _ _ q; cases q)
        · exact .tst (pe_cmp (pc_notN ha.pe) (nomark _)) (pt_cmp (pc_notN ha.pe) (nomark _)) (fun σ H Q q => tE_un op1_notN σ H Q (by simpa only [ev] using q)) (by intro _ _ _ q; cases q)
      cases o <;> first | (simp [okE] at h; done) | skip
      · obtain ⟨j, p2, e1, e2, e3⟩ := isN_inv h
        exact key e1 e2 (.inl ⟨rfl, rfl⟩) e3
      · obtain ⟨j, p2, e1, e2, e3⟩ := notN_inv h
        exact key e1 e2 (.inr ⟨rfl, rfl⟩) e3
    | _ => cases o <;> simp [okE] at h
  | .and a b, sc, e, h, X, W, hX, hN, hs, tk => by
    cases e with
    | BoolOp op vs pos =>
      match op, vs with
      | .And, [l, r] =>
        have h : (okE nm N a sc l && okE nm N b sc r) = true := by simpa [okE] using h
        obtain ⟨h1, h2⟩ := and2 h
        have q := Snd.and2 (pos := pos) (sndE a sc l h1 X W hX hN hs tk) (sndE b sc r h2 X W hX hN hs tk)
        have e : ev C gv M (.and a b) = fun ρ => (ev C gv M a ρ).bind (andV (ev C gv M b)) := by funext ρ; simp only [ev]; rfl
        rw [e]; exact q
      | .And, l :: r :: r2 :: rest =>
        have h : (okE nm N a sc l && okE nm N b sc (.BoolOp .And (r :: r2 :: rest) pos)) = true := by simpa [okE] using h
        obtain ⟨h1, h2⟩ := and2 h
        have q := Snd.andN (pos := pos) (sndE a sc l h1 X W hX hN hs tk) (sndE b sc (.BoolOp .And (r :: r2 :: rest) pos) h2 X W hX hN hs tk)
        have e : ev C gv M (.and a b) = fun ρ => (ev C gv M a ρ).bind (andV (ev C gv M b)) := by funext ρ; simp only [ev]; rfl
        rw [e]; exact q
      | .And, [] => simp [okE] at h
      | .And, [_] => simp [okE] at h
      | .Or, _ => simp [okE] at h
    | _ => simp [okE] at h
  | .or a b, sc, e, h, X, W, hX, hN, hs, tk => by
    cases e with
    | BoolOp op vs pos =>
      match op, vs with
      | .Or, [l, r] =>
        have h : (okE nm N a sc l && okE nm N b sc r) = true := by simpa [okE] using h
        obtain ⟨h1, h2⟩ := and2 h
        have q := Snd.or2 (pos := pos) (sndE a sc l h1 X W hX hN hs tk) (sndE b sc r h2 X W hX hN hs tk)
        have e : ev C gv M (.or a b) = fun ρ => (ev C gv M a ρ).bind (orV (ev C gv M b)) := by funext ρ; simp only [ev]; rfl
        rw [e]; exact q
      | .Or, l :: r :: r2 :: rest =>
        have h : (okE nm N a sc l && okE nm N b sc (.BoolOp .Or (r :: r2 :: rest) pos)) = true := by simpa [okE] using h
        obtain ⟨h1, h2⟩ := and2 h
        have q := Snd.orN (pos := pos) (sndE a sc l h1 X W hX hN hs tk) (sndE b sc (.BoolOp .Or (r :: r2 :: rest) pos) h2 X W hX hN hs tk)
        have e : ev C gv M (.or a b) = fun ρ => (ev C gv M a ρ).bind (orV (ev C gv M b)) := by funext ρ; simp only [ev]; rfl
        rw [e]; exact q
      | .Or, [] => simp [okE] at h
      | .Or, [_] => simp [okE] at h
      | .And, _ => simp [okE] at h
    | _ => simp [okE] at h
  | .tup es, sc, e, h, X, W, hX, hN, hs, tk => by
    cases e with
    | Tuple xs kk pos =>
      have ha := sndEs es sc xs (by simpa [okE] using h) X W hX hN hs tk
      refine .val (weakE (pe_tup ha) fun σ H Q q => ?_) (by intro _; rfl) (by intro _ _ _ q; cases q)
      obtain ⟨Z, fpf, Hb, ρ, S, q⟩ := q
      simp only [ev] at q
      refine ⟨Z, fpf, Hb, ρ, S, q.bind.imp fun xs ρ1 fpf1 Hb1 H1 e1 e2 S1 q vs fp r => ?_⟩
      have q := q ρ1 e1 S1
      split at q
      · rename_i ds hd
        split at q
        · rename_i hsm
          obtain ⟨Hb2, e3, S2, r2, _⟩ := datas S1 r hd
          refine ⟨by rw [r2.length]; exact small_le hsm, fun p hp => ?_⟩
          exact Giv.newT (K := X.K) S2 (fun w Hb' H' f e' S' r' => q Hb' H' fpf1 (e3.trans e') S' w f r') r2 hp
        · exact q.elim
      · exact q.elim
    | _ => simp [okE] at h
  | .lst es, sc, e, h, X, W, hX, hN, hs, tk => by
    cases e with
    | List xs pos =>
      have ha := sndEs es sc xs (by simpa [okE] using h) X W hX hN hs tk
      refine .val (weakE (pe_lst ha) fun σ H Q q => ?_) (by intro _; rfl) (by intro _ _ _ q; cases q)
      obtain ⟨Z, fpf, Hb, ρ, S, q⟩ := q
      simp only [ev] at q
      refine ⟨Z, fpf, Hb, ρ, S, q.bind.imp fun xs ρ1 fpf1 Hb1 H1 e1 e2 S1 q vs fp r => ?_⟩
      have q := q ρ1 e1 S1
      split at q
      · rename_i os hd
        split at q
        · rename_i hsm
          obtain ⟨r2, n1, n2⟩ := owns r hd
          refine ⟨by rw [r2.length]; exact small_le hsm, fun p hp => ?_⟩
          exact Giv.newL (K := X.K) S1 (fun w Hb' H' f e' S' r' => q Hb' H' fpf1 e' S' w f r') r2 n1 n2 hp
        · exact q.elim
      · exact q.elim
    | _ => simp [okE] at h
  | .call f as, sc, e, h, X, W, hX, hN, hs, tk => by
    cases e with
    | Call fe args kws pos =>
      cases fe with
      | Name x p =>
        cases kws with
        | nil =>
          cases args with
          | nil =>
            cases as with
            | nil =>
              have h : (decide (x = nm.fn f) && isGl sc x && decide (nm.ar f = some 0)) = true := by simpa [okE] using h
              obtain ⟨h, h3⟩ := and2 h
              obtain ⟨h1, h2⟩ := and2 h
              have h1 := of_decide_eq_true h1
              subst h1
              obtain ⟨g1, g2, _⟩ := isGl_ok hs h2
              obtain ⟨ad, fd, ps, hl, m1, m2, m3, F⟩ := hX.fns f _ (of_decide_eq_true h3)
              refine .val (weakE (pe_call0S F hX.room g1 m1 m2 m3 (L2N.passAt tk) g2) fun σ H Q q => ?_) (by intro _; rfl) (by intro _ _ _ q; cases q)
              obtain ⟨Z, fpf, Hb, ρ, S, q⟩ := q
              simp only [ev, evA] at q
              have q := q.bind Hb H fpf (fun _ _ e => e) S ρ rfl S
              exact call_ok S (vs := []) .nil rfl q
            | val _ _ => simp [okE] at h
            | ref _ _ => simp [okE] at h
          | cons a0 rest =>
            have h : (decide (x = nm.fn f) && isGl sc x && decide (nm.ar f = some (rest.length + 1)) && okAs nm N as sc (a0 :: rest)) = true := by simpa [okE] using h
            obtain ⟨h, h4⟩ := and2 h
            obtain ⟨h, h3⟩ := and2 h
            obtain ⟨h1, h2⟩ := and2 h
            have h1 := of_decide_eq_true h1
            subst h1
            obtain ⟨g1, g2, _⟩ := isGl_ok hs h2
            have ha := sndA as sc (a0 :: rest) h4 X W hX hN hs tk
            obtain ⟨ad, fd, ps, hl, m1, m2, m3, F⟩ := hX.fns f _ (of_decide_eq_true h3)
            obtain ⟨s1, s2⟩ := okAs_ns (pos := pos) (env := X.env) h4
            refine .val (weakE (pe_callS F hX.room g1 m1 m2 m3 (L2N.passAt tk) ha g2 s1 s2) fun σ H Q q => ?_) (by intro _; rfl) (by intro _ _ _ q; cases q)
            obtain ⟨Z, fpf, Hb, ρ, S, q⟩ := q
            simp only [ev] at q
            refine ⟨Z, fpf, Hb, ρ, S, q.bind.imp fun ags ρ1 fpf1 Hb1 H1 e1 e2 S1 q vs fp r => ?_⟩
            exact call_ok S1 r ((evA_len e1).trans (okAs_len h4)) (q ρ1 e1 S1)
        | cons _ _ => simp [okE] at h
      | _ => simp [okE] at h
    | _ => simp [okE] at h
  | .max2 a b, sc, e, h, X, W, hX, hN, hs, tk => by
    obtain ⟨x, l, r, p, pos, e1, h⟩ := max2_inv h
    subst e1
    obtain ⟨h, h4⟩ := and2 h
    obtain ⟨h, h3⟩ := and2 h
    obtain ⟨h1, h2⟩ := and2 h
    have h1 := of_decide_eq_true h1
    subst h1
    obtain ⟨hg, hm⟩ := bname hX hs h2 (by decide)
    have ha := sndE a sc l h3 X W hX hN hs tk
    have hb := sndE b sc r h4 X W hX hN hs tk
    have ns := okE_ns h3
    have ns2 := okE_ns h4
    refine .val (weakE (pe_callB (call_max2 hX.calm) hg hm (by decide +kernel) (two_arg ha.pe hb.pe ns ns2) (by decide) (by decide) (star2 ns ns2) (by rw [star_ok [] X.env ns2]; rfl)) fun σ H Q q => ?_) (by intro _; rfl) (by intro _ _ _ q; cases q)
    obtain ⟨Z, fpf, Hb, ρ, S, q⟩ := q
    simp only [ev] at q
    refine tE_two (Q := fun v u H2 => ∃ i j, [v, u] = [V.int i, V.int j] ∧ Q (.int (if j > i then j else i)) H2) S q fun x y ρ2 fpf2 Hb2 H2 v u fp1 fp2 e2 S2 r1 r2 dj q1 => ?_
    split at q1
    · rename_i i j
      have := rp_int r1
      have := rp_int r2
      subst v u
      exact ⟨i, j, rfl, q1 Hb2 H2 fpf2 (fun _ _ e => e) S2 _ [] .int⟩
    · exact q1.elim
  | .min2 a b, sc, e, h, X, W, hX, hN, hs, tk => by
    obtain ⟨x, l, r, p, pos, e1, h⟩ := min2_inv h
    subst e1
    obtain ⟨h, h4⟩ := and2 h
    obtain ⟨h, h3⟩ := and2 h
    obtain ⟨h1, h2⟩ := and2 h
    have h1 := of_decide_eq_true h1
    subst h1
    obtain ⟨hg, hm⟩ := bname hX hs h2 (by decide)
    have ha := sndE a sc l h3 X W hX hN hs tk
    have hb := sndE b sc r h4 X W hX hN hs tk
    have ns := okE_ns h3
    have ns2 := okE_ns h4
    refine .val (weakE (pe_callB (call_min2 hX.calm) hg hm (by decide +kernel) (two_arg ha.pe hb.pe ns ns2) (by decide) (by decide) (star2 ns ns2) (by rw [star_ok [] X.env ns2]; rfl)) fun σ H Q q => ?_) (by intro _; rfl) (by intro _ _ _ q; cases q)
    obtain ⟨Z, fpf, Hb, ρ, S, q⟩ := q
    simp only [ev] at q
    refine tE_two (Q := fun v u H2 => ∃ i j, [v, u] = [V.int i, V.int j] ∧ Q (.int (if j < i then j else i)) H2) S q fun x y ρ2 fpf2 Hb2 H2 v u fp1 fp2 e2 S2 r1 r2 dj q1 => ?_
    split at q1
    · rename_i i j
      have := rp_int r1
      have := rp_int r2
      subst v u
      exact ⟨i, j, rfl, q1 Hb2 H2 fpf2 (fun _ _ e => e) S2 _ [] .int⟩
    · exact q1.elim
  | .isa t a, sc, e, h, X, W, hX, hN, hs, tk => by
    obtain ⟨x, y, l, p, p2, pos, e1, h⟩ := isa_inv h
    subst e1
    obtain ⟨h, h5⟩ := and2 h
    obtain ⟨h, h4⟩ := and2 h
    obtain ⟨h, h3⟩ := and2 h
    obtain ⟨h1, h2⟩ := and2 h
    have h1 := of_decide_eq_true h1
    have h4 := of_decide_eq_true h4
    subst h1
    subst h4
    obtain ⟨hg, hm⟩ := bname hX hs h2 (by decide)
    obtain ⟨hg2, hm2⟩ := bname hX hs h5 (by cases t <;> decide)
    have ha := sndE a sc l h3 X W hX hN hs tk
    exact .val (weakE (isa_ok ha.pe (okE_ns h3) hg hm hg2 hm2) fun σ H Q q => by simpa only [ev] using q) (by intro _; rfl) (by intro _ _ _ q; cases q)
  | .ix a i, sc, e, h, X, W, hX, hN, hs, tk => by
    cases e with
    | Subscript l r pos =>
      have h : (okE nm N a sc l && okE nm N i sc r && plainIx r) = true := by simpa [okE] using h
      obtain ⟨h, h3⟩ := and2 h
      obtain ⟨h1, h2⟩ := and2 h
      have ha := sndE a sc l h1 X W hX hN hs tk
      have hb := sndE i sc r h2 X W hX hN hs tk
      refine .val (weakE (pe_ix ix_seq ha.pe hb.pe (plainIx_ok h3)) fun σ H Q q => tE_bin op2_ix σ H Q ?_) (by intro _; rfl) (by intro _ _ _ q; cases q)
      have ee : ev C gv M (.ix a i) = fun ρ => (ev C gv M a ρ).bind fun x ρ1 => (ev C gv M i ρ1).bind fun y ρ2 => R.of ((fun x y => match y with | .ow (.d (.int j)) => ixV x j | _ => none) x y) ρ2 := by
        funext ρ
        simp only [ev]
        congr 1; funext x ρ1; congr 1; funext y ρ2
        split
        · rfl
        · rename_i hn
          first
            | rfl
            | (split
               · exact absurd rfl (hn _)
               · rfl)
      rw [ee] at q
      exact q
    | _ => simp [okE] at h
  | .sl a lo hi, sc, e, h, X, W, hX, hN, hs, tk => by
    obtain ⟨l, lo', hi', p2, pos, e1, h⟩ := sl_inv h
    subst e1
    obtain ⟨h, h3⟩ := and2 h
    obtain ⟨h1, h2⟩ := and2 h
    have ha := sndE a sc l h1 X W hX hN hs tk
    have hl := sndO lo sc lo' h2 X W hX hN hs tk
    have hh := sndO hi sc hi' h3 X W hX hN hs tk
    refine .val (weakE (pe_slice sl_B ha.pe hl hh) fun σ H Q q => ?_) (by intro _; rfl) (by intro _ _ _ q; cases q)
    obtain ⟨Z, fpf, Hb, ρ, S, q⟩ := q
    simp only [ev] at q
    refine tE_then S q fun x ρ1 fpf1 Hb1 H1 v fp1 e1 S1 r1 q => ?_
    have fr0 : ∀ a, Z.F a ∨ Z.G a → H1 a = Z.hp a := fun a ha => (S1.fr a ha).1
    refine ⟨_, _, _, _, S1.hold r1, (q.bind.more (fp := fp1) S1).imp fun lv ρ2 fpf2 Hb2 H2 e2 e2' S2 q => ?_⟩
    have q := q ρ2 S2 e2 ρ2 e2 (S2.letgo fr0)
    have fr2 : ∀ a, (Z.more H1 fp1).F a ∨ (Z.more H1 fp1).G a → H2 a = (Z.more H1 fp1).hp a := fun a ha => (S2.fr a ha).1
    have r2 := r1.kept S1 e2' S2
    have S2' := S2.letgo fr0
    have S2h := S2'.hold r2
    refine ⟨_, _, _, _, S2h, (q.bind.more (fp := fp1) S2').imp fun hv ρ3 fpf3 Hb3 H3 e3 e3' S3 q => ?_⟩
    have fr3 : ∀ a, Z.F a ∨ Z.G a → H2 a = Z.hp a := fun a ha => (S2'.fr a ha).1
    have S3' := S3.letgo fr3
    have q := q ρ3 S3 e3 ρ3 e3 S3'
    obtain ⟨z, ez, q⟩ := q.of S3'
    exact op_sl M bp Z fpf3 Hb3 H3 σ ρ3 v x z fp1 Q S3' (r2.kept S2' e3' S3) ez fun w Hb' H' fp e' S' r' => q Hb' H' fpf3 e' S' w fp r'
  | .lc t it hc c e, sc, ex, h, X, W, hX, hN, hs, tk => by
    obtain ⟨elt, tg, iter, ifs, scope, pos, e1, h0⟩ := lc_inv h
    clear h
    subst e1
    obtain ⟨h, h7⟩ := and2 h0
    obtain ⟨h, h6⟩ := and2 h
    obtain ⟨h, h5⟩ := and2 h
    obtain ⟨h, h4⟩ := and2 h
    obtain ⟨h, h3⟩ := and2 h
    obtain ⟨h1, h2⟩ := and2 h
    have h4 := of_decide_eq_true h4
    have hi := sndI it sc iter tg h1 X W hX hN hs tk
    have hsf : ∀ x, foldedSetIterable iter X.env x = pure x := okI_fold h1
    have ok : BlkOk X.N X.env.scope scope (tgOwn tg t.slots) := by rw [hN, hs]; exact blkOk_by h2
    refine .val (weakE (pe_lc (g := tgR X.K t) (te := tE X.K M bp W0 cls (ev C gv M e)) (tt := if hc = true then tT X.K M bp W0 cls (ev C gv M c) else tYes) hX.calm hX.nd hi ok (fun s H C' cl fp => ?_) (fun s H C' cl fp => ?_) (fun s H C' cl fp => ?_) hsf) fun σ H Q q => ?_) (by intro _; rfl) (by intro _ _ _ q; cases q)
    · refine okTg_ok (X := X.blk s H scope (compEnvC scope cl C' X.env) fp) (own := scope) hX.calm hX.nd (fun y hy => ?_) ?_
      · show (scope.names.lookup y == some .cell) = true
        rw [hy]; rfl
      · show okTg X.N (relS scope X.env.scope) scope t tg = true
        rw [hN, hs]; exact h3
    · cases ifs with
      | nil =>
        have h6 : (!hc) = true := h6
        have : hc = false := by simpa using h6
        rw [this, if_neg Bool.false_ne_true]
        exact pts_nil
      | cons q rs =>
        cases rs with
        | nil =>
          have h6 : (hc && okE nm N c (relS scope sc) q) = true := h6
          obtain ⟨h8, h9⟩ := and2 h6
          rw [h8, if_pos rfl]
          exact pts_one (sndE c (relS scope sc) q h9 (X.blk s H scope (compEnvC scope cl C' X.env) fp) W0 (hX.blk ..) hN (by show relS scope X.env.scope = _; rw [hs]) takesN0).pt
        | cons _ _ => cases h6
    · exact (sndE e (relS scope sc) elt h7 (X.blk s H scope (compEnvC scope cl C' X.env) fp) W0 (hX.blk ..) hN (by show relS scope X.env.scope = _; rw [hs]) takesN0).pe
    · rw [h4]
      refine lc_ok σ H Q ?_
      simp only [ev] at q
      exact q
  | .lrng a, sc, e, h, X, W, hX, hN, hs, tk => by
    obtain ⟨x, y, l, p1, p2, p3, p4, e1, h⟩ := lrng_inv h
    subst e1
    obtain ⟨h, h5⟩ := and2 h
    obtain ⟨h, h4⟩ := and2 h
    obtain ⟨h, h3⟩ := and2 h
    obtain ⟨h1, h2⟩ := and2 h
    have h1 := of_decide_eq_true h1
    have h3 := of_decide_eq_true h3
    subst h1
    subst h3
    obtain ⟨hg, hm⟩ := bname hX hs h2 (by decide)
    obtain ⟨hg2, hm2⟩ := bname hX hs h4 (by decide)
    have ha := sndE a sc l h5 X W hX hN hs tk
    refine .val (weakE (pe_listRg hX.calm hg hm (prg_1 hg2 hm2 ha.pe (star_ok [] X.env (okE_ns h5))) rfl) fun σ H Q q => ?_) (by intro _; rfl) (by intro _ _ _ q; cases q)
    obtain ⟨Z, fpf, Hb, ρ, S, q⟩ := q
    simp only [ev] at q
    refine tE_then S q fun x ρ1 fpf1 Hb1 H1 v fp1 e1 S1 r1 q => ?_
    split at q
    · rename_i n
      have := rp_int r1
      subst v
      split at q
      · rename_i hn
        obtain ⟨n1, n2⟩ := and2 hn
        have n1 := of_decide_eq_true n1
        have n2 := of_decide_eq_true n2
        refine ⟨n, rfl, ?_, fun l hl => ?_⟩
        · exact RgOk.of_le (by omega) (by omega) (by omega) n1
        · refine Giv.newL (K := X.K) S1 (os := (List.range n.toNat).map fun (k : Nat) => .d (.int k)) (f := []) (fun w Hb' H' f e' S' r' => q Hb' H' fpf1 e' S' w f r') ?_ (fun _ h => (nomatch h)) (fun _ _ _ h => (nomatch h)) hl
          exact rg_own n
      · exact q.elim
    · exact q.elim
  | .sset a, sc, e, h, X, W, hX, hN, hs, tk => by
    obtain ⟨x, y, l, p1, p2, p3, p4, e1, h⟩ := sset_inv h
    subst e1
    obtain ⟨h, h5⟩ := and2 h
    obtain ⟨h, h4⟩ := and2 h
    obtain ⟨h, h3⟩ := and2 h
    obtain ⟨h1, h2⟩ := and2 h
    have h1 := of_decide_eq_true h1
    have h3 := of_decide_eq_true h3
    subst h1
    subst h3
    obtain ⟨hg, hm⟩ := bname hX hs h2 (by decide)
    obtain ⟨hg2, hm2⟩ := bname hX hs h4 (by decide)
    have ha := sndE a sc l h5 X W hX hN hs tk
    have hset : PE X (.Call (.Name "set" p2) [l] [] p3) _ := pe_callTy (cr_setT hX.calm) hg2 hm2 PyProof.Rows.boot_set (one_arg ha.pe (okE_ns h5)) (by decide) (by decide) (star_ok [] X.env (okE_ns h5)) rfl
    refine .val (weakE (pe_callB (cr_sortedSet hX.calm) hg hm (by decide +kernel) (one_arg hset rfl) (by decide) (by decide) rfl rfl) fun σ H Q q => ?_) (by intro _; rfl) (by intro _ _ _ q; cases q)
    obtain ⟨Z, fpf, Hb, ρ, S, q⟩ := q
    simp only [ev] at q
    refine tE_then S q fun x ρ1 fpf1 Hb1 H1 v fp1 e1 S1 r1 q => ?_
    split at q
    · rename_i ns hns
      split at q
      · rename_i h64
        obtain ⟨p, g1, g2⟩ := tupI_sq S1 r1 hns
        refine ⟨p, ns, by rw [g1], g2, by omega, fun t c ht hc => ?_⟩
        have S2 := S1.new (o := SetO X.w t (fun j => decide (j ∈ ns)) c) ht
        refine ⟨t, fun j => decide (j ∈ ns), c, rfl, upd_same, by omega, fun ms l hs hm hlen hl => ?_⟩
        have em : ms = sortU ns := up_uniq hs (sortU_up ns) fun k => by rw [hm, decide_eq_true_eq, sortU_mem]
        subst em
        refine Giv.newL (K := X.K) S2 (os := (sortU ns).map fun i => .d (.int i)) (f := []) (fun w Hb' H' f e' S' r' => q Hb' H' fpf1 e' S' w f r') ?_ (fun _ h => (nomatch h)) (fun _ _ _ h => (nomatch h)) hl
        have := ROs.ofD (H := upd H1 t (SetO X.w t (fun j => decide (j ∈ ns)) c)) (RpL.ints (K := X.K) (H := Hb1) (ns := sortU ns))
        rw [List.map_map] at this
        exact this
      · exact q.elim
    · exact q.elim
  | .split a b, sc, e, h, X, W, hX, hN, hs, tk => by
    simp only [okE] at h
    split at h
    · rename_i l m ap r cp hv
      obtain ⟨e1, hb, hl⟩ := vM1_some hv
      subst e1
      obtain ⟨h, h3⟩ := and2 h
      obtain ⟨h1, h2⟩ := and2 h
      have h1 := of_decide_eq_true h1
      subst h1
      have ha := sndE a sc l h2 X W hX hN hs tk
      have hr := sndE b sc r h3 X W hX hN hs tk
      refine .val (weakE (pe_m1 PySem.F.slot_str_split PySem.F.type_str_split mt_split ha.pe hr.pe (star_ok [] X.env (okE_ns h3)) (nmC_base hb) hl) fun σ H Q q => ?_) (by intro _; rfl) (by intro _ _ _ q; cases q)
      simp only [ev] at q
      exact tM1_of op2_split σ H Q q
    · cases h
  | .join a b, sc, e, h, X, W, hX, hN, hs, tk => by
    simp only [okE] at h
    split at h
    · rename_i l m ap r cp hv
      obtain ⟨e1, hb, hl⟩ := vM1_some hv
      subst e1
      obtain ⟨h, h3⟩ := and2 h
      obtain ⟨h1, h2⟩ := and2 h
      have h1 := of_decide_eq_true h1
      subst h1
      have ha := sndE a sc l h2 X W hX hN hs tk
      have hr := sndE b sc r h3 X W hX hN hs tk
      refine .val (weakE (pe_m1 PySem.F.slot_str_join PySem.F.type_str_join mt_join ha.pe hr.pe (star_ok [] X.env (okE_ns h3)) (nmC_base hb) hl) fun σ H Q q => ?_) (by intro _; rfl) (by intro _ _ _ q; cases q)
      simp only [ev] at q
      exact tM1_of op2_join σ H Q q
    · cases h
  | .srev a, sc, e, h, X, W, hX, hN, hs, tk => by
    simp only [okE] at h
    split at h
    · rename_i l rest hv
      obtain ⟨k0, p1, p2, p3, pos⟩ := rest
      have e1 := vRev_some hv
      subst e1
      have ha := sndE a sc l h X W hX hN hs tk
      refine .val (weakE (pe_revS ha.pe) fun σ H Q q => ?_) (by intro _; rfl) (by intro _ _ _ q; cases q)
      obtain ⟨Z, fpf, Hb, ρ, S, q⟩ := q
      simp only [ev] at q
      refine tE_then S q fun x ρ1 fpf1 Hb1 H1 v fp e1 S1 r1 q => ?_
      split at q
      · rename_i z
        split at q
        · rename_i hz
          exact ⟨z, look_str r1 rfl, Nat.le_of_lt (small_lt hz), q Hb1 H1 fpf1 (fun _ _ e => e) S1 _ [] ⟨.d (.str _), fun _ h => (nomatch h), fun _ _ _ h => (nomatch h)⟩⟩
        · exact q.elim
      · exact q.elim
    · cases h
  | .lrev a, sc, e, h, X, W, hX, hN, hs, tk => by
    simp only [okE] at h
    split at h
    · rename_i l rest hv
      obtain ⟨k0, p1, p2, p3, pos⟩ := rest
      have e1 := vRev_some hv
      subst e1
      have ha := sndE a sc l h X W hX hN hs tk
      refine .val (weakE (pe_revL ha.pe) fun σ H Q q => ?_) (by intro _; rfl) (by intro _ _ _ q; cases q)
      obtain ⟨Z, fpf, Hb, ρ, S, q⟩ := q
      simp only [ev] at q
      refine tE_then S q fun x ρ1 fpf1 Hb1 H1 v fp e1 S1 r1 q => ?_
      obtain ⟨z, ez, q⟩ := q.of S1
      exact op1_lrev _ _ _ _ _ _ _ _ _ _ _ _ _ S1 r1 ez fun w Hb' H' fp' e' S' r' => q Hb' H' fpf1 e' S' w fp' r'
    · cases h
  | .chain o1 o2 a b c, sc, e, h, X, W, hX, hN, hs, tk => by
    obtain ⟨l, p1, p2, m, r, pos, e1, h⟩ := chain_inv h
    subst e1
    obtain ⟨h, h8⟩ := and2 h
    obtain ⟨h, h7⟩ := and2 h
    obtain ⟨h, h6⟩ := and2 h
    obtain ⟨h, h5⟩ := and2 h
    obtain ⟨h, h4⟩ := and2 h
    obtain ⟨h, h3⟩ := and2 h
    obtain ⟨h1, h2⟩ := and2 h
    have h8 : lastMarks [p1, p2] [m, r] = false := by simpa using h8
    obtain ⟨g1, r1, i1⟩ := ord_ok (X := X) (of_decide_eq_true h1) h3
    obtain ⟨g2, r2, i2⟩ := ord_ok (X := X) (of_decide_eq_true h2) h4
    have ha := sndE a sc l h5 X W hX hN hs tk
    have hb := sndE b sc m h6 X W hX hN hs tk
    have hc := sndE c sc r h7 X W hX hN hs tk
    refine .tst (pe_chain r1 r2 ha.pe hb.pe hc.pe h8) (pt_chain r1 r2 ha.pe hb.pe hc.pe h8) (fun σ H Q q => ?_) (by intro _ _ _ q; cases q)
    obtain ⟨Z, fpf, Hb, ρ, S, q⟩ := q
    simp only [ev] at q
    refine tE_two (Q := fun v u H2 => rI0 (fun i j => V.bl (g1 i j)) v u H2 fun z H3 => ∃ k, z = .bl k ∧ (if k = true then tE X.K M bp W cls (ev C gv M c) σ H3 fun w' H4 => rI0 (fun i j => V.bl (g2 i j)) u w' H4 Q else Q (.bl false) H3)) S q fun x y ρ2 fpf2 Hb2 H2 v u fp1 fp2 e S2 q1 q2 dj q => ?_
    split at q
    · rename_i i j
      have := rp_int q1
      have := rp_int q2
      subst v u
      rw [i1] at q
      refine ⟨i, j, rfl, rfl, g1 i j, rfl, ?_⟩
      generalize g1 i j = gb at q ⊢
      cases gb with
      | false =>
        rw [if_neg Bool.false_ne_true]
        exact q Hb2 H2 fpf2 (fun _ _ e => e) S2 _ [] .bl
      | true =>
        rw [if_pos rfl]
        dsimp only at q
        refine tE_then S2 q fun z ρ3 fpf3 Hb3 H3 w fp3 e3 S3 q3 q => ?_
        split at q
        · rename_i k
          have := rp_int q3
          subst w
          rw [i2] at q
          exact ⟨j, k, rfl, rfl, q Hb3 H3 fpf3 (fun _ _ e => e) S3 _ [] .bl⟩
        · exact q.elim
    · exact q.elim
  | .dnew, sc, e, h, X, W, hX, hN, hs, tk => by
    obtain ⟨pos, rfl⟩ := dnew_inv h
    refine .val ⟨fun pins s σ H Q I q => ?_⟩ (by intro _; rfl) (by intro _ _ _ q; cases q)
    obtain ⟨Z, fpf, Hb, ρ, S, q⟩ := q
    simp only [ev] at q
    refine pe_dnewT.run pins s σ H Q I fun p hp => ?_
    refine q Hb _ fpf (fun _ _ e => e) (S.new hp) (.ref p) [p] ⟨.m (vs := []) (S.un hp) upd_same rfl .nil, fun a ha => ?_, fun i a ha hb => ?_⟩
    · rw [List.mem_singleton.mp ha]; exact (S.out hp).1
    · rw [List.mem_singleton.mp hb] at ha; exact (S.out hp).2 i ha
  | .dget a b, sc, e, h, X, W, hX, hN, hs, tk => by
    obtain ⟨l, r, pos, e1, h⟩ := dget_inv h
    subst e1
    obtain ⟨h, h3⟩ := and2 h
    obtain ⟨h1, h2⟩ := and2 h
    have ha := sndE a sc l h1 X W hX hN hs tk
    have hb := sndE b sc r h2 X W hX hN hs tk
    refine .val (weakE (pe_dg (by have := hX.room.un; omega) ha.pe hb.pe (plainIx_noSl h3)) fun σ H Q q => tE_bin op2_dget σ H Q (by simpa only [ev] using q)) (by intro _; rfl) (by intro _ _ _ q; cases q)
  | .frz a, sc, e, h, X, W, hX, hN, hs, tk => by
    have h := frz_inv (X := X) h
    have ha := sndE a sc e h.1 X W hX hN hs tk
    refine .val (weakE ha.pe fun σ H Q q => ?_) h.2.1 h.2.2
    exact tE_un op1_frz σ H Q (by simpa only [ev] using q)
theorem sndEs : ∀ (ies : IEs) (sc : Scope) (es : List Expr), okEs nm N ies sc es = true → ∀ (X : Cx) (W : WX), XOk nm C gv cls k X → X.N = N → X.env.scope = sc → L2N.Takes X W → PA X es (tL X.K M bp W cls (evs C gv M ies))
  | .nil, sc, [], h, X, W, hX, hN, hs, tk => weakA pa_nil fun σ H Q q => tL_nil σ H Q (by simpa only [evs] using q)
  | .cons e es, sc, x :: xs, h, X, W, hX, hN, hs, tk => by
    have h : (okE nm N e sc x && okEs nm N es sc xs) = true := by simpa [okEs] using h
    obtain ⟨h1, h2⟩ := and2 h
    exact weakA (pa_cons (sndE e sc x h1 X W hX hN hs tk).pe (sndEs es sc xs h2 X W hX hN hs tk) (star_ok xs X.env (okE_ns h1))) fun σ H Q q => tL_cons σ H Q (by simpa only [evs] using q)
  | .nil, _, _ :: _, h, _, _, _, _, _, _ => by simp [okEs] at h
  | .cons _ _, _, [], h, _, _, _, _, _, _ => by simp [okEs] at h
theorem sndA : ∀ (as : IAs) (sc : Scope) (es : List Expr), okAs nm N as sc es = true → ∀ (X : Cx) (W : WX), XOk nm C gv cls k X → X.N = N → X.env.scope = sc → L2N.Takes X W → PA X es (tAg X.K M bp W cls (evA C gv M as))
  | .nil, sc, [], h, X, W, hX, hN, hs, tk => weakA pa_nil fun σ H Q q => tAg_nil σ H Q (by simpa only [evA] using q)
  | .val e es, sc, x :: xs, h, X, W, hX, hN, hs, tk => by
    have h : (okE nm N e sc x && okAs nm N es sc xs) = true := by simpa [okAs] using h
    obtain ⟨h1, h2⟩ := and2 h
    exact weakA (pa_cons (sndE e sc x h1 X W hX hN hs tk).pe (sndA es sc xs h2 X W hX hN hs tk) (star_ok xs X.env (okE_ns h1))) fun σ H Q q => tAg_val σ H Q (by simpa only [evA] using q)
  | .ref i es, sc, x :: xs, h, X, W, hX, hN, hs, tk => by
    cases x with
    | Name y p =>
      have h : (isLoc N sc i y && okAs nm N es sc xs) = true := by simpa [okAs] using h
      obtain ⟨h1, h2⟩ := and2 h
      have ht := sndA es sc xs h2 X W hX hN hs tk
      subst hN
      exact weakA (pa_cons (isLoc_ok hs h1) ht (star_ok xs X.env rfl)) fun σ H Q q => tAg_ref σ H Q (by simp only [evA] at q; exact q)
    | _ => simp [okAs] at h
  | .nil, _, _ :: _, h, _, _, _, _, _, _ => by simp [okAs] at h
  | .val _ _, _, [], h, _, _, _, _, _, _ => by simp [okAs] at h
  | .ref _ _, _, [], h, _, _, _, _, _, _ => by simp [okAs] at h
theorem sndO : ∀ (io : IO) (sc : Scope) (e : Option Expr), okO nm N io sc e = true → ∀ (X : Cx) (W : WX), XOk nm C gv cls k X → X.N = N → X.env.scope = sc → L2N.Takes X W → PO X e (tOpt X.K M bp W cls (evO C gv M io))
  | .no, sc, none, h, X, W, hX, hN, hs, tk => ⟨fun pins s σ H Q I q => (po_none (X := X)).run pins s σ H Q I (by
      obtain ⟨Z, fpf, Hb, ρ, S, q⟩ := q
      simp only [evO] at q
      exact q Hb H fpf (fun _ _ e => e) S)⟩
  | .so e, sc, some x, h, X, W, hX, hN, hs, tk => ⟨fun pins s σ H Q I q => (po_some (sndE e sc x (by simpa [okO] using h) X W hX hN hs tk).pe).run pins s σ H Q I (by
      obtain ⟨Z, fpf, Hb, ρ, S, q⟩ := q
      simp only [evO] at q
      refine tE_then S q fun x ρ1 fpf1 Hb1 H1 v fp1 e1 S1 r1 q => ?_
      split at q
      · rename_i n
        exact ⟨n, rp_int r1, q Hb1 H1 fpf1 (fun _ _ e => e) S1⟩
      · exact q.elim)⟩
  | .no, _, some _, h, _, _, _, _, _, _ => by simp [okO] at h
  | .so _, _, none, h, _, _, _, _, _, _ => by simp [okO] at h
theorem sndI : ∀ (it : IT) (sc : Scope) (e tg : Expr), okI nm N it sc e tg = true → ∀ (X : Cx) (W : WX), XOk nm C gv cls k X → X.N = N → X.env.scope = sc → L2N.Takes X W → PI X tg e (tI X.K M bp W cls (evI C gv M it))
  | .e a, sc, e, tg, h, X, W, hX, hN, hs, tk => by
    have h1 : okE nm N a sc e = true := by
      simp only [okI, Bool.and_eq_true] at h
      exact h.1
    have q := piE (tg := tg) (sndE a sc e h1 X W hX hN hs tk).pe
    have ee : evI C gv M (.e a) = fun ρ => (ev C gv M a ρ).bind fun x ρ1 => R.of ((itemsM M x).map fun xs => xs.map Itm.one) ρ1 := by funext ρ; simp only [evI]
    rw [ee]; exact q
  | .s a, sc, e, tg, h, X, W, hX, hN, hs, tk => by
    have h1 : okE nm N a sc e = true := by
      simp only [okI, Bool.and_eq_true] at h
      exact h.1
    have q := piS (tg := tg) (sndE a sc e h1 X W hX hN hs tk).pe
    exact ⟨fun pins s σ H Rk I w => q.run pins s σ H Rk I (by simp only [evI] at w; exact w)⟩
  | .rng1 a, sc, e, tg, h, X, W, hX, hN, hs, tk => by
    obtain ⟨x, l, p, pos, e1, h⟩ := rng1_inv h
    subst e1
    obtain ⟨h, h3⟩ := and2 h
    obtain ⟨h1, h2⟩ := and2 h
    have h1 := of_decide_eq_true h1
    subst h1
    obtain ⟨hg, hm⟩ := bname hX hs h2 (by decide)
    have q := piR1 (tg := tg) (p := p) (pos := pos) (sndE a sc l h3 X W hX hN hs tk).pe (okE_ns h3) hg hm
    exact ⟨fun pins s σ H Rk I w => q.run pins s σ H Rk I (by simp only [evI] at w; exact w)⟩
  | .rng2 a b, sc, e, tg, h, X, W, hX, hN, hs, tk => by
    obtain ⟨x, l, r, p, pos, e1, h⟩ := rng2_inv h
    subst e1
    obtain ⟨h, h4⟩ := and2 h
    obtain ⟨h, h3⟩ := and2 h
    obtain ⟨h1, h2⟩ := and2 h
    have h1 := of_decide_eq_true h1
    subst h1
    obtain ⟨hg, hm⟩ := bname hX hs h2 (by decide)
    have q := piR2 (tg := tg) (p := p) (pos := pos) (sndE a sc l h3 X W hX hN hs tk).pe (sndE b sc r h4 X W hX hN hs tk).pe (okE_ns h3) (okE_ns h4) hg hm
    exact ⟨fun pins s σ H Rk I w => q.run pins s σ H Rk I (by simp only [evI] at w; exact w)⟩
  | .rng3 a b c, sc, e, tg, h, X, W, hX, hN, hs, tk => by
    obtain ⟨x, l, r, kd, cp, p, pos, e1, h'⟩ := rng3_inv h
    subst e1
    obtain ⟨h, h4⟩ := and2 h'
    obtain ⟨h, h3⟩ := and2 h
    obtain ⟨h1, h2⟩ := and2 h
    have h1 := of_decide_eq_true h1
    subst h1
    obtain ⟨hg, hm⟩ := bname hX hs h2 (by decide)
    have q := piR3 (tg := tg) (p := p) (pos := pos) (c := c) (kd := kd) (cp := cp) pe_int (sndE a sc l h3 X W hX hN hs tk).pe (sndE b sc r h4 X W hX hN hs tk).pe (okE_ns h3) (okE_ns h4) hg hm
    exact ⟨fun pins s σ H Rk I w => q.run pins s σ H Rk I (by simp only [evI] at w; exact w)⟩
  | .enum a, sc, e, tg, h, X, W, hX, hN, hs, tk => by
    obtain ⟨x, l, p, pos, es, kk, tp, e1, e2, h⟩ := enum_inv h
    subst e1 e2
    obtain ⟨h, h3⟩ := and2 h
    obtain ⟨h1, h2⟩ := and2 h
    have h1 := of_decide_eq_true h1
    subst h1
    obtain ⟨hg, hm⟩ := bname hX hs h2 (by decide)
    have q := piEn (p := p) (pos := pos) (tpos := tp) (elts := es) (kk := kk) (sndE a sc l h3 X W hX hN hs tk).pe (okE_ns h3) hg hm
    exact ⟨fun pins s σ H Rk I w => q.run pins s σ H Rk I (by simp only [evI] at w; exact w)⟩
  | .zip a b, sc, e, tg, h, X, W, hX, hN, hs, tk => by
    obtain ⟨x, l, r, p, pos, es, kk, tp, e1, e2, h⟩ := zip_inv h
    subst e1 e2
    obtain ⟨h, h4⟩ := and2 h
    obtain ⟨h, h3⟩ := and2 h
    obtain ⟨h1, h2⟩ := and2 h
    have h1 := of_decide_eq_true h1
    subst h1
    obtain ⟨hg, hm⟩ := bname hX hs h2 (by decide)
    have q := piZ (p := p) (pos := pos) (tpos := tp) (elts := es) (kk := kk) (sndE a sc l h3 X W hX hN hs tk).pe (sndE b sc r h4 X W hX hN hs tk).pe (okE_ns h3) (okE_ns h4) hg hm
    exact ⟨fun pins s σ H Rk I w => q.run pins s σ H Rk I (by simp only [evI] at w; exact w)⟩
end
end
end WM

/-! WM: the evaluator of statements; slots taken and put back. -/
namespace WM
open PySem PySem.Spec PyProof.Rows L2

mutual
inductive IS where
  | set (ms : List Nat) (fz : Bool) (t : Tg) (e : IE)
  | par (ms : List Nat) (i j : Nat) (a b : IE)
  | set1 (ms : List Nat) (i : Nat) (ix e : IE)
  | set2 (ms : List Nat) (i : Nat) (ix : IE) (l : Nat) (e : IE)
  | app (ms : List Nat) (i : Nat) (e : IE)
  | ext (ms : List Nat) (i : Nat) (e : IE)
  | aug (ms : List Nat) (i : Nat) (e : IE)
  | iff (ms : List Nat) (c : IE) (a b : ISs)
  | forr (ms : List Nat) (t : Tg) (it : IT) (b : ISs)
  | whl (fuel : Nat) (ms : List Nat) (c : IE) (b : ISs)
  | ret (ms : List Nat) (e : IE)
  | exp (ms : List Nat) (e : IE)
  | rse (c : Nat)
  | tryk (ie ik : Nat) (b : ISs)
  | nev
  | col (i r g : Nat) (n : Int)
  | dset (ms : List Nat) (i j : Nat) (e : IE)
  | dput (ms : List Nat) (i ja jb : Nat) (e : IE)
  | swp (i a b : Nat)
  | colt (i r g : Nat) (a b : Int)
  | apop (ms : List Nat) (i j : Nat) (e : IE)
inductive ISs where
  | nil | cons (s : IS) (ss : ISs) | frz (i : Nat) (ss : ISs) | kil (is : List Nat) (ss : ISs) | app2 (ms : List Nat) (i j k : Nat) (e : IE) (ss : ISs)
end
inductive RS where
  | nx (ρ : Env) | rt (o : Ow) (ρ : Env) | exc (c : Nat) (ρ : Env) | bad
  deriving Inhabited
def Mof (ms : List Nat) : Nat → Bool := fun i => ms.contains i
def ownAt (ρ : Env) (i : Nat) : Bool :=
  match ρ[i]? with
  | some (.val (.l _)) => true
  | some (.ref (.l _)) => true
  | some (.val (.m _ _)) => true
  | some (.ref (.m _ _)) => true
  | _ => false
def noOwn (M : Nat → Bool) (ρ : Env) : Bool := (List.range ρ.length).all fun i => M i || !ownAt ρ i
def unb : Sl → Sl
  | .bor _ => .no
  | s => s
def mergeX (M : Nat → Bool) (ρ ρ' : Env) : Env := (List.range ρ.length).map fun i => if M i = true then unb (ρ'.getD i .no) else ρ.getD i .no
def lift {α : Type} (M : Nat → Bool) (ρ : Env) (r : R α) : R α :=
  match r with
  | .ok a ρ1 => .ok a (mergeX M ρ ρ1)
  | .exc c ρ1 => .exc c (mergeX M ρ ρ1)
  | .bad => .bad
def R.thn {α : Type} (r : R α) (k : α → Env → RS) : RS :=
  match r with
  | .ok a ρ => k a ρ
  | .exc c ρ => .exc c ρ
  | .bad => .bad
def RS.thn (r : RS) (k : Env → RS) : RS :=
  match r with
  | .nx ρ => k ρ
  | r => r
def slOf : Vl → Sl
  | .ow o => .val o
  | .bw o => .bor o
def putC (ρ : Env) (i : Nat) (x : Vl) : Option Env :=
  match ρ[i]? with
  | some (.ref _) => none
  | some _ => some (ρ.set i (slOf x))
  | none => none
def putAll (ρ : Env) : List Nat → List Vl → Option Env
  | [], [] => some ρ
  | i :: is, x :: xs => (putC ρ i x).bind fun ρ' => putAll ρ' is xs
  | _, _ => none
def putT (ρ : Env) (t : Tg) (x : Vl) : Option Env :=
  match t, x with
  | .n i, x => putC ρ i x
  | .t is, .ow (.d (.tup xs)) => putAll ρ is (xs.map dv)
  | .t is, .ow (.d (.lst xs)) => putAll ρ is (xs.map dv)
  | _, _ => none
def putI (ρ : Env) (t : Tg) (x : Itm) : Option Env :=
  match t, x with
  | .n i, .one x => putC ρ i x
  | .t is, .one (.ow (.d (.tup xs))) => putAll ρ is (xs.map dv)
  | .t is, .one (.ow (.d (.lst xs))) => putAll ρ is (xs.map dv)
  | .t is, .many xs => putAll ρ is xs
  | _, _ => none
def forL (t : Tg) (body : Env → RS) : List Itm → Env → RS
  | [], ρ => .nx ρ
  | x :: xs, ρ => match putI ρ t x with
    | none => .bad
    | some ρ1 => (body ρ1).thn fun ρ2 => forL t body xs ρ2
def tst (a b : Env → RS) (x : Vl) (ρ : Env) : RS :=
  match x with
  | .ow (.d (.bl true)) => a ρ
  | .ow (.d (.bl false)) => b ρ
  | _ => .bad
def whlL (c : Env → R Vl) (body : Env → RS) : Nat → Env → RS
  | 0, _ => .bad
  | n + 1, ρ => (c ρ).thn (tst (fun ρ1 => (body ρ1).thn fun ρ2 => whlL c body n ρ2) fun ρ1 => .nx ρ1)
/-- the list that a slot owns -/
def ownL (ρ : Env) (i : Nat) : Option (List Ow) :=
  match ρ[i]? with
  | some (.val (.l os)) => some os
  | some (.ref (.l os)) => some os
  | _ => none
/-- .. put back -/
def backL (ρ : Env) (i : Nat) (os : List Ow) : Option Env :=
  match ρ[i]? with
  | some (.val (.l _)) => some (ρ.set i (.val (.l os)))
  | some (.ref (.l _)) => some (ρ.set i (.ref (.l os)))
  | _ => none
def iAt (ρ : Env) (l : Nat) : Option Int :=
  match ρ[l]? with
  | some (.val (.d (.int b))) => some b
  | _ => none
def subL (os : List Ow) (a : Nat) : Option (List Ow) :=
  match os[a]? with
  | some (.l ps) => some ps
  | _ => none
/-- a list within a list is changed -/
def set2O (ρ : Env) (i : Nat) (o : Ow) (a b : Int) (os : List Ow) : Option Env :=
  (ixN os.length a).bind fun a' => (subL os a').bind fun ps => (ixN ps.length b).bind fun b' => backL ρ i (os.set a' (.l (ps.set b' o)))
def vInt : Vl → Option Int
  | .ow (.d (.int i)) => some i
  | _ => none
/-- a place of each list within a list is changed -/
def colO (b n : Int) : List Ow → Option (List Ow)
  | [] => some []
  | .l ps :: os => (ixN ps.length b).bind fun b' => (colO b n os).map fun r => .l (ps.set b' (.d (.int n))) :: r
  | .d _ :: _ => none
  | .m _ _ :: _ => none
def colD (b : Int) (d : D) : List Ow → Option (List Ow)
  | [] => some []
  | .l ps :: os => (ixN ps.length b).bind fun b' => (colD b d os).map fun r => .l (ps.set b' (.d d)) :: r
  | .d _ :: _ => none
  | .m _ _ :: _ => none
def coltS (ρ : Env) (i g : Nat) (d : D) : Option Env :=
  (ownL ρ i).bind fun os => (iAt ρ g).bind fun b => (colD b d os).bind fun os' => backL ρ i os'
def colS (ρ : Env) (i g : Nat) (n : Int) : Option Env :=
  (ownL ρ i).bind fun os => (iAt ρ g).bind fun b => (colO b n os).bind fun os' => backL ρ i os'
/-- a list went into a list while a thing was reckoned that reads it -/
def app2O (i j k : Nat) (os : List Ow) (x : Vl) (ρ2 : Env) : Option Env :=
  match x.own, ownL ρ2 k, ρ2[j]?, ρ2[i]? with
  | some o, some okl, some (.val (.l ps)), some .no => if small okl.length && decide (j ≠ k) then (backL ρ2 k (okl ++ [o])).map fun ρ3 => (ρ3.set j .no).set i (.val (.l (os ++ [.l ps]))) else none
  | _, _, _, _ => none
/-- the dict that a slot owns -/
def ownM (ρ : Env) (i : Nat) : Option (List (Int × Int) × List D) :=
  match ρ[i]? with
  | some (.val (.m ks ds)) => some (ks, ds)
  | some (.ref (.m ks ds)) => some (ks, ds)
  | _ => none
def backM (ρ : Env) (i : Nat) (ks : List (Int × Int)) (ds : List D) : Option Env :=
  match ρ[i]? with
  | some (.val (.m _ _)) => some (ρ.set i (.val (.m ks ds)))
  | some (.ref (.m _ _)) => some (ρ.set i (.ref (.m ks ds)))
  | _ => none
/-- the pair of ints in a slot -/
def kAt (ρ : Env) (j : Nat) : Option (Int × Int) :=
  match ρ[j]? with
  | some (.val (.d (.tup [.int a, .int b]))) => some (a, b)
  | _ => none
def dsetO (i j : Nat) (x : Vl) (ρ : Env) : Option Env :=
  match x, kAt ρ j, ownM ρ i with
  | .ow (.d d), some k, some m => if (valK m.1 m.2 k.1 k.2).isSome && small m.1.length then backM ρ i m.1 (setK m.1 m.2 k.1 k.2 d) else none
  | _, _, _ => none
def dputO (i ja jb : Nat) (x : Vl) (ρ : Env) : Option Env :=
  match x, iAt ρ ja, iAt ρ jb, ownM ρ i with
  | .ow (.d d), some a, some b, some m => if (valK m.1 m.2 a b).isNone && small m.1.length then backM ρ i (m.1 ++ [(a, b)]) (m.2 ++ [d]) else none
  | _, _, _, _ => none
/-- two places of a list are exchanged -/
def swpO (ρ : Env) (i a b : Nat) : Option Env :=
  (ownL ρ i).bind fun os => (iAt ρ a).bind fun k => (iAt ρ b).bind fun l => (ixN os.length k).bind fun j => (ixN os.length l).bind fun m => (os[j]?).bind fun o1 => (os[m]?).bind fun o2 => backL ρ i ((os.set j o2).set m o1)
/-- an item goes from one list to the end of another one -/
def apopO (i j : Nat) (x : Vl) (ρ : Env) : Option Env :=
  if i = j then none else
  (vInt x).bind fun k => (ownL ρ j).bind fun ps => (ixN ps.length k).bind fun n => (ps[n]?).bind fun o => if small ps.length then (backL ρ j (ps.eraseIdx n)).bind fun ρ2 => (ownL ρ2 i).bind fun os => if small os.length then backL ρ2 i (os ++ [o]) else none else none
/-- the kind of a caught exception is told -/
def caught (ie ik c : Nat) (ρ : Env) : RS :=
  match exNm c, ρ[ie]? with
  | some x, some .no => if ie = ik then .bad else (match putC ρ ik (dv (.str (kText x))) with
    | some ρ1 => .nx ρ1
    | none => .bad)
  | _, _ => .bad
section
variable (C : CallS) (gv : Nat → Option D)
def evX (ms : List Nat) (e : IE) (ρ : Env) : R Vl :=
  (lift (Mof ms) ρ (ev C gv (Mof ms) e ρ)).bind fun x ρ1 => if x.isBw && !noOwn (Mof ms) ρ then .bad else .ok x ρ1
def ev2 (ms : List Nat) (a b : IE) (ρ : Env) : R (Vl × Vl) :=
  (lift (Mof ms) ρ ((ev C gv (Mof ms) a ρ).bind fun x ρ1 => (ev C gv (Mof ms) b ρ1).bind fun y ρ2 => .ok (x, y) ρ2)).bind fun p ρ1 => if (p.1.isBw || p.2.isBw) && !noOwn (Mof ms) ρ then .bad else .ok p ρ1
def evIX (ms : List Nat) (it : IT) (ρ : Env) : R (List Itm) :=
  (lift (Mof ms) ρ (evI C gv (Mof ms) it ρ)).bind fun x ρ1 => if !Mof ms noW && !noOwn (Mof ms) ρ then .bad else .ok x ρ1
mutual
def ex : IS → Env → RS
  | .set ms fz t e, ρ => (evX C gv ms e ρ).thn fun x ρ1 => match putT ρ1 t (if fz = true then x.frz else x) with
    | some ρ2 => .nx ρ2
    | none => .bad
  | .par ms i j a b, ρ => (ev2 C gv ms a b ρ).thn fun p ρ1 => match putAll ρ1 [i, j] [p.1, p.2] with
    | some ρ2 => if i = j then .bad else .nx ρ2
    | none => .bad
  | .set1 ms i ix e, ρ => if (ownL ρ i).isNone then .bad else (evX C gv ms e ρ).thn fun x ρ1 => (evX C gv ms ix ρ1).thn fun y ρ2 => match x.own, vInt y, ownL ρ2 i with
    | some o, some k, some os => (match ixN os.length k with
      | some j => (match backL ρ2 i (os.set j o) with
        | some ρ3 => .nx ρ3
        | none => .bad)
      | none => .bad)
    | _, _, _ => .bad
  | .set2 ms i ix l e, ρ => if (ownL ρ i).isNone then .bad else (evX C gv ms e ρ).thn fun x ρ1 => (evX C gv ms ix ρ1).thn fun y ρ2 => match x.own, vInt y, iAt ρ2 l, ownL ρ2 i with
    | some o, some a, some b, some os => (match set2O ρ2 i o a b os with
      | some ρ3 => .nx ρ3
      | none => .bad)
    | _, _, _, _ => .bad
  | .app ms i e, ρ => if (ownL ρ i).isNone then .bad else (evX C gv ms e ρ).thn fun x ρ1 => match x.own, ownL ρ1 i with
    | some o, some os => if small os.length then (match backL ρ1 i (os ++ [o]) with
      | some ρ2 => .nx ρ2
      | none => .bad) else .bad
    | _, _ => .bad
  | .ext ms i e, ρ => if (ownL ρ i).isNone then .bad else (evX C gv ms e ρ).thn fun x ρ1 => match x.parts, ownL ρ1 i with
    | some ps, some os => if small (os.length + ps.length) && !x.isBw then (match backL ρ1 i (os ++ ps) with
      | some ρ2 => .nx ρ2
      | none => .bad) else .bad
    | _, _ => .bad
  | .aug ms i e, ρ => match ρ[i]? with
    | some (.val (.d (.int j))) => (evX C gv ms e ρ).thn fun x ρ1 => match vInt x with
      | some k => (match putC ρ1 i (dv (.int (j + k))) with
        | some ρ2 => .nx ρ2
        | none => .bad)
      | none => .bad
    | _ => .bad
  | .iff ms c a b, ρ => (evX C gv ms c ρ).thn (tst (exs a) (exs b))
  | .forr ms t it b, ρ => (evIX C gv ms it ρ).thn fun xs ρ1 => forL t (exs b) xs ρ1
  | .whl n ms c b, ρ => whlL (evX C gv ms c) (exs b) n ρ
  | .ret ms e, ρ => (evX C gv ms e ρ).thn fun x ρ1 => match x.own with
    | some o => .rt o ρ1
    | none => .bad
  | .exp ms e, ρ => (evX C gv ms e ρ).thn fun _ ρ1 => .nx ρ1
  | .rse c, ρ => .exc c ρ
  | .tryk ie ik b, ρ => match exs b ρ with
    | .exc c ρ1 => caught ie ik c ρ1
    | r => r
  | .nev, ρ => .bad
  | .dset ms i j e, ρ => (evX C gv ms e ρ).thn fun x ρ1 => match dsetO i j x ρ1 with
    | some ρ2 => .nx ρ2
    | none => .bad
  | .dput ms i ja jb e, ρ => (evX C gv ms e ρ).thn fun x ρ1 => match dputO i ja jb x ρ1 with
    | some ρ2 => .nx ρ2
    | none => .bad
  | .swp i a b, ρ => match swpO ρ i a b with
    | some ρ2 => .nx ρ2
    | none => .bad
  | .apop ms i j e, ρ => if (ownL ρ i).isNone || (ownL ρ j).isNone then .bad else (evX C gv ms e ρ).thn fun x ρ1 => match apopO i j x ρ1 with
    | some ρ2 => .nx ρ2
    | none => .bad
  | .colt i r g a b, ρ => if r < ρ.length then (match coltS (ρ.set r .no) i g (.tup [.int a, .int b]) with
    | some ρ' => .nx ρ'
    | none => .bad) else .bad
  | .col i r g n, ρ => if r < ρ.length then (match colS (ρ.set r .no) i g n with
    | some ρ' => .nx ρ'
    | none => .bad) else .bad
def exs : ISs → Env → RS
  | .nil, ρ => .nx ρ
  | .cons s ss, ρ => (ex s ρ).thn (exs ss)
  | .frz i ss, ρ => match ρ[i]? with
    | some (.val o) => exs ss (ρ.set i (.val (.d o.toD)))
    | some (.bor _) => exs ss ρ
    | _ => .bad
  | .kil is ss, ρ => exs ss (wipeS ρ is)
  | .app2 ms i j k e ss, ρ => match ρ[i]?, ρ[j]? with
    | some (.val (.l os)), some (.val (.l _)) => if (ownL (ρ.set i .no) k).isNone || !small os.length then .bad else (evX C gv ms e (ρ.set i .no)).thn fun x ρ2 => match app2O i j k os x ρ2 with
      | some ρ3 => exs ss ρ3
      | none => .bad
    | _, _ => .bad
end
end

/-! ### readings -/
def all1 : Nat → Bool := fun _ => true
section
variable {K : PySem.W.Frag} {M : Nat → Bool} {bp : List (Nat × Addr)} {W : WX} {cls : Nat → Value} {Z : Fz} {fpf fpf' : Nat → List Addr} {Hb Hb' H H' : Hp} {σ σ' : L2.St} {ρ ρ' : Env} {v u : V} {x y z : Vl} {fp fp1 fp2 : List Addr} {α β : Type}
theorem ro_d {d : D} {f : List Addr} (h : RO K Hb H v (.d d) f) {a : Addr} (ha : a ∈ f) : False := by
  generalize ho : Ow.d d = o at h
  cases h with
  | d _ => cases ha
  | l _ _ => cases ho
  | m _ _ => cases ho
theorem ro_d' {d : D} {f : List Addr} (h : RO K Hb H v (.d d) f) : Rp K Hb v d := by
  generalize ho : Ow.d d = o at h
  cases h with
  | d h => cases ho; exact h
  | l _ _ => cases ho
  | m _ _ => cases ho
theorem mergeX_get {i : Nat} (hi : i < ρ.length) : (mergeX M ρ ρ')[i]? = some (if M i = true then unb (ρ'.getD i .no) else ρ.getD i .no) := by
  unfold mergeX
  rw [List.getElem?_map, List.getElem?_range hi]
  rfl
theorem mergeX_len : (mergeX M ρ ρ').length = ρ.length := by simp [mergeX]
/-- a frame with all its slots its own: some of them are to be read only, for a while -/
def inner (M : Nat → Bool) (Z : Fz) (fpf : Nat → List Addr) (H : Hp) (ρ : Env) : Fz := ⟨fun a => Z.F a ∨ ∃ i, M i = false ∧ ownAt ρ i = true ∧ a ∈ fpf i, Z.G, H⟩
theorem StR.inner (S : StR K all1 bp Z fpf Hb H σ ρ) : StR K M bp (inner M Z fpf H ρ) (fun i => if M i = true then fpf i else []) Hb H σ ρ := by
  refine ⟨S.ex, fun a ha => ?_, S.len, fun i s hs => ?_, fun i j hij a h1 h2 => ?_, fun i a ha q => ?_, fun i a ha => ?_, fun i hi => ?_⟩
  · refine ⟨rfl, ?_⟩
    rcases ha with (ha | ⟨i, _, _, ha⟩) | ha
    · exact (S.fr a (.inl ha)).2
    · exact S.hb i a ha
    · exact (S.fr a (.inr ha)).2
  · have q := S.sl i s hs
    have key : ∀ o, (s = .val o ∨ s = .ref o) → (∃ v, σ[i]? = some (some v) ∧ RO K Hb H v o (fpf i)) → if M i = true then ∃ v, σ[i]? = some (some v) ∧ RO K Hb H v o (if M i = true then fpf i else []) else ∃ v fp, σ[i]? = some (some v) ∧ RO K Hb H v o fp ∧ ∀ a ∈ fp, (WM.inner M Z fpf H ρ).F a := by
      rintro o ho ⟨v, h1, h2⟩
      split
      · exact ⟨v, h1, h2⟩
      · rename_i hM
        refine ⟨v, fpf i, h1, h2, fun a ha => ?_⟩
        cases o with
        | d d => exact (ro_d h2 ha).elim
        | l os =>
          refine .inr ⟨i, by simpa using hM, ?_, ha⟩
          unfold ownAt
          rw [hs]
          rcases ho with rfl | rfl <;> rfl
        | m _ _ =>
          refine .inr ⟨i, by simpa using hM, ?_, ha⟩
          unfold ownAt
          rw [hs]
          rcases ho with rfl | rfl <;> rfl
    cases s with
    | no => trivial
    | bor o => obtain ⟨v, f, h1, h2, h3⟩ := q; exact ⟨v, f, h1, h2, fun a ha => .inl (h3 a ha)⟩
    | val o => exact key o (.inl rfl) (by simpa [all1] using q)
    | ref o => exact ⟨q.1, key o (.inr rfl) (by simpa [all1] using q.2)⟩
  · try dsimp only at h1 h2
    split at h1
    · split at h2
      · exact S.sep i j hij a h1 h2
      · cases h2
    · cases h1
  · try dsimp only at ha
    split at ha
    · rename_i hM
      rcases q with (q | ⟨j, hj, _, q⟩) | q
      · exact S.nf i a ha (.inl q)
      · exact S.sep i j (fun e => by rw [e, hj] at hM; cases hM) a ha q
      · exact S.nf i a ha (.inr q)
    · cases ha
  · try dsimp only at ha
    split at ha
    · exact S.hb i a ha
    · cases ha
  · try dsimp only
    rw [if_neg (by rw [hi]; exact Bool.false_ne_true)]
theorem noOwn_F (h : noOwn M ρ = true) (a : Addr) (ha : (inner M Z fpf H ρ).F a) : Z.F a := by
  rcases ha with ha | ⟨i, h1, h2, _⟩
  · exact ha
  · unfold noOwn at h
    rw [List.all_eq_true] at h
    have hl : i < ρ.length := by
      unfold ownAt at h2
      cases q : ρ[i]? with
      | none => rw [q] at h2; cases h2
      | some _ => exact (List.getElem?_eq_some_iff.mp q).1
    have := h i (List.mem_range.mpr hl)
    rw [h1, h2] at this
    cases this
/-- .. and back -/
theorem StR.outer (S : StR K all1 bp Z fpf Hb H σ ρ) {fpf1 : Nat → List Addr} {Hb1 H1 : Hp} {ρ1 : Env} (e : Same Hb Hb1) (S1 : StR K M bp (WM.inner M Z fpf H ρ) fpf1 Hb1 H1 σ ρ1) :
    StR K all1 bp Z (fun i => if M i = true then fpf1 i else if ownAt ρ i = true then fpf i else []) Hb1 H1 σ (mergeX M ρ ρ1) := by
  have inF : ∀ {i : Nat} {a : Addr}, ¬ M i = true → ownAt ρ i = true → a ∈ fpf i → (WM.inner M Z fpf H ρ).F a := fun {i a} h1 h2 h3 => .inr ⟨i, by simpa using h1, h2, h3⟩
  have kp : ∀ a, (WM.inner M Z fpf H ρ).F a → H1 a = H a ∧ Hb1 a = none ∧ H1 a ≠ none := fun a ha => S1.fr a (.inl ha)
  refine ⟨S1.ex, fun a ha => ?_, mergeX_len.trans S.len, fun i s hs => ?_, fun i j hij a h1 h2 => ?_, fun i a ha q => ?_, fun i a ha => ?_, fun i hi => (nomatch (show true = false from hi))⟩
  · have q := S1.fr a (ha.elim (fun h => .inl (.inl h)) .inr)
    exact ⟨q.1.trans (S.fr a ha).1, q.2⟩
  · have hl : i < ρ.length := by have := (List.getElem?_eq_some_iff.mp hs).1; rwa [mergeX_len] at this
    rw [mergeX_get hl] at hs
    by_cases hM : M i = true
    · rw [if_pos hM] at hs
      cases q : ρ1[i]? with
      | none =>
        have : ρ1.getD i .no = .no := by rw [List.getD_eq_getElem?_getD, q]; rfl
        rw [this] at hs; cases hs; trivial
      | some s' =>
        have : ρ1.getD i .no = s' := by rw [List.getD_eq_getElem?_getD, q]; rfl
        rw [this] at hs
        have e2 : unb s' = s := Option.some.inj hs
        subst e2
        have k := S1.sl i s' q
        have own : ∀ {o : Ow}, (if M i = true then ∃ v, σ[i]? = some (some v) ∧ RO K Hb1 H1 v o (fpf1 i) else ∃ v fp, σ[i]? = some (some v) ∧ RO K Hb1 H1 v o fp ∧ ∀ a ∈ fp, (WM.inner M Z fpf H ρ).F a) → if all1 i = true then ∃ v, σ[i]? = some (some v) ∧ RO K Hb1 H1 v o (if M i = true then fpf1 i else if ownAt ρ i = true then fpf i else []) else ∃ v fp, σ[i]? = some (some v) ∧ RO K Hb1 H1 v o fp ∧ ∀ a ∈ fp, Z.F a := fun k => by
          rw [if_pos hM] at k
          rw [if_pos (show all1 i = true from rfl), if_pos hM]
          exact k
        cases s' with
        | no => trivial
        | bor o => trivial
        | val o => exact own k
        | ref o => exact ⟨k.1, own k.2⟩
    · rw [if_neg hM] at hs
      have h0 : ρ[i]? = some s := by
        have e1 : ρ.getD i .no = s := Option.some.inj hs
        rw [List.getD_eq_getElem?_getD, List.getElem?_eq_getElem hl] at e1
        rw [List.getElem?_eq_getElem hl]
        exact congrArg some e1
      have k := S.sl i s h0
      have own : ∀ {o : Ow}, (s = .val o ∨ s = .ref o) → (∃ v, σ[i]? = some (some v) ∧ RO K Hb H v o (fpf i)) → if all1 i = true then ∃ v, σ[i]? = some (some v) ∧ RO K Hb1 H1 v o (if M i = true then fpf1 i else if ownAt ρ i = true then fpf i else []) else ∃ v fp, σ[i]? = some (some v) ∧ RO K Hb1 H1 v o fp ∧ ∀ a ∈ fp, Z.F a := by
        rintro o ho ⟨v, h1, h2⟩
        rw [if_pos (show all1 i = true from rfl), if_neg hM]
        cases o with
        | d d =>
          refine ⟨v, h1, ?_⟩
          have : ownAt ρ i = false := by unfold ownAt; rw [h0]; rcases ho with rfl | rfl <;> rfl
          rw [this, if_neg Bool.false_ne_true]
          exact .d (Rp.mono e _ _ (ro_d' h2))
        | l os =>
          have ht : ownAt ρ i = true := by unfold ownAt; rw [h0]; rcases ho with rfl | rfl <;> rfl
          rw [if_pos ht]
          exact ⟨v, h1, RO.mono e _ _ _ (fun a ha => ⟨(kp a (inF hM ht ha)).1, (kp a (inF hM ht ha)).2.1⟩) h2⟩
        | m _ _ =>
          have ht : ownAt ρ i = true := by unfold ownAt; rw [h0]; rcases ho with rfl | rfl <;> rfl
          rw [if_pos ht]
          exact ⟨v, h1, RO.mono e _ _ _ (fun a ha => ⟨(kp a (inF hM ht ha)).1, (kp a (inF hM ht ha)).2.1⟩) h2⟩
      cases s with
      | no => trivial
      | bor o =>
        obtain ⟨v, f, h1, h2, h3⟩ := k
        exact ⟨v, f, h1, RO.mono e _ _ _ (fun a ha => ⟨(kp a (.inl (h3 a ha))).1, (kp a (.inl (h3 a ha))).2.1⟩) h2, h3⟩
      | val o => exact own (.inl rfl) (by simpa [all1] using k)
      | ref o => exact ⟨k.1, own (.inr rfl) (by simpa [all1] using k.2)⟩
  · try dsimp only at h1 h2
    split at h1
    · rename_i hi
      split at h2
      · exact S1.sep i j hij a h1 h2
      · rename_i hj
        split at h2
        · rename_i ho; exact S1.nf i a h1 (.inl (inF hj ho h2))
        · cases h2
    · rename_i hi
      split at h1
      · rename_i ho
        split at h2
        · exact S1.nf j a h2 (.inl (inF hi ho h1))
        · split at h2
          · exact S.sep i j hij a h1 h2
          · cases h2
      · cases h1
  · try dsimp only at ha
    split at ha
    · exact S1.nf i a ha (q.elim (fun h => .inl (.inl h)) .inr)
    · split at ha
      · exact S.nf i a ha q
      · cases ha
  · try dsimp only at ha
    split at ha
    · exact S1.hb i a ha
    · rename_i hM
      split at ha
      · rename_i ho
        have := kp a (inF hM ho ha)
        exact this.2
      · cases ha
end
end WM

/-! WM: parts of statements are right. -/
namespace WM
open PySem PySem.Spec PyProof.Rows L2
section
variable {K : PySem.W.Frag} {M : Nat → Bool} {bp : List (Nat × Addr)} {W : WX} {cls : Nat → Value} {Z : Fz} {fpf fpf' : Nat → List Addr} {Hb Hb' H H' : Hp} {σ σ' : L2.St} {ρ ρ' : Env} {v u : V} {x y z : Vl} {fp fp1 fp2 : List Addr} {α β : Type}
/-- a part of a statement, its frame being closed for a while -/
theorem enter {r : R α} {k : α → (Nat → List Addr) → Hp → Hp → Prop} (S : StR K all1 bp Z fpf Hb H σ ρ) (h : Pst K all1 bp W cls Z Hb σ (lift M ρ r) k) :
    Pst K M bp W cls (inner M Z fpf H ρ) Hb σ r fun x fpf1 Hb1 H1 => ∃ fpf2 ρ1, r = .ok x ρ1 ∧ StR K all1 bp Z fpf2 Hb1 H1 σ (mergeX M ρ ρ1) ∧ (∀ i a, a ∈ fpf2 i → a ∈ fpf1 i ∨ (inner M Z fpf H ρ).F a) ∧ k x fpf2 Hb1 H1 := by
  cases r with
  | ok a ρ1 =>
    intro Hb1 H1 fpf1 e S1
    have S2 := S.outer e S1
    refine ⟨_, ρ1, rfl, S2, fun i a ha => ?_, h Hb1 H1 _ e S2⟩
    try dsimp only at ha
    split at ha
    · exact .inl ha
    · rename_i hM
      split at ha
      · rename_i ho; exact .inr (.inr ⟨i, by simpa using hM, ho, ha⟩)
      · cases ha
  | exc c ρ1 =>
    intro Hb1 H1 fpf1 e S1
    exact h Hb1 H1 _ e (S.outer e S1)
  | bad => exact h
theorem RVl.outer {fpf1 fpf2 : Nat → List Addr} {H0 : Hp} {fpf0 : Nat → List Addr} (h : ∀ i a, a ∈ fpf2 i → a ∈ fpf1 i ∨ (inner M Z fpf0 H0 ρ).F a) (hb : x.isBw = true → noOwn M ρ = true) (r : RVl K (inner M Z fpf0 H0 ρ) fpf1 Hb H v x fp) : RVl K Z fpf2 Hb H v x fp := by
  cases x with
  | ow o => exact ⟨r.1, fun a ha q => r.2.1 a ha (q.elim (fun q => .inl (.inl q)) .inr), fun i a hi ha => (h i a hi).elim (fun q => r.2.2 i a q ha) fun q => r.2.1 a ha (.inl q)⟩
  | bw o => obtain ⟨f, h1, h2, h3⟩ := r; exact ⟨f, h1, fun a ha => noOwn_F (hb rfl) a (h2 a ha), h3⟩
variable {C : CallS} {gv : Nat → Option D}
/-- an expression at a statement -/
theorem evX_ok {ms : List Nat} {e : IE} {Q : VK} (S : StR K all1 bp Z fpf Hb H σ ρ) (h : Pst K all1 bp W cls Z Hb σ (evX C gv ms e ρ) fun x fpf' Hb' H' => ∀ v fp, RVl K Z fpf' Hb' H' v x fp → Q v H') : tE K (Mof ms) bp W cls (ev C gv (Mof ms) e) σ H Q := by
  refine ⟨_, _, Hb, ρ, S.inner, (enter S h.bind).imp ?_⟩
  rintro x ρ1 fpf1 Hb1 H1 er e1 S1 ⟨fpf2, ρ2, er2, S2, hf, q⟩ v fp r
  rw [er] at er2
  cases er2
  have q := q (mergeX (Mof ms) ρ ρ1) (by rw [er]; rfl) S2
  split at q
  · exact q.elim
  · rename_i hb
    refine q Hb1 H1 fpf2 (fun _ _ e => e) S2 v fp (r.outer hf fun hx => ?_)
    rw [hx, Bool.true_and] at hb
    simpa using hb
theorem evT_ok {ms : List Nat} {e : IE} {Q : Bool → Hp → Prop} (S : StR K all1 bp Z fpf Hb H σ ρ) (h : Pst K all1 bp W cls Z Hb σ (evX C gv ms e ρ) fun x fpf' Hb' H' => ∃ b, x = dv (.bl b) ∧ Q b H') : tT K (Mof ms) bp W cls (ev C gv (Mof ms) e) σ H Q := by
  refine ⟨_, _, Hb, ρ, S.inner, (enter S h.bind).imp ?_⟩
  rintro x ρ1 fpf1 Hb1 H1 er e1 S1 ⟨fpf2, ρ2, er2, S2, hf, q⟩
  rw [er] at er2
  cases er2
  have q := q (mergeX (Mof ms) ρ ρ1) (by rw [er]; rfl) S2
  split at q
  · exact q.elim
  · exact q Hb1 H1 fpf2 (fun _ _ e => e) S2
theorem evI_ok {ms : List Nat} {it : IT} {Rk : It → Hp → Prop} (S : StR K all1 bp Z fpf Hb H σ ρ) (h : Pst K all1 bp W cls Z Hb σ (evIX C gv ms it ρ) fun xs fpf' Hb' H' => ∀ J, ItR K Z.F Hb' H' J xs → Rk J H') : tI K (Mof ms) bp W cls (evI C gv (Mof ms) it) σ H Rk := by
  refine ⟨_, _, Hb, ρ, S.inner, (enter S h.bind).imp ?_⟩
  rintro x ρ1 fpf1 Hb1 H1 er e1 S1 ⟨fpf2, ρ2, er2, S2, hf, q⟩ J hJ
  rw [er] at er2
  cases er2
  have q := q (mergeX (Mof ms) ρ ρ1) (by rw [er]; rfl) S2
  split at q
  · exact q.elim
  · rename_i hb
    refine q Hb1 H1 fpf2 (fun _ _ e => e) S2 J (hJ.wide fun a ha => ?_)
    by_cases hn : noOwn (Mof ms) ρ = true
    · exact noOwn_F hn a ha.2
    · exfalso
      have h1 : Mof ms noW = false := ha.1
      have hn : noOwn (Mof ms) ρ = false := by simpa using hn
      rw [h1, hn] at hb
      exact hb rfl
theorem ev2_ok {ms : List Nat} {a b : IE} {Q : List V → Hp → Prop} (S : StR K all1 bp Z fpf Hb H σ ρ) (h : Pst K all1 bp W cls Z Hb σ (ev2 C gv ms a b ρ) fun p fpf' Hb' H' => ∀ v u f1 f2, RVl K Z fpf' Hb' H' v p.1 f1 → RVl K Z fpf' Hb' H' u p.2 f2 → Disj f1 f2 → Q [v, u] H') :
    tCons (tE K (Mof ms) bp W cls (ev C gv (Mof ms) a)) (tCons (tE K (Mof ms) bp W cls (ev C gv (Mof ms) b)) tNil) σ H Q := by
  have en := enter S h.bind
  show tE K (Mof ms) bp W cls (ev C gv (Mof ms) a) σ H fun x H1 => tE K (Mof ms) bp W cls (ev C gv (Mof ms) b) σ H1 fun y H2 => Q [x, y] H2
  refine tE_two (Q := fun v u H2 => Q [v, u] H2) S.inner en ?_
  intro x y ρ2 fpf2 Hb2 H2 v u f1 f2 e S2 r1 r2 dj q
  obtain ⟨fpf3, ρ3, er, S3, hf, q⟩ := q Hb2 H2 fpf2 (fun _ _ e => e) S2
  have q := q _ (by rw [er]; rfl) S3
  split at q
  · exact q.elim
  · rename_i hb
    have hn : ∀ {w : Vl}, (w = x ∨ w = y) → w.isBw = true → noOwn (Mof ms) ρ = true := by
      intro w hw hw2
      cases hq : noOwn (Mof ms) ρ with
      | true => rfl
      | false =>
        exfalso
        apply hb
        rw [hq]
        rcases hw with rfl | rfl <;> simp [hw2]
    exact q Hb2 H2 fpf3 (fun _ _ e => e) S3 v u f1 f2 (r1.outer hf (hn (.inl rfl))) (r2.outer hf (hn (.inr rfl))) dj

/-! ### slots -/
/-- a slot is given a value -/
theorem putC_ok {i : Nat} (S : StR K all1 bp Z fpf Hb H σ ρ) (r : RVl K Z fpf Hb H v x fp) (h : putC ρ i x = some ρ') :
    StR K all1 bp Z (fun j => if j = i then fp else fpf j) Hb H (σ.set i (some v)) ρ' ∧ i < σ.length := by
  have hfp : (∀ a ∈ fp, ¬ (Z.F a ∨ Z.G a)) ∧ (∀ a ∈ fp, Hb a = none ∧ H a ≠ none) ∧ ∀ j, Disj (fpf j) fp := by
    cases x with
    | ow o => exact ⟨r.2.1, r.1.at_, r.2.2⟩
    | bw o => obtain ⟨f, _, _, e⟩ := r; subst e; exact ⟨fun _ h => (nomatch h), fun _ h => (nomatch h), fun _ _ _ h => (nomatch h)⟩
  have key : ∀ s0, ρ[i]? = some s0 → ρ' = ρ.set i (slOf x) → StR K all1 bp Z (fun j => if j = i then fp else fpf j) Hb H (σ.set i (some v)) ρ' ∧ i < σ.length := by
    intro s0 h0 e
    have hl : i < ρ.length := (List.getElem?_eq_some_iff.mp h0).1
    have hl' : i < σ.length := by rw [← S.len]; exact hl
    subst e
    refine ⟨⟨S.ex, S.fr, by rw [List.length_set, List.length_set]; exact S.len, fun j s hj => ?_, fun a b hab c h1 h2 => ?_, fun j a ha => ?_, fun j a ha => ?_, fun j hj => (nomatch (show true = false from hj))⟩, hl'⟩
    · by_cases e : j = i
      · subst e
        rw [List.getElem?_set_self hl] at hj
        rw [List.getElem?_set_self hl']
        cases x with
        | ow o =>
          cases hj
          show if all1 j = true then _ else _
          rw [if_pos (show all1 j = true from rfl)]
          refine ⟨v, rfl, ?_⟩
          try dsimp only
          rw [if_pos rfl]
          exact r.1
        | bw o =>
          cases hj
          obtain ⟨f, h1, h2, _⟩ := r
          exact ⟨v, f, rfl, h1, h2⟩
      · rw [List.getElem?_set_ne (Ne.symm e)] at hj
        rw [List.getElem?_set_ne (Ne.symm e)]
        have q := S.sl j s hj
        try dsimp only
        rw [if_neg e]
        exact q
    · try dsimp only at h1 h2
      split at h1
      · split at h2
        · rename_i e1 e2; exact hab (e1.trans e2.symm)
        · exact hfp.2.2 b c h2 h1
      · split at h2
        · exact hfp.2.2 a c h1 h2
        · exact S.sep a b hab c h1 h2
    · try dsimp only at ha
      split at ha
      · exact hfp.1 a ha
      · exact S.nf j a ha
    · try dsimp only at ha
      split at ha
      · exact hfp.2.1 a ha
      · exact S.hb j a ha
  unfold putC at h
  split at h
  · cases h
  · rename_i s0 _ h0; cases h; exact key _ h0 rfl
  · cases h
theorem lent_rvl (h : Lent K Z.F Hb H v x) : RVl K Z fpf Hb H v x [] := by
  match x, h with
  | .ow (.d d), h => exact .d h
  | .bw o, ⟨f, h1, h2⟩ => exact ⟨f, h1, h2, rfl⟩
/-- several, what is lent or data -/
theorem putAll_ok {Q : L2.St → Hp → Prop} : ∀ {is : List Nat} {xs : List Vl} {vs : List V} {σ : L2.St} {ρ ρ' : Env} {fpf : Nat → List Addr}, StR K all1 bp Z fpf Hb H σ ρ → vs.length = xs.length → (∀ (i : Nat) v x, vs[i]? = some v → xs[i]? = some x → Lent K Z.F Hb H v x) → putAll ρ is xs = some ρ' →
    (∀ σ' fpf', StR K all1 bp Z fpf' Hb H σ' ρ' → Q σ' H) → gNames is vs σ H Q ∧ is.length = xs.length
  | [], [], vs, σ, ρ, ρ', fpf, S, hl, _, h, q => by
    cases h
    exact ⟨⟨List.eq_nil_of_length_eq_zero hl, q σ fpf S⟩, rfl⟩
  | [], _ :: _, _, _, _, _, _, _, _, _, h, _ => by simp [putAll] at h
  | _ :: _, [], _, _, _, _, _, _, _, _, h, _ => by simp [putAll] at h
  | i :: is, x :: xs, vs, σ, ρ, ρ', fpf, S, hl, hv, h, q => by
    obtain ⟨ρ1, h1, h2⟩ := Option.bind_eq_some_iff.mp (show (putC ρ i x).bind (fun ρ' => putAll ρ' is xs) = some ρ' from h)
    cases vs with
    | nil => simp at hl
    | cons v vs =>
      obtain ⟨S1, hlt⟩ := putC_ok S (lent_rvl (hv 0 v x rfl rfl)) h1
      have rc := putAll_ok S1 (by simpa using hl) (fun j w y g1 g2 => hv (j + 1) w y (by simpa using g1) (by simpa using g2)) h2 q
      exact ⟨⟨v, vs, rfl, rc.1⟩, by simp [rc.2]⟩
end
end WM

/-! WM: slots are changed in place; the syntax of statements. -/
namespace WM
open PySem PySem.Spec PyProof.Rows L2
section
variable {K : PySem.W.Frag} {M : Nat → Bool} {bp : List (Nat × Addr)} {W : WX} {cls : Nat → Value} {Z : Fz} {fpf fpf' : Nat → List Addr} {Hb Hb' H H' : Hp} {σ σ' : L2.St} {ρ ρ' : Env} {v u : V} {x y z : Vl} {fp fp1 fp2 : List Addr} {α β : Type}
/-- a slot is let go -/
theorem StR.dropS (S : StR K M bp Z fpf Hb H σ ρ) (i : Nat) : StR K M bp Z (fun j => if j = i then [] else fpf j) Hb H σ (ρ.set i .no) := by
  refine ⟨S.ex, S.fr, by rw [List.length_set]; exact S.len, fun j s hj => ?_, fun a b hab => ?_, fun j a ha => ?_, fun j a ha => ?_, fun j hj => ?_⟩
  · by_cases e : j = i
    · subst e
      have hl : j < ρ.length := by have := (List.getElem?_eq_some_iff.mp hj).1; rwa [List.length_set] at this
      rw [List.getElem?_set_self hl] at hj
      cases hj; trivial
    · rw [List.getElem?_set_ne (Ne.symm e)] at hj
      have q := S.sl j s hj
      try dsimp only
      rw [if_neg e]
      exact q
  · try dsimp only
    intro x hx hy
    split at hx
    · cases hx
    · split at hy
      · cases hy
      · exact S.sep a b hab x hx hy
  · try dsimp only at ha
    split at ha
    · cases ha
    · exact S.nf j a ha
  · try dsimp only at ha
    split at ha
    · cases ha
    · exact S.hb j a ha
  · try dsimp only
    split
    · rfl
    · exact S.off j hj
theorem StR.wipe : ∀ (is : List Nat) {ρ : Env} {fpf : Nat → List Addr}, StR K M bp Z fpf Hb H σ ρ → ∃ fpf', StR K M bp Z fpf' Hb H σ (wipeS ρ is)
  | [], _, _, S => ⟨_, S⟩
  | i :: is, _, _, S => StR.wipe is (S.dropS i)
theorem ownL_some {i : Nat} {os : List Ow} (S : StR K all1 bp Z fpf Hb H σ ρ) (h : ownL ρ i = some os) : ∃ w, σ[i]? = some (some w) ∧ RO K Hb H w (.l os) (fpf i) ∧ (ρ[i]? = some (.val (.l os)) ∨ ∃ p, ρ[i]? = some (.ref (.l os)) ∧ (i, p) ∈ bp ∧ w = .ref p) := by
  unfold ownL at h
  split at h
  · rename_i os' h0
    have e := Option.some.inj h
    subst e
    have q := S.sl i _ h0
    obtain ⟨w, h1, h2⟩ := (show ∃ v, σ[i]? = some (some v) ∧ RO K Hb H v (.l os') (fpf i) from q)
    exact ⟨w, h1, h2, .inl h0⟩
  · rename_i os' h0
    have e := Option.some.inj h
    subst e
    obtain ⟨⟨p, q1, q2⟩, q⟩ := S.sl i _ h0
    obtain ⟨w, h1, h2⟩ := (show ∃ v, σ[i]? = some (some v) ∧ RO K Hb H v (.l os') (fpf i) from q)
    rw [q2] at h1; cases h1
    exact ⟨_, q2, h2, .inr ⟨p, h0, q1, rfl⟩⟩
  · cases h
/-- what a slot owns is changed in place -/
theorem own_mut {i : Nat} {q : Addr} {o : HO} {w : V} {os os' : List Ow} {g : List Addr} (S : StR K all1 bp Z fpf Hb H σ ρ) (h : ownL ρ i = some os) (hb : backL ρ i os' = some ρ') (hw : σ[i]? = some (some w)) (hq : q ∈ fpf i)
    (r : RO K Hb (upd H q o) w (.l os') g) (g1 : ∀ a ∈ g, ¬ (Z.F a ∨ Z.G a)) (g2 : ∀ j, j ≠ i → Disj (fpf j) g) : StR K all1 bp Z (fun j => if j = i then g else fpf j) Hb (upd H q o) σ ρ' := by
  have S0 := (S.dropS i).mut (o := o) (S.nf i q hq) (fun j hj => by
    try dsimp only at hj
    split at hj
    · cases hj
    · rename_i e; exact S.sep j i e q hj hq) (S.hb i q hq).1
  obtain ⟨w', k1, k2, k3⟩ := ownL_some S h
  rw [hw] at k1; cases k1
  have hl : i < ρ.length := by
    unfold ownL at h
    cases e : ρ[i]? with
    | none => rw [e] at h; cases h
    | some _ => exact (List.getElem?_eq_some_iff.mp e).1
  have main : ∀ s : Sl, ρ' = ρ.set i s → (s = .val (.l os') ∨ (s = .ref (.l os') ∧ ∃ p, (i, p) ∈ bp ∧ w = .ref p)) → StR K all1 bp Z (fun j => if j = i then g else fpf j) Hb (upd H q o) σ ρ' := by
    intro s e hs
    subst e
    refine ⟨S0.ex, S0.fr, by rw [List.length_set]; exact S.len, fun j s' hj => ?_, fun a b hab c h1 h2 => ?_, fun j a ha => ?_, fun j a ha => ?_, fun j hj => (nomatch (show true = false from hj))⟩
    · by_cases e : j = i
      · subst e
        rw [List.getElem?_set_self hl] at hj
        cases hj
        rcases hs with rfl | ⟨rfl, p, hp, e2⟩
        · show if all1 j = true then _ else _
          rw [if_pos (show all1 j = true from rfl)]
          refine ⟨w, hw, ?_⟩
          try dsimp only
          rw [if_pos rfl]
          exact r
        · refine ⟨⟨p, hp, by rw [hw, e2]⟩, ?_⟩
          rw [if_pos (show all1 j = true from rfl)]
          refine ⟨w, hw, ?_⟩
          try dsimp only
          rw [if_pos rfl]
          exact r
      · rw [List.getElem?_set_ne (Ne.symm e)] at hj
        have k := S0.sl j s' (by rw [List.getElem?_set_ne (Ne.symm e)]; exact hj)
        try dsimp only at k
        rw [if_neg e] at k
        try dsimp only
        rw [if_neg e]
        exact k
    · try dsimp only at h1 h2
      split at h1
      · rename_i e1
        split at h2
        · rename_i e2; exact hab (e1.trans e2.symm)
        · rename_i e2; exact g2 b e2 c h2 h1
      · rename_i e1
        split at h2
        · exact g2 a e1 c h1 h2
        · exact S.sep a b hab c h1 h2
    · try dsimp only at ha
      split at ha
      · exact g1 a ha
      · exact S.nf j a ha
    · try dsimp only at ha
      split at ha
      · exact r.at_ a ha
      · rename_i e
        have k := S0.hb j a
        try dsimp only at k
        rw [if_neg e] at k
        exact k ha
  unfold backL at hb
  rcases k3 with k3 | ⟨p, k3, k4, k5⟩
  · rw [k3] at hb; cases hb
    exact main _ rfl (.inl rfl)
  · rw [k3] at hb; cases hb
    exact main _ rfl (.inr ⟨rfl, p, k4, k5⟩)
/-- what a slot owns is changed in place, whatever it is -/
theorem own_mutG {i : Nat} {q : Addr} {o : HO} {w : V} {o0 o' : Ow} {g : List Addr} (S : StR K all1 bp Z fpf Hb H σ ρ) (hs : (ρ[i]? = some (.val o0) ∧ ρ' = ρ.set i (.val o')) ∨ (ρ[i]? = some (.ref o0) ∧ ρ' = ρ.set i (.ref o'))) (hw : σ[i]? = some (some w)) (hq : q ∈ fpf i)
    (r : RO K Hb (upd H q o) w o' g) (g1 : ∀ a ∈ g, ¬ (Z.F a ∨ Z.G a)) (g2 : ∀ j, j ≠ i → Disj (fpf j) g) : StR K all1 bp Z (fun j => if j = i then g else fpf j) Hb (upd H q o) σ ρ' := by
  have S0 := (S.dropS i).mut (o := o) (S.nf i q hq) (fun j hj => by
    try dsimp only at hj
    split at hj
    · cases hj
    · rename_i e; exact S.sep j i e q hj hq) (S.hb i q hq).1
  have hl : i < ρ.length := by
    rcases hs with ⟨e, _⟩ | ⟨e, _⟩ <;> exact (List.getElem?_eq_some_iff.mp e).1
  have main : ∀ s : Sl, ρ' = ρ.set i s → (s = .val o' ∨ (s = .ref o' ∧ ∃ p, (i, p) ∈ bp ∧ w = .ref p)) → StR K all1 bp Z (fun j => if j = i then g else fpf j) Hb (upd H q o) σ ρ' := by
    intro s e hs1
    subst e
    refine ⟨S0.ex, S0.fr, by rw [List.length_set]; exact S.len, fun j s' hj => ?_, fun a b hab c h1 h2 => ?_, fun j a ha => ?_, fun j a ha => ?_, fun j hj => (nomatch (show true = false from hj))⟩
    · by_cases e : j = i
      · subst e
        rw [List.getElem?_set_self hl] at hj
        cases hj
        rcases hs1 with rfl | ⟨rfl, p, hp, e2⟩
        · show if all1 j = true then _ else _
          rw [if_pos (show all1 j = true from rfl)]
          refine ⟨w, hw, ?_⟩
          try dsimp only
          rw [if_pos rfl]
          exact r
        · refine ⟨⟨p, hp, by rw [hw, e2]⟩, ?_⟩
          rw [if_pos (show all1 j = true from rfl)]
          refine ⟨w, hw, ?_⟩
          try dsimp only
          rw [if_pos rfl]
          exact r
      · rw [List.getElem?_set_ne (Ne.symm e)] at hj
        have k := S0.sl j s' (by rw [List.getElem?_set_ne (Ne.symm e)]; exact hj)
        try dsimp only at k
        rw [if_neg e] at k
        try dsimp only
        rw [if_neg e]
        exact k
    · try dsimp only at h1 h2
      split at h1
      · rename_i e1
        split at h2
        · rename_i e2; exact hab (e1.trans e2.symm)
        · rename_i e2; exact g2 b e2 c h2 h1
      · rename_i e1
        split at h2
        · exact g2 a e1 c h1 h2
        · exact S.sep a b hab c h1 h2
    · try dsimp only at ha
      split at ha
      · exact g1 a ha
      · exact S.nf j a ha
    · try dsimp only at ha
      split at ha
      · exact r.at_ a ha
      · rename_i e
        have k := S0.hb j a
        try dsimp only at k
        rw [if_neg e] at k
        exact k ha
  rcases hs with ⟨k3, e⟩ | ⟨k3, e⟩
  · exact main _ e (.inl rfl)
  · obtain ⟨⟨p, q1, q2⟩, _⟩ := S.sl i _ k3
    rw [hw] at q2; cases q2
    exact main _ e (.inr ⟨rfl, p, q1, rfl⟩)
/-- an item of a list is put otherwise -/
theorem ROs.set : ∀ {vs : List V} {os : List Ow} {fp : List Addr} {j : Nat} {w : V} {o : Ow} {f : List Addr}, ROs K Hb H vs os fp → RO K Hb H w o f → Disj fp f → ∃ g, ROs K Hb H (vs.set j w) (os.set j o) g ∧ ∀ a ∈ g, a ∈ fp ∨ a ∈ f
  | [], [], _, j, w, o, f, .nil, r, d => ⟨[], .nil, fun _ h => (nomatch h)⟩
  | v :: vs, o0 :: os, _, 0, w, o, f, .cons (f1 := f1) (f2 := f2) r0 t dj, r, d => ⟨f ++ f2, .cons r t fun a h1 h2 => d a (List.mem_append_right _ h2) h1, fun a ha => (List.mem_append.mp ha).elim .inr fun h => .inl (List.mem_append_right _ h)⟩
  | v :: vs, o0 :: os, _, j + 1, w, o, f, .cons (f1 := f1) (f2 := f2) r0 t dj, r, d => by
    obtain ⟨g, h1, h2⟩ := ROs.set (j := j) t r fun a h1 h2 => d a (List.mem_append_right _ h1) h2
    exact ⟨f1 ++ g, .cons r0 h1 fun a h3 h4 => (h2 a h4).elim (fun h => dj a h3 h) fun h => d a (List.mem_append_left _ h3) h, fun a ha => (List.mem_append.mp ha).elim (fun h => .inl (List.mem_append_left _ h)) fun h => (h2 a h).elim (fun h => .inl (List.mem_append_right _ h)) .inr⟩
/-- an item, the others aside -/
theorem ROs.out : ∀ {vs : List V} {os : List Ow} {fp : List Addr} {j : Nat} {o : Ow}, ROs K Hb H vs os fp → os[j]? = some o → ∃ w f, vs[j]? = some w ∧ RO K Hb H w o f ∧ (∀ a ∈ f, a ∈ fp) ∧
    ∀ (Hb2 H2 : Hp) (w' : V) (o' : Ow) (f' : List Addr), Same Hb Hb2 → (∀ a ∈ fp, a ∉ f → H2 a = H a ∧ Hb2 a = none) → RO K Hb2 H2 w' o' f' → (∀ a ∈ f', a ∈ fp → a ∈ f) → ∃ g, ROs K Hb2 H2 (vs.set j w') (os.set j o') g ∧ ∀ a ∈ g, a ∈ fp ∨ a ∈ f'
  | [], [], _, j, o, .nil, h => by simp at h
  | v :: vs, o0 :: os, _, 0, o, .cons (f1 := f1) (f2 := f2) r0 t dj, h => by
    cases h
    refine ⟨v, f1, rfl, r0, fun a h => List.mem_append_left _ h, fun Hb2 H2 w' o' f' e k r hn => ?_⟩
    have t' := ROs.mono e _ _ _ (fun a ha => k a (List.mem_append_right _ ha) fun q => dj a q ha) t
    exact ⟨f' ++ f2, .cons r t' fun a h1 h2 => dj a (hn a h1 (List.mem_append_right _ h2)) h2, fun a ha => (List.mem_append.mp ha).elim .inr fun h => .inl (List.mem_append_right _ h)⟩
  | v :: vs, o0 :: os, _, j + 1, o, .cons (f1 := f1) (f2 := f2) r0 t dj, h => by
    obtain ⟨w, f, h1, h2, h3, h4⟩ := ROs.out (j := j) t (by simpa using h)
    refine ⟨w, f, by simpa using h1, h2, fun a ha => List.mem_append_right _ (h3 a ha), fun Hb2 H2 w' o' f' e k r hn => ?_⟩
    obtain ⟨g, g1, g2⟩ := h4 Hb2 H2 w' o' f' e (fun a ha hf => k a (List.mem_append_right _ ha) hf) r fun a ha hp => hn a ha (List.mem_append_right _ hp)
    have r0' := RO.mono e _ _ _ (fun a ha => k a (List.mem_append_left _ ha) fun q => dj a ha (h3 a q)) r0
    refine ⟨f1 ++ g, .cons r0' g1 fun a h5 h6 => ?_, fun a ha => (List.mem_append.mp ha).elim (fun h => .inl (List.mem_append_left _ h)) fun h => (g2 a h).elim (fun h => .inl (List.mem_append_right _ h)) .inr⟩
    rcases g2 a h6 with h6 | h6
    · exact dj a h5 h6
    · exact dj a h5 (h3 a (hn a h6 (List.mem_append_left _ h5)))
/-- .. frozen -/
theorem frz_ok (S : StR K all1 bp Z fpf Hb H σ ρ) (r : RVl K Z fpf Hb H v x fp) : ∃ Hb' fp', Same Hb Hb' ∧ StR K all1 bp Z fpf Hb' H σ ρ ∧ RVl K Z fpf Hb' H v x.frz fp' := by
  cases x with
  | ow o =>
    obtain ⟨Hb', e, S', q⟩ := Giv.frz S r
    exact ⟨Hb', [], e, S', .d q⟩
  | bw o => exact ⟨Hb, fp, fun _ _ e => e, S, r⟩
theorem putT_ok {t : Tg} {Q : L2.St → Hp → Prop} (S : StR K all1 bp Z fpf Hb H σ ρ) (r : RVl K Z fpf Hb H v x fp) (h : putT ρ t x = some ρ') (q : ∀ σ' fpf', StR K all1 bp Z fpf' Hb H σ' ρ' → Q σ' H) : tgR K t v σ H Q := by
  unfold putT at h
  split at h
  · exact q _ _ (putC_ok S r h).1
  · obtain ⟨l, _⟩ := rp_d r
    cases l with
    | tup h1 h2 =>
      have s := Src.data (H := H) (F := Z.F) h2
      obtain ⟨g, e⟩ := putAll_ok S s.len s.at_ h q
      exact .inl ⟨_, _, rfl, same_t S.ex h1, by rw [s.len]; exact e.symm, g⟩
  · obtain ⟨l, _⟩ := rp_d r
    cases l with
    | lst h1 h2 =>
      have s := Src.data (H := H) (F := Z.F) h2
      obtain ⟨g, e⟩ := putAll_ok S s.len s.at_ h q
      exact .inr ⟨_, _, rfl, SqL.of (S.ex _ _ h1), by rw [s.len]; exact e.symm, g⟩
  · cases h
theorem putI_ok {t : Tg} {it : Itm} {H2 H3 : Hp} {Q : L2.St → Hp → Prop} (S : StR K all1 bp Z fpf Hb H2 σ ρ) (r : ItmR K Z.F Hb H2 H2 v H3 it) (h : putI ρ t it = some ρ')
    (q : ∀ σ' fpf', StR K all1 bp Z fpf' Hb H3 σ' ρ' → Q σ' H3) : tgR K t v σ H3 Q := by
  unfold putI at h
  split at h
  · obtain ⟨rfl, l⟩ := r
    exact q _ _ (putC_ok S (lent_rvl l) h).1
  · obtain ⟨rfl, l⟩ := r
    have l : Rp K Hb v (.tup _) := l
    cases l with
    | tup h1 h2 =>
      have s := Src.data (H := H3) (F := Z.F) h2
      obtain ⟨g, e⟩ := putAll_ok S s.len s.at_ h q
      exact .inl ⟨_, _, rfl, same_t S.ex h1, by rw [s.len]; exact e.symm, g⟩
  · obtain ⟨rfl, l⟩ := r
    have l : Rp K Hb v (.lst _) := l
    cases l with
    | lst h1 h2 =>
      have s := Src.data (H := H3) (F := Z.F) h2
      obtain ⟨g, e⟩ := putAll_ok S s.len s.at_ h q
      exact .inr ⟨_, _, rfl, SqL.of (S.ex _ _ h1), by rw [s.len]; exact e.symm, g⟩
  · obtain ⟨T, x1, x2, y1, y2, rfl, rfl, hT, rfl, l1, l2⟩ := r
    have S' := S.new (o := .tup [y1, y2]) hT
    have lm : ∀ {w : V} {x : Vl}, Lent K Z.F Hb H2 w x → Lent K Z.F Hb (upd H2 T (.tup [y1, y2])) w x := fun l => l.mono (fun _ _ e => e) fun a ha => ⟨upd_ne fun e => (S.fr a (.inl ha)).2.2 (by rw [e]; exact hT), (S.fr a (.inl ha)).2.1⟩
    obtain ⟨g, e⟩ := putAll_ok (vs := [y1, y2]) S' rfl (fun i w x g1 g2 => by
      match i with
      | 0 => cases g1; cases g2; exact lm l1
      | 1 => cases g1; cases g2; exact lm l2
      | _ + 2 => simp at g1) h q
    exact .inl ⟨T, [y1, y2], rfl, SqT.of upd_same, by rw [e]; rfl, g⟩
  · cases h
/-- a slot's list, to be frozen -/
theorem frzS_ok {i : Nat} {o : Ow} (S : StR K all1 bp Z fpf Hb H σ ρ) (h : ρ[i]? = some (.val o)) : ∃ Hb' fpf', Same Hb Hb' ∧ StR K all1 bp Z fpf' Hb' H σ (ρ.set i (.val (.d o.toD))) := by
  obtain ⟨w, h1, h2⟩ := (show ∃ v, σ[i]? = some (some v) ∧ RO K Hb H v o (fpf i) from S.sl i _ h)
  have S0 := S.dropS i
  have r : RVl K Z (fun j => if j = i then [] else fpf j) Hb H w (.ow o) (fpf i) := ⟨h2, S.nf i, fun j a ha hb => by
    try dsimp only at ha
    split at ha
    · cases ha
    · rename_i e; exact S.sep j i e a ha hb⟩
  obtain ⟨Hb', fp', e, S1, r1⟩ := frz_ok S0 r
  have hl : i < ρ.length := (List.getElem?_eq_some_iff.mp h).1
  obtain ⟨S2, _⟩ := putC_ok (i := i) (ρ' := ρ.set i (.val (.d o.toD))) S1 r1 (by
    unfold putC
    rw [List.getElem?_set_self hl]
    simp [slOf, Vl.frz, dv])
  have es : σ.set i (some w) = σ := by
    refine List.ext_getElem? fun j => ?_
    by_cases e : j = i
    · subst e; rw [List.getElem?_set_self (by rw [← S.len]; exact hl), h1]
    · rw [List.getElem?_set_ne (Ne.symm e)]
  rw [es] at S2
  exact ⟨Hb', _, e, S2⟩
end
end WM

/-! WM: readings of statements; each kind of statement. -/
namespace WM
open PySem PySem.Spec PyProof.Rows L2
section
variable (K : PySem.W.Frag) (bp : List (Nat × Addr)) (W : WX) (cls : Nat → Value)
def PstS (Z : Fz) (Hb : Hp) (r : RS) (D : Ends) : Prop :=
  match r with
  | .nx ρ' => ∀ Hb' H' σ' fpf', Same Hb Hb' → StR K all1 bp Z fpf' Hb' H' σ' ρ' → D.nx σ' H'
  | .rt o ρ' => ∀ Hb' H' σ' fpf' v fp, Same Hb Hb' → StR K all1 bp Z fpf' Hb' H' σ' ρ' → RVl K Z fpf' Hb' H' v (.ow o) fp → D.rt v H'
  | .exc c ρ' => ∀ Hb' H' σ' fpf', Same Hb Hb' → StR K all1 bp Z fpf' Hb' H' σ' ρ' → W (cls c) none σ' H'
  | .bad => False
def tS (f : Env → RS) : TS := fun D σ H => ∃ Z fpf Hb ρ, StR K all1 bp Z fpf Hb H σ ρ ∧ PstS K bp W cls Z Hb (f ρ) D
end
section
variable {K : PySem.W.Frag} {M : Nat → Bool} {bp : List (Nat × Addr)} {W : WX} {cls : Nat → Value} {Z : Fz} {fpf fpf' : Nat → List Addr} {Hb Hb' H H' : Hp} {σ σ' : L2.St} {ρ ρ' : Env} {v u : V} {x y z : Vl} {fp fp1 fp2 : List Addr} {α β : Type} {D D' : Ends}
theorem PstS.mono {r : RS} (h : PstS K bp W cls Z Hb r D) (e : Same Hb Hb') : PstS K bp W cls Z Hb' r D := by
  cases r with
  | nx ρ => exact fun Hb2 H2 σ2 f2 e2 S => h Hb2 H2 σ2 f2 (e.trans e2) S
  | rt o ρ => exact fun Hb2 H2 σ2 f2 v fp e2 S r => h Hb2 H2 σ2 f2 v fp (e.trans e2) S r
  | exc c ρ => exact fun Hb2 H2 σ2 f2 e2 S => h Hb2 H2 σ2 f2 (e.trans e2) S
  | bad => exact h
theorem PstS.ends {r : RS} (h : PstS K bp W cls Z Hb r D) (e1 : D'.nx = D.nx) (e2 : D'.rt = D.rt) : PstS K bp W cls Z Hb r D' := by
  cases r with
  | nx ρ => show ∀ Hb' H' σ' fpf', _ → _ → D'.nx σ' H'; rw [e1]; exact h
  | rt o ρ => show ∀ Hb' H' σ' fpf' v fp, _ → _ → _ → D'.rt v H'; rw [e2]; exact h
  | exc c ρ => exact h
  | bad => exact h
theorem Pst.thn {r : R α} {k : α → Env → RS} (h : PstS K bp W cls Z Hb (r.thn k) D) : Pst K all1 bp W cls Z Hb σ r fun a fpf' Hb' H' => ∀ ρ', r = .ok a ρ' → StR K all1 bp Z fpf' Hb' H' σ ρ' → PstS K bp W cls Z Hb' (k a ρ') D := by
  cases r with
  | ok a ρ => intro Hb2 H2 f2 e2 S ρ' e S'; cases e; exact PstS.mono h e2
  | exc c ρ => exact fun Hb2 H2 f2 e2 S => h Hb2 H2 σ f2 e2 S
  | bad => exact h
theorem PstS.thn {r : RS} {k : Env → RS} {N : L2.St → Hp → Prop} (h : PstS K bp W cls Z Hb (r.thn k) D) (hn : ∀ ρ' Hb' H' σ' fpf', Same Hb Hb' → StR K all1 bp Z fpf' Hb' H' σ' ρ' → PstS K bp W cls Z Hb' (k ρ') D → N σ' H') {b c : L2.St → Hp → Prop} : PstS K bp W cls Z Hb r { D with nx := N, bk := b, ct := c } := by
  cases r with
  | nx ρ => exact fun Hb2 H2 σ2 f2 e2 S => hn ρ Hb2 H2 σ2 f2 e2 S (PstS.mono h e2)
  | rt o ρ => exact h
  | exc c ρ => exact h
  | bad => exact h
theorem tS_seq {f g : Env → RS} (σ : L2.St) (H : Hp) (h : tS K bp W cls (fun ρ => (f ρ).thn g) D σ H) : tSeq (tS K bp W cls f) (tS K bp W cls g) D σ H := by
  obtain ⟨Z, fpf, Hb, ρ, S, q⟩ := h
  exact ⟨Z, fpf, Hb, ρ, S, q.thn fun ρ' Hb' H' σ' fpf' e S' k => ⟨Z, fpf', Hb', ρ', S', k⟩⟩
theorem weakS {X : Cx} {st : Stmt} {t t' : TS} (h : PS X st t) (w : ∀ D σ H, t' D σ H → t D σ H) : PS X st t' := ⟨fun pins s σ H D I q => h.run pins s σ H D I (w D σ H q)⟩
theorem weakSs {X : Cx} {st : List Stmt} {t t' : TS} (h : PSs X st t) (w : ∀ D σ H, t' D σ H → t D σ H) : PSs X st t' := ⟨fun pins s σ H D I q => h.run pins s σ H D I (w D σ H q)⟩
theorem set_t {C : CallS} {gv : Nat → Option WM.D} {ms : List Nat} {fz : Bool} {t : Tg} {e : IE} (h : tS K bp W cls (ex C gv (.set ms fz t e)) D σ H) : tAsg (tE K (Mof ms) bp W cls (ev C gv (Mof ms) e)) (tgR K t) D σ H := by
  obtain ⟨Z, fpf, Hb, ρ, S, q⟩ := h
  simp only [ex] at q
  refine evX_ok S ((Pst.thn q).imp fun x ρ1 fpf1 Hb1 H1 er e1 S1 q v fp r => ?_)
  have q2 := q ρ1 er S1
  clear q
  split at q2
  · rename_i ρ2 hp
    cases fz with
    | true =>
      obtain ⟨Hb2, fp2, e2, S2, r2⟩ := frz_ok S1 r
      exact putT_ok S2 r2 hp fun σ' fpf' S' => q2 Hb2 H1 σ' fpf' e2 S'
    | false => exact putT_ok S1 r hp fun σ' fpf' S' => q2 Hb1 H1 σ' fpf' (fun _ _ e => e) S'
  · exact q2.elim
theorem par_t {C : CallS} {gv : Nat → Option WM.D} {ms : List Nat} {i j : Nat} {a b : IE} (h : tS K bp W cls (ex C gv (.par ms i j a b)) D σ H) : tPar i j (tCons (tE K (Mof ms) bp W cls (ev C gv (Mof ms) a)) (tCons (tE K (Mof ms) bp W cls (ev C gv (Mof ms) b)) tNil)) D σ H := by
  obtain ⟨Z, fpf, Hb, ρ, S, q⟩ := h
  simp only [ex] at q
  refine ev2_ok (Q := fun vs H1 => ∃ v w, vs = [v, w] ∧ D.nx ((σ.set i (some v)).set j (some w)) H1) S ((Pst.thn q).imp fun x ρ1 fpf1 Hb1 H1 er e1 S1 q v u f1 f2 r1 r2 dj => ⟨v, u, rfl, ?_⟩)
  have q := q ρ1 er S1
  split at q
  · rename_i ρ2 hp
    split at q
    · exact q.elim
    · obtain ⟨ρ3, h1, h2⟩ := Option.bind_eq_some_iff.mp (show (putC ρ1 i x.1).bind (fun ρ' => putAll ρ' [j] [x.2]) = some ρ2 from hp)
      obtain ⟨ρ4, h3, h4⟩ := Option.bind_eq_some_iff.mp (show (putC ρ3 j x.2).bind (fun ρ' => putAll ρ' [] []) = some ρ2 from h2)
      cases h4
      obtain ⟨S2, _⟩ := putC_ok S1 r1 h1
      have r2' : RVl K Z (fun k => if k = i then f1 else fpf1 k) Hb1 H1 u x.2 f2 := by
        cases hx : x.2 with
        | ow o =>
          rw [hx] at r2
          refine ⟨r2.1, r2.2.1, fun k a ha hb => ?_⟩
          try dsimp only at ha
          split at ha
          · exact dj a ha hb
          · exact r2.2.2 k a ha hb
        | bw o => rw [hx] at r2; exact r2
      obtain ⟨S3, _⟩ := putC_ok S2 r2' h3
      exact q Hb1 H1 _ _ (fun _ _ e => e) S3
  · exact q.elim
theorem held {ms : List Nat} {e : IE} {C : CallS} {gv : Nat → Option WM.D} {k : Vl → Env → RS} {Q : VK} (S : StR K all1 bp Z fpf Hb H σ ρ) (r : RVl K Z fpf Hb H v x fp) (h : PstS K bp W cls Z Hb ((evX C gv ms e ρ).thn k) D)
    (hq : ∀ y ρ1 fpf1 Hb1 H1 u fp1, Same Hb Hb1 → StR K all1 bp Z fpf1 Hb1 H1 σ ρ1 → RVl K Z fpf1 Hb1 H1 v x fp → RVl K Z fpf1 Hb1 H1 u y fp1 → Disj fp fp1 → PstS K bp W cls Z Hb1 (k y ρ1) D → Q u H1) : tE K (Mof ms) bp W cls (ev C gv (Mof ms) e) σ H Q := by
  have h1 := (Pst.thn (σ := σ) h).more (fp := fp) S
  refine evX_ok (S.hold r) (h1.imp fun y ρ1 fpf1 Hb1 H1 er e1 S1 q u fp1 ru => ?_)
  have S1' := S1.letgo fun a ha => (S.fr a ha).1
  obtain ⟨ru', dj⟩ := ru.drop
  exact hq y ρ1 fpf1 Hb1 H1 u fp1 e1 S1' (r.kept S e1 S1) ru' dj (q ρ1 S1 er ρ1 er S1')
theorem vInt_some {i : Int} (h : vInt x = some i) (r : RVl K Z fpf Hb H v x fp) : v = .int i := by
  unfold vInt at h
  split at h
  · cases h; exact rp_int r
  · cases h
theorem own_is {i : Nat} (h : ¬ (ownL ρ i).isNone = true) : ∃ os, ownL ρ i = some os := by
  cases e : ownL ρ i with
  | none => rw [e] at h; exact absurd rfl h
  | some os => exact ⟨os, rfl⟩
theorem set1_t {C : CallS} {gv : Nat → Option WM.D} {ms : List Nat} {i : Nat} {ix e : IE} (h : tS K bp W cls (ex C gv (.set1 ms i ix e)) D σ H) : tAsg (tE K (Mof ms) bp W cls (ev C gv (Mof ms) e)) (gSub (tVar i) (tE K (Mof ms) bp W cls (ev C gv (Mof ms) ix)) rSetL) D σ H := by
  obtain ⟨Z, fpf, Hb, ρ, S, q⟩ := h
  simp only [ex] at q
  split at q
  · exact q.elim
  rename_i hown
  obtain ⟨os0, hos⟩ := own_is hown
  obtain ⟨w, hw, _⟩ := ownL_some S hos
  refine evX_ok S ((Pst.thn q).imp fun x ρ1 fpf1 Hb1 H1 er e1 S1 q v fp r => ?_)
  have q := q ρ1 er S1
  have key : ∀ w, (∀ w', σ[i]? = some (some w') → w' = w) → tE K (Mof ms) bp W cls (ev C gv (Mof ms) ix) σ H1 fun u H2 => rSetL w u v H2 fun H3 => D.nx σ H3 := by
    intro w hw
    refine held S1 r q fun y ρ2 fpf2 Hb2 H2 u fp2 e2 S2 r2 ru dj q => ?_
    split at q
    · rename_i o k os h1 h2 h3
      split at q
      · rename_i j hj
        split at q
        · rename_i ρ3 hb
          obtain ⟨w', g1, g2, g3⟩ := ownL_some S2 h3
          have := hw w' g1
          subst this
          obtain ⟨p, vs, f, rfl, hp, hs, hf, hpf, hn⟩ := g2.sub
          have hv := vInt_some h2 ru
          subst hv
          have r2o := own_rvl r2 h1
          refine ⟨p, vs, k, j, rfl, rfl, hp, by rw [hs.length]; exact hj, ?_⟩
          have pin : p ∈ fpf2 i := by rw [hf]; exact List.mem_cons_self
          have hs' : ROs K Hb2 (upd H2 p (.lst (vs.set j v))) vs os f := ROs.mono (fun _ _ e => e) _ _ _ (fun a ha => ⟨upd_ne fun e => hpf (e ▸ ha), (hs.at_ a ha).1⟩) hs
          have ro' : RO K Hb2 (upd H2 p (.lst (vs.set j v))) v o fp := RO.mono (fun _ _ e => e) _ _ _ (fun a ha => ⟨upd_ne fun e => r2o.2.2 i p pin (e ▸ ha), (r2o.1.at_ a ha).1⟩) r2o.1
          obtain ⟨g, k1, k2⟩ := ROs.set (j := j) hs' ro' fun a h1 h2 => r2o.2.2 i a (by rw [hf]; exact List.mem_cons_of_mem _ h1) h2
          have rr : RO K Hb2 (upd H2 p (.lst (vs.set j v))) (.ref p) (.l (os.set j o)) (p :: g) := .l hn upd_same k1 fun hm => (k2 p hm).elim hpf fun h => r2o.2.2 i p pin h
          have S3 := own_mut S2 h3 hb g1 pin rr (fun a ha => ?_) fun j' hj' a ha hb => ?_
          · exact q Hb2 _ σ _ (fun _ _ e => e) S3
          · rcases List.mem_cons.mp ha with rfl | ha
            · exact S2.nf i _ pin
            · exact (k2 a ha).elim (fun h => S2.nf i a (by rw [hf]; exact List.mem_cons_of_mem _ h)) (r2o.2.1 a)
          · rcases List.mem_cons.mp hb with rfl | hb
            · exact S2.sep j' i hj' _ ha pin
            · exact (k2 a hb).elim (fun h => S2.sep j' i hj' a ha (by rw [hf]; exact List.mem_cons_of_mem _ h)) (r2o.2.2 j' a ha)
        · exact q.elim
      · exact q.elim
    · exact q.elim
  exact ⟨w, hw, key w fun w' h => by rw [hw] at h; cases h; rfl⟩
theorem atI_ixN {α : Type} {xs : List α} {n : Nat} {i : Int} {j : Nat} {x : α} (hl : xs.length = n) (h : ixN n i = some j) (hx : xs[j]? = some x) : atI xs i = some x := by
  unfold atI
  rw [hl, h]; exact hx
theorem iAt_some {l : Nat} {b : Int} (S : StR K all1 bp Z fpf Hb H σ ρ) (h : iAt ρ l = some b) : σ[l]? = some (some (.int b)) := by
  unfold iAt at h
  split at h
  · rename_i b' h0
    cases h
    obtain ⟨w, h1, h2⟩ := (show ∃ v, σ[l]? = some (some v) ∧ RO K Hb H v (.d (.int b)) (fpf l) from S.sl l _ h0)
    have := ro_d' h2
    cases this
    exact h1
  · cases h
theorem set2_t {C : CallS} {gv : Nat → Option WM.D} {ms : List Nat} {i l : Nat} {ix e : IE} (h : tS K bp W cls (ex C gv (.set2 ms i ix l e)) D σ H) : tAsg (tE K (Mof ms) bp W cls (ev C gv (Mof ms) e)) (gSub (tOp (rIxL K) (tVar i) (tE K (Mof ms) bp W cls (ev C gv (Mof ms) ix))) (tVar l) rSetL) D σ H := by
  obtain ⟨Z, fpf, Hb, ρ, S, q⟩ := h
  simp only [ex] at q
  split at q
  · exact q.elim
  rename_i hown
  obtain ⟨os0, hos⟩ := own_is hown
  obtain ⟨w, hw, _⟩ := ownL_some S hos
  refine evX_ok S ((Pst.thn q).imp fun x ρ1 fpf1 Hb1 H1 er e1 S1 q v fp r => ?_)
  have q := q ρ1 er S1
  have key : ∀ w, (∀ w', σ[i]? = some (some w') → w' = w) → tE K (Mof ms) bp W cls (ev C gv (Mof ms) ix) σ H1 fun u H2 => rIxL K w u H2 fun o H3 => ∃ z, σ[l]? = some (some z) ∧ rSetL o z v H3 fun H4 => D.nx σ H4 := by
    intro w hw
    refine held S1 r q fun y ρ2 fpf2 Hb2 H2 u fp2 e2 S2 r2 ru dj q => ?_
    split at q
    · rename_i o a b os h1 h2 h3 h4
      split at q
      · rename_i ρ3 hb
        unfold set2O at hb
        obtain ⟨a', ha', hb⟩ := Option.bind_eq_some_iff.mp hb
        obtain ⟨ps, hps, hb⟩ := Option.bind_eq_some_iff.mp hb
        obtain ⟨b', hb', hb⟩ := Option.bind_eq_some_iff.mp hb
        obtain ⟨w', g1, g2, g3⟩ := ownL_some S2 h4
        have := hw w' g1
        subst this
        obtain ⟨p, vs, f, rfl, hp, hs, hf, hpf, hn⟩ := g2.sub
        have hv := vInt_some h2 ru
        subst hv
        have r2o := own_rvl r2 h1
        have hoa : os[a']? = some (.l ps) := by
          unfold subL at hps
          split at hps
          · rename_i ps' h0; cases hps; exact h0
          · cases hps
        obtain ⟨w2, f2, k1, k2, k3, k4⟩ := ROs.out hs hoa
        obtain ⟨q2, vs2, f3, rfl, hp2, hs2, hf2, hpf2, hn2⟩ := k2.sub
        have q2f : q2 ∈ f := k3 q2 (by rw [hf2]; exact List.mem_cons_self)
        have q2i : q2 ∈ fpf2 i := by rw [hf]; exact List.mem_cons_of_mem _ q2f
        have f3i : ∀ c ∈ f3, c ∈ fpf2 i := fun c hc => by rw [hf]; exact List.mem_cons_of_mem _ (k3 c (by rw [hf2]; exact List.mem_cons_of_mem _ hc))
        refine ⟨p, vs, a, .ref q2, rfl, rfl, SqL.of hp, atI_ixN hs.length ha' k1, .int b, iAt_some S2 h3, ?_⟩
        refine ⟨q2, vs2, b, b', rfl, rfl, hp2, by rw [hs2.length]; exact hb', ?_⟩
        have hs' : ROs K Hb2 (upd H2 q2 (.lst (vs2.set b' v))) vs2 ps f3 := ROs.mono (fun _ _ e => e) _ _ _ (fun a ha => ⟨upd_ne fun e => hpf2 (e ▸ ha), (hs2.at_ a ha).1⟩) hs2
        have ro' : RO K Hb2 (upd H2 q2 (.lst (vs2.set b' v))) v o fp := RO.mono (fun _ _ e => e) _ _ _ (fun a ha => ⟨upd_ne fun e => r2o.2.2 i q2 q2i (e ▸ ha), (r2o.1.at_ a ha).1⟩) r2o.1
        obtain ⟨g, m1, m2⟩ := ROs.set (j := b') hs' ro' fun a h1 h2 => r2o.2.2 i a (f3i a h1) h2
        have rr2 : RO K Hb2 (upd H2 q2 (.lst (vs2.set b' v))) (.ref q2) (.l (ps.set b' o)) (q2 :: g) := .l hn2 upd_same m1 fun hm => (m2 q2 hm).elim hpf2 fun h => r2o.2.2 i q2 q2i h
        obtain ⟨g', n1, n2⟩ := k4 Hb2 (upd H2 q2 (.lst (vs2.set b' v))) (.ref q2) (.l (ps.set b' o)) (q2 :: g) (fun _ _ e => e) (fun a ha hf' => ⟨upd_ne fun e => hf' (by rw [hf2, e]; exact List.mem_cons_self), (hs.at_ a ha).1⟩) rr2 (fun a ha haf => by
          rw [hf2]
          rcases List.mem_cons.mp ha with rfl | ha
          · exact List.mem_cons_self
          · exact (m2 a ha).elim (List.mem_cons_of_mem _) fun h => (r2o.2.2 i a (by rw [hf]; exact List.mem_cons_of_mem _ haf) h).elim)
        have ev : vs.set a' (.ref q2) = vs := by
          refine List.ext_getElem? fun j => ?_
          by_cases e : j = a'
          · subst e; rw [List.getElem?_set_self (List.getElem?_eq_some_iff.mp k1).1, k1]
          · rw [List.getElem?_set_ne (Ne.symm e)]
        rw [ev] at n1
        have pq : p ≠ q2 := fun e => hpf (e ▸ q2f)
        have cov : ∀ a ∈ g', (a ∈ fpf2 i) ∨ a ∈ fp := fun a ha => by
          rcases n2 a ha with h | h
          · exact .inl (by rw [hf]; exact List.mem_cons_of_mem _ h)
          · rcases List.mem_cons.mp h with rfl | h
            · exact .inl q2i
            · exact (m2 a h).imp (f3i a) id
        have pin : p ∈ fpf2 i := by rw [hf]; exact List.mem_cons_self
        have rr : RO K Hb2 (upd H2 q2 (.lst (vs2.set b' v))) (.ref p) (.l (os.set a' (.l (ps.set b' o)))) (p :: g') := .l hn (by rw [upd_ne pq]; exact hp) n1 fun hm => by
          rcases n2 p hm with h | h
          · exact hpf h
          · rcases List.mem_cons.mp h with h | h
            · exact pq h
            · exact (m2 p h).elim (fun h => hpf (k3 p (by rw [hf2]; exact List.mem_cons_of_mem _ h))) fun h => r2o.2.2 i p pin h
        have S3 := own_mut S2 h4 hb g1 q2i rr (fun a ha => ?_) fun j' hj' a ha hb => ?_
        · exact q Hb2 _ σ _ (fun _ _ e => e) S3
        · rcases List.mem_cons.mp ha with rfl | ha
          · exact S2.nf i _ pin
          · exact (cov a ha).elim (S2.nf i a) (r2o.2.1 a)
        · rcases List.mem_cons.mp hb with rfl | hb
          · exact S2.sep j' i hj' _ ha pin
          · exact (cov a hb).elim (S2.sep j' i hj' a ha) (r2o.2.2 j' a ha)
      · exact q.elim
    · exact q.elim
  exact ⟨w, hw, key w fun w' h => by rw [hw] at h; cases h; rfl⟩
theorem tyL {p : Addr} {vs : List V} (h : H p = some (.lst vs)) : tyV K "list" (.ref p) H := .inl ⟨rfl, vs, SqL.of h⟩
/-! dicts -/
theorem kvsOf_len : ∀ {ks : List (Int × Int)} {vs : List V}, ks.length = vs.length → (kvsOf ks vs).length = ks.length
  | [], _, _ => by simp [kvsOf]
  | _ :: _, [], h => by simp at h
  | _ :: ks, _ :: vs, h => by simp [kvsOf, kvsOf_len (ks := ks) (vs := vs) (by simpa using h)]
theorem setK_len (a b : Int) (x : WM.D) : ∀ (ks : List (Int × Int)) (ds : List WM.D), ks.length = ds.length → (setK ks ds a b x).length = ds.length
  | [], [], _ => rfl
  | [], _ :: _, h => by simp at h
  | _ :: _, [], h => by simp at h
  | _ :: ks, _ :: ds, h => by simp [setK, setK_len a b x ks ds (by simpa using h)]
theorem put_old (a b : Int) {x : WM.D} (hx : Rp K Hb v x) : ∀ (ks : List (Int × Int)) (vs : List V) (ds : List WM.D), ks.length = ds.length → RpL K Hb vs ds →
    ∃ vs', ((kvsOf ks vs).map fun kv => if kv.1 = [Sum.inl a, Sum.inl b] then (kv.1, v) else kv) = kvsOf ks vs' ∧ RpL K Hb vs' (setK ks ds a b x)
  | [], _, [], _, h => by cases h; exact ⟨[], rfl, .nil⟩
  | [], _, _ :: _, h, _ => by simp at h
  | _ :: _, _, [], h, _ => by simp at h
  | k :: ks, _, d :: ds, hl, h => by
    cases h with
    | @cons w vs _ _ h1 h2 =>
      obtain ⟨vs', e1, e2⟩ := put_old a b hx ks vs ds (by simpa using hl) h2
      by_cases c : k.1 = a ∧ k.2 = b
      · refine ⟨v :: vs', ?_, by simp only [setK, if_pos c]; exact .cons hx e2⟩
        show ((if ([Sum.inl k.1, Sum.inl k.2] : List Key) = _ then _ else _) :: _) = _
        rw [e1, if_pos (by rw [c.1, c.2])]; rfl
      · refine ⟨w :: vs', ?_, by simp only [setK, if_neg c]; exact .cons h1 e2⟩
        show ((if ([Sum.inl k.1, Sum.inl k.2] : List Key) = _ then _ else _) :: _) = _
        rw [e1, if_neg (fun e => c (by simpa using e))]; rfl
theorem kvsOf_snoc (a b : Int) : ∀ (ks : List (Int × Int)) (vs : List V), ks.length = vs.length → kvsOf ks vs ++ [([Sum.inl a, Sum.inl b], v)] = kvsOf (ks ++ [(a, b)]) (vs ++ [v])
  | [], [], _ => rfl
  | [], _ :: _, h => by simp at h
  | _ :: _, [], h => by simp at h
  | k :: ks, w :: vs, h => by
    show _ :: (kvsOf ks vs ++ _) = _
    rw [kvsOf_snoc a b ks vs (by simpa using h)]; rfl
theorem ownM_some {i : Nat} {m : List (Int × Int) × List WM.D} (S : StR K all1 bp Z fpf Hb H σ ρ) (h : ownM ρ i = some m) : ∃ p vs, σ[i]? = some (some (.ref p)) ∧ fpf i = [p] ∧ Hb p = none ∧ H p = some (.dT (kvsOf m.1 vs)) ∧ m.1.length = m.2.length ∧ RpL K Hb vs m.2 ∧
    ∀ ks' ds' ρ', backM ρ i ks' ds' = some ρ' → (ρ[i]? = some (.val (.m m.1 m.2)) ∧ ρ' = ρ.set i (.val (.m ks' ds'))) ∨ (ρ[i]? = some (.ref (.m m.1 m.2)) ∧ ρ' = ρ.set i (.ref (.m ks' ds'))) := by
  have main : ∀ w, σ[i]? = some (some w) → RO K Hb H w (.m m.1 m.2) (fpf i) → ∃ p vs, σ[i]? = some (some (.ref p)) ∧ fpf i = [p] ∧ Hb p = none ∧ H p = some (.dT (kvsOf m.1 vs)) ∧ m.1.length = m.2.length ∧ RpL K Hb vs m.2 := fun w h1 h2 => by
    generalize hf : fpf i = f at h2
    cases h2 with
    | m k1 k2 k3 k4 => exact ⟨_, _, h1, rfl, k1, k2, k3, k4⟩
  unfold ownM at h
  split at h
  · rename_i ks ds h0
    cases h
    obtain ⟨w, h1, h2⟩ := (show ∃ v, σ[i]? = some (some v) ∧ RO K Hb H v (.m ks ds) (fpf i) from S.sl i _ h0)
    obtain ⟨p, vs, a1, a2, a3, a4, a5, a6⟩ := main w h1 h2
    refine ⟨p, vs, a1, a2, a3, a4, a5, a6, fun ks' ds' ρ' hb => .inl ⟨h0, ?_⟩⟩
    unfold backM at hb
    rw [h0] at hb; cases hb; rfl
  · rename_i ks ds h0
    cases h
    obtain ⟨w, h1, h2⟩ := (show ∃ v, σ[i]? = some (some v) ∧ RO K Hb H v (.m ks ds) (fpf i) from (S.sl i _ h0).2)
    obtain ⟨p, vs, a1, a2, a3, a4, a5, a6⟩ := main w h1 h2
    refine ⟨p, vs, a1, a2, a3, a4, a5, a6, fun ks' ds' ρ' hb => .inr ⟨h0, ?_⟩⟩
    unfold backM at hb
    rw [h0] at hb; cases hb; rfl
  · cases h
theorem kAt_some {j : Nat} {k : Int × Int} (S : StR K all1 bp Z fpf Hb H σ ρ) (h : kAt ρ j = some k) : ∃ p, σ[j]? = some (some (.ref p)) ∧ SqT K H p (([Sum.inl k.1, Sum.inl k.2] : List Key).map kV) := by
  unfold kAt at h
  split at h
  · rename_i a b h0
    cases h
    obtain ⟨w, h1, h2⟩ := (show ∃ v, σ[j]? = some (some v) ∧ RO K Hb H v (.d (.tup [.int a, .int b])) (fpf j) from S.sl j _ h0)
    obtain ⟨p, rfl, h3⟩ := key_at (u := w) (y := dv (.tup [.int a, .int b])) (fp := []) S (.d (ro_d' h2)) rfl
    exact ⟨p, h1, h3⟩
  · cases h
theorem small_lt' {n : Nat} (h : small n = true) : n < sizeLine := small_lt h
theorem dset_t {C : CallS} {gv : Nat → Option WM.D} {ms : List Nat} {i j : Nat} {e : IE} (h : tS K bp W cls (ex C gv (.dset ms i j e)) D σ H) : sDP K (tVar i) (tVar j) (tE K (Mof ms) bp W cls (ev C gv (Mof ms) e)) D σ H := by
  obtain ⟨Z, fpf, Hb, ρ, S, q⟩ := h
  simp only [ex] at q
  refine evX_ok S ((Pst.thn q).imp fun x ρ1 fpf1 Hb1 H1 er e1 S1 q v fp r => ?_)
  have q2 := q ρ1 er S1
  clear q
  split at q2
  · rename_i ρ2 hd
    unfold dsetO at hd
    split at hd
    · rename_i d k m h1 h2
      split at hd
      · rename_i hc
        rw [Bool.and_eq_true] at hc
        obtain ⟨p, vs, a1, a2, a3, a4, a5, a6, a7⟩ := ownM_some S1 h2
        obtain ⟨kp, b1, b2⟩ := kAt_some S1 h1
        obtain ⟨rd, _⟩ := rp_d r
        obtain ⟨vs', c1, c2⟩ := put_old k.1 k.2 rd m.1 vs m.2 a5 a6
        have hv : (valV (kvsOf m.1 vs) [Sum.inl k.1, Sum.inl k.2]).isSome = true := by
          rcases valK_rel k.1 k.2 m.1 vs m.2 a5 a6 with ⟨k1, k2⟩ | ⟨d', w, k1, k2, k3⟩
          · rw [k1] at hc; exact absurd hc.1 Bool.false_ne_true
          · rw [k2]; rfl
        have ep : putK (kvsOf m.1 vs) [Sum.inl k.1, Sum.inl k.2] v = kvsOf m.1 vs' := by
          unfold putK
          rw [if_pos (by rw [valV_any]; exact hv)]
          exact c1
        refine ⟨.ref p, a1, .ref kp, b1, p, upd H1 p (.dT (kvsOf m.1 vs')), rfl, ⟨_, _, kp, a4, rfl, ?_, by rw [ep], .inr ⟨b2, hv⟩⟩, ?_⟩
        · rw [kvsOf_len (a5.trans a6.length.symm)]; exact small_lt hc.2
        · have pin : p ∈ fpf1 i := by rw [a2]; exact List.mem_cons_self
          have S2 := own_mutG (o := .dT (kvsOf m.1 vs')) (g := [p]) S1 (a7 _ _ _ hd) a1 pin (.m a3 upd_same (by rw [a5, setK_len _ _ _ _ _ a5]) c2) (fun a ha => by rw [List.mem_singleton.mp ha]; exact S1.nf i p pin) fun j' hj' a ha hb => by
            rw [List.mem_singleton.mp hb] at ha
            exact S1.sep j' i hj' p ha pin
          exact q2 Hb1 _ σ _ (fun _ _ e => e) S2
      · cases hd
    · cases hd
  · exact q2.elim
/-- a pair told by two slots -/
def tPair (a b : Nat) : TE := fun σ H Q => tCons (tVar a) (tCons (tVar b) tNil) σ H fun vs H1 => vs.length ≤ sizeLine ∧ ∀ p, H1 p = none → Q (.ref p) (upd H1 p (.tup vs))
theorem dput_t {C : CallS} {gv : Nat → Option WM.D} {ms : List Nat} {i ja jb : Nat} {e : IE} (h : tS K bp W cls (ex C gv (.dput ms i ja jb e)) D σ H) : sDP K (tVar i) (tPair ja jb) (tE K (Mof ms) bp W cls (ev C gv (Mof ms) e)) D σ H := by
  obtain ⟨Z, fpf, Hb, ρ, S, q⟩ := h
  simp only [ex] at q
  refine evX_ok S ((Pst.thn q).imp fun x ρ1 fpf1 Hb1 H1 er e1 S1 q v fp r => ?_)
  have q2 := q ρ1 er S1
  clear q
  split at q2
  · rename_i ρ2 hd
    unfold dputO at hd
    split at hd
    · rename_i d a b m h1 h2 h3
      split at hd
      · rename_i hc
        rw [Bool.and_eq_true] at hc
        obtain ⟨p, vs, a1, a2, a3, a4, a5, a6, a7⟩ := ownM_some S1 h3
        have b1 := iAt_some S1 h1
        have b2 := iAt_some S1 h2
        obtain ⟨rd, _⟩ := rp_d r
        have hv : valV (kvsOf m.1 vs) [Sum.inl a, Sum.inl b] = none := by
          rcases valK_rel a b m.1 vs m.2 a5 a6 with ⟨k1, k2⟩ | ⟨d', w, k1, k2, k3⟩
          · exact k2
          · rw [k1] at hc; exact absurd hc.1 Bool.false_ne_true
        have lv := a5.trans a6.length.symm
        have ep : putK (kvsOf m.1 vs) [Sum.inl a, Sum.inl b] v = kvsOf (m.1 ++ [(a, b)]) (vs ++ [v]) := by
          rw [putK_new v hv]
          exact kvsOf_snoc a b m.1 vs lv
        refine ⟨.ref p, a1, .int a, b1, .int b, b2, by show 2 ≤ sizeLine; decide, fun t ht => ?_⟩
        have S1' := S1.new (o := .tup [.int a, .int b]) ht
        have np : p ≠ t := fun e => by rw [e] at a4; rw [a4] at ht; cases ht
        have a4' : upd H1 t (.tup [.int a, .int b]) p = some (.dT (kvsOf m.1 vs)) := by rw [upd_ne np]; exact a4
        refine ⟨p, upd (upd H1 t (.tup [.int a, .int b])) p (.dT (kvsOf (m.1 ++ [(a, b)]) (vs ++ [v]))), rfl, ⟨_, [Sum.inl a, Sum.inl b], t, a4', rfl, ?_, by rw [ep], .inl upd_same⟩, ?_⟩
        · rw [kvsOf_len lv]; exact small_lt hc.2
        · have pin : p ∈ fpf1 i := by rw [a2]; exact List.mem_cons_self
          have S2 := own_mutG (o := .dT (kvsOf (m.1 ++ [(a, b)]) (vs ++ [v]))) (g := [p]) S1' (a7 _ _ _ hd) a1 pin (.m a3 upd_same (by rw [List.length_append, List.length_append, a5]; rfl) (a6.app (.cons rd .nil))) (fun a ha => by rw [List.mem_singleton.mp ha]; exact S1.nf i p pin) fun j' hj' a ha hb => by
            rw [List.mem_singleton.mp hb] at ha
            exact S1.sep j' i hj' p ha pin
          exact q2 Hb1 _ σ _ (fun _ _ e => e) S2
      · cases hd
    · cases hd
  · exact q2.elim
theorem app_t {C : CallS} {gv : Nat → Option WM.D} {ms : List Nat} {i : Nat} {e : IE} (h : tS K bp W cls (ex C gv (.app ms i e)) D σ H) : tDrop (tBM K "list" rAppend (tVar i) (tCons (tE K (Mof ms) bp W cls (ev C gv (Mof ms) e)) tNil)) D σ H := by
  obtain ⟨Z, fpf, Hb, ρ, S, q⟩ := h
  simp only [ex] at q
  split at q
  · exact q.elim
  rename_i hown
  obtain ⟨os0, hos⟩ := own_is hown
  obtain ⟨w, hw, hr, _⟩ := ownL_some S hos
  obtain ⟨p, vs0, f0, rfl, hp0, _, _, _, _⟩ := hr.sub
  refine ⟨_, hw, tyL hp0, ?_⟩
  show tE K (Mof ms) bp W cls (ev C gv (Mof ms) e) σ H fun y H2 => rAppend (.ref p) [y] H2 fun _ H3 => D.nx σ H3
  refine evX_ok S ((Pst.thn q).imp fun x ρ1 fpf1 Hb1 H1 er e1 S1 q v fp r => ?_)
  have q2 := q ρ1 er S1
  clear q
  split at q2
  · rename_i o os h1 h2
    split at q2
    · rename_i hsm
      split at q2
      · rename_i ρ2 hb
        obtain ⟨w', g1, g2, _⟩ := ownL_some S1 h2
        rw [hw] at g1; cases g1
        obtain ⟨p', vs, f, ep, hp, hs, hf, hpf, hn⟩ := g2.sub
        cases ep
        have ro := own_rvl r h1
        have pin : p ∈ fpf1 i := by rw [hf]; exact List.mem_cons_self
        refine ⟨p, vs, v, rfl, rfl, hp, by rw [hs.length]; exact small_lt hsm, ?_⟩
        have hs' : ROs K Hb1 (upd H1 p (.lst (vs ++ [v]))) vs os f := ROs.mono (fun _ _ e => e) _ _ _ (fun a ha => ⟨upd_ne fun e => hpf (e ▸ ha), (hs.at_ a ha).1⟩) hs
        have ro' : RO K Hb1 (upd H1 p (.lst (vs ++ [v]))) v o fp := RO.mono (fun _ _ e => e) _ _ _ (fun a ha => ⟨upd_ne fun e => ro.2.2 i p pin (e ▸ ha), (ro.1.at_ a ha).1⟩) ro.1
        have m3 := ROs.app hs' (ROs.cons ro' ROs.nil fun _ _ h => (nomatch h)) fun a h1 h2 => ro.2.2 i a (by rw [hf]; exact List.mem_cons_of_mem _ h1) (by simpa using h2)
        have k2 : ∀ a ∈ f ++ (fp ++ []), a ∈ f ∨ a ∈ fp := fun a ha => (List.mem_append.mp ha).imp id (by simp)
        have rr : RO K Hb1 (upd H1 p (.lst (vs ++ [v]))) (.ref p) (.l (os ++ [o])) (p :: (f ++ (fp ++ []))) := .l hn upd_same m3 fun hm => (k2 p hm).elim hpf fun h => ro.2.2 i p pin h
        have S3 := own_mut S1 h2 hb hw pin rr (fun a ha => ?_) fun j' hj' a ha hb => ?_
        · exact q2 Hb1 _ σ _ (fun _ _ e => e) S3
        · rcases List.mem_cons.mp ha with rfl | ha
          · exact S1.nf i _ pin
          · exact (k2 a ha).elim (fun h => S1.nf i a (by rw [hf]; exact List.mem_cons_of_mem _ h)) (ro.2.1 a)
        · rcases List.mem_cons.mp hb with rfl | hb
          · exact S1.sep j' i hj' _ ha pin
          · exact (k2 a hb).elim (fun h => S1.sep j' i hj' a ha (by rw [hf]; exact List.mem_cons_of_mem _ h)) (ro.2.2 j' a ha)
      · exact q2.elim
    · exact q2.elim
  · exact q2.elim
theorem parts_own {a : List Ow} (S : StR K M bp Z fpf Hb H σ ρ) (r : RVl K Z fpf Hb H v x fp) (h : x.parts = some a) (hb : x.isBw = false) : ∃ p vs f, v = .ref p ∧ H p = some (.lst vs) ∧ ROs K Hb H vs a f ∧ ∀ b ∈ f, b ∈ fp := parts_ok S r h
theorem ext_t {C : CallS} {gv : Nat → Option WM.D} {ms : List Nat} {i : Nat} {e : IE} (h : tS K bp W cls (ex C gv (.ext ms i e)) D σ H) : tDrop (tBM K "list" rExtend (tVar i) (tCons (tE K (Mof ms) bp W cls (ev C gv (Mof ms) e)) tNil)) D σ H := by
  obtain ⟨Z, fpf, Hb, ρ, S, q⟩ := h
  simp only [ex] at q
  split at q
  · exact q.elim
  rename_i hown
  obtain ⟨os0, hos⟩ := own_is hown
  obtain ⟨w, hw, hr, _⟩ := ownL_some S hos
  obtain ⟨p, vs0, f0, rfl, hp0, _, _, _, _⟩ := hr.sub
  refine ⟨_, hw, tyL hp0, ?_⟩
  show tE K (Mof ms) bp W cls (ev C gv (Mof ms) e) σ H fun y H2 => rExtend (.ref p) [y] H2 fun _ H3 => D.nx σ H3
  refine evX_ok S ((Pst.thn q).imp fun x ρ1 fpf1 Hb1 H1 er e1 S1 q v fp r => ?_)
  have q2 := q ρ1 er S1
  clear q
  split at q2
  · rename_i ps os h1 h2
    split at q2
    · rename_i hsm
      obtain ⟨hsm, hbw⟩ := and2 hsm
      have hbw : x.isBw = false := by simpa using hbw
      split at q2
      · rename_i ρ2 hb
        obtain ⟨w', g1, g2, _⟩ := ownL_some S1 h2
        rw [hw] at g1; cases g1
        obtain ⟨p', vs, f, ep, hp, hs, hf, hpf, hn⟩ := g2.sub
        cases ep
        obtain ⟨b, zs, fz, rfl, hB, hz, hzf⟩ := parts_own S1 r h1 hbw
        have rx : (∀ a ∈ fp, ¬ (Z.F a ∨ Z.G a)) ∧ ∀ j, Disj (fpf1 j) fp := by
          cases x with
          | ow o => exact r.2
          | bw o => cases hbw
        have pin : p ∈ fpf1 i := by rw [hf]; exact List.mem_cons_self
        refine ⟨p, b, vs, zs, rfl, rfl, hp, hB, by rw [hs.length, hz.length]; exact small_le hsm, ?_⟩
        have hs' : ROs K Hb1 (upd H1 p (.lst (vs ++ zs))) vs os f := ROs.mono (fun _ _ e => e) _ _ _ (fun a ha => ⟨upd_ne fun e => hpf (e ▸ ha), (hs.at_ a ha).1⟩) hs
        have hz' : ROs K Hb1 (upd H1 p (.lst (vs ++ zs))) zs ps fz := ROs.mono (fun _ _ e => e) _ _ _ (fun a ha => ⟨upd_ne fun e => rx.2 i p pin (e ▸ hzf a ha), (hz.at_ a ha).1⟩) hz
        have m3 := ROs.app hs' hz' fun a h1 h2 => rx.2 i a (by rw [hf]; exact List.mem_cons_of_mem _ h1) (hzf a h2)
        have k2 : ∀ a ∈ f ++ fz, a ∈ f ∨ a ∈ fp := fun a ha => (List.mem_append.mp ha).imp id (hzf a)
        have rr : RO K Hb1 (upd H1 p (.lst (vs ++ zs))) (.ref p) (.l (os ++ ps)) (p :: (f ++ fz)) := .l hn upd_same m3 fun hm => (k2 p hm).elim hpf fun h => rx.2 i p pin h
        have S3 := own_mut S1 h2 hb hw pin rr (fun a ha => ?_) fun j' hj' a ha hb => ?_
        · exact q2 Hb1 _ σ _ (fun _ _ e => e) S3
        · rcases List.mem_cons.mp ha with rfl | ha
          · exact S1.nf i _ pin
          · exact (k2 a ha).elim (fun h => S1.nf i a (by rw [hf]; exact List.mem_cons_of_mem _ h)) (rx.1 a)
        · rcases List.mem_cons.mp hb with rfl | hb
          · exact S1.sep j' i hj' _ ha pin
          · exact (k2 a hb).elim (fun h => S1.sep j' i hj' a ha (by rw [hf]; exact List.mem_cons_of_mem _ h)) (rx.2 j' a ha)
      · exact q2.elim
    · exact q2.elim
  · exact q2.elim
theorem aug_t {C : CallS} {gv : Nat → Option WM.D} {ms : List Nat} {i : Nat} {e : IE} (h : tS K bp W cls (ex C gv (.aug ms i e)) D σ H) : tAug i (tE K (Mof ms) bp W cls (ev C gv (Mof ms) e)) (ipI fun i j => i + j) D σ H := by
  obtain ⟨Z, fpf, Hb, ρ, S, q⟩ := h
  simp only [ex] at q
  split at q
  · rename_i j hj
    obtain ⟨w, h1, h2⟩ := (show ∃ v, σ[i]? = some (some v) ∧ RO K Hb H v (.d (.int j)) (fpf i) from S.sl i _ hj)
    have hwj : w = .int j := by
      have := ro_d' h2
      cases this; rfl
    refine ⟨w, h1, ?_⟩
    refine evX_ok S ((Pst.thn q).imp fun x ρ1 fpf1 Hb1 H1 er e1 S1 q v fp r => ?_)
    have q2 := q ρ1 er S1
    clear q
    split at q2
    · rename_i k hk
      have := vInt_some hk r
      subst this
      refine ⟨j, k, hwj, rfl, ?_⟩
      split at q2
      · rename_i ρ2 hp
        exact q2 Hb1 H1 _ _ (fun _ _ e => e) (putC_ok S1 (RVl.int (i := j + k)) hp).1
      · exact q2.elim
    · exact q2.elim
  · exact q.elim
theorem tst_t {a b : Env → RS} {x : Vl} (hx : PstS K bp W cls Z Hb (tst a b x ρ) D) : ∃ c, x = dv (.bl c) ∧ PstS K bp W cls Z Hb (if c = true then a ρ else b ρ) D := by
  unfold tst at hx
  split at hx
  · exact ⟨true, rfl, hx⟩
  · exact ⟨false, rfl, hx⟩
  · exact hx.elim
theorem iff_t {C : CallS} {gv : Nat → Option WM.D} {ms : List Nat} {c : IE} {a b : ISs} (h : tS K bp W cls (ex C gv (.iff ms c a b)) D σ H) : tIfS (tT K (Mof ms) bp W cls (ev C gv (Mof ms) c)) (tS K bp W cls (exs C gv a)) (tS K bp W cls (exs C gv b)) D σ H := by
  obtain ⟨Z, fpf, Hb, ρ, S, q⟩ := h
  simp only [ex] at q
  refine evT_ok S ((Pst.thn q).imp fun x ρ1 fpf1 Hb1 H1 er e1 S1 q => ?_)
  obtain ⟨c, e, q⟩ := tst_t (q ρ1 er S1)
  refine ⟨c, e, ?_⟩
  cases c with
  | true => exact iteT (B := tS K bp W cls (exs C gv b) D σ H1) ⟨Z, fpf1, Hb1, ρ1, S1, q⟩
  | false => exact iteF (A := tS K bp W cls (exs C gv a) D σ H1) ⟨Z, fpf1, Hb1, ρ1, S1, q⟩
theorem forr_t {C : CallS} {gv : Nat → Option WM.D} {ms : List Nat} {t : Tg} {it : IT} {b : ISs} (h : tS K bp W cls (ex C gv (.forr ms t it b)) D σ H) : tFor (tI K (Mof ms) bp W cls (evI C gv (Mof ms) it)) (tgR K t) (tS K bp W cls (exs C gv b)) D σ H := by
  obtain ⟨Z, fpf, Hb, ρ, S, q⟩ := h
  simp only [ex] at q
  refine evI_ok S ((Pst.thn q).imp fun xs ρ1 fpf1 Hb1 H1 er e1 S1 q J hJ => ?_)
  have q := q ρ1 er S1
  refine ⟨fun i m σ' H' => i ≤ xs.length ∧ m = xs.length - i ∧ ∃ fpf' Hb' ρ', Same Hb1 Hb' ∧ StR K all1 bp Z fpf' Hb' H' σ' ρ' ∧ PstS K bp W cls Z Hb' (forL t (exs C gv b) (xs.drop i) ρ') D, ⟨xs.length, Nat.zero_le _, rfl, fpf1, Hb1, ρ1, fun _ _ e => e, S1, q⟩, ?_⟩
  rintro i m σ2 H2 ⟨hi, rfl, fpf2, Hb2, ρ2, e2, S2, q2⟩
  have kp : KeptF Z.F Hb1 H1 H2 := ⟨fun b x h => S2.ex b x (e2 b x h), fun a ha => (S2.fr a (.inl ha)).1.trans (S1.fr a (.inl ha)).1.symm⟩
  by_cases hlt : i < xs.length
  · have hx : xs[i]? = some xs[i] := List.getElem?_eq_getElem hlt
    have hdrop : xs.drop i = xs[i] :: xs.drop (i + 1) := List.drop_eq_getElem_cons hlt
    rw [hdrop] at q2
    refine .inr ⟨hJ.go i H2 kp hlt, fun σ' H' => i + 1 ≤ xs.length ∧ ∃ fpf' Hb' ρ', Same Hb1 Hb' ∧ StR K all1 bp Z fpf' Hb' H' σ' ρ' ∧ PstS K bp W cls Z Hb' (forL t (exs C gv b) (xs.drop (i + 1)) ρ') D, fun σ' H' hw => ⟨_, by omega, hw.1, rfl, hw.2⟩, fun w H3 hy => ?_⟩
    have itm := hJ.yld i H2 w H3 _ kp hy hx
    have lm : ∀ {u : V} {y : Vl}, Lent K Z.F Hb1 H1 u y → Lent K Z.F Hb2 H2 u y := fun l => l.mono e2 fun a ha => ⟨kp.2 a ha, (S2.fr a (.inl ha)).2.1⟩
    have itm' : ItmR K Z.F Hb2 H2 H2 w H3 xs[i] := by
      cases hxi : xs[i] with
      | one y => rw [hxi] at itm; exact ⟨itm.1, lm itm.2⟩
      | many ys =>
        rw [hxi] at itm
        obtain ⟨T', x1, x2, y1, y2, g1, g2, g3, g4, g5, g6⟩ := itm
        exact ⟨T', x1, x2, y1, y2, g1, g2, g3, g4, lm g5, lm g6⟩
    unfold forL at q2
    cases hset : putI ρ2 t xs[i] with
    | none => rw [hset] at q2; exact q2.elim
    | some ρ3 =>
      rw [hset] at q2
      refine putI_ok S2 itm' hset fun σ3 fpf3 S3 => ⟨Z, fpf3, Hb2, ρ3, S3, ?_⟩
      exact q2.thn fun ρ4 Hb4 H4 σ4 fpf4 e4 S4 q4 => ⟨by omega, fpf4, Hb4, ρ4, e2.trans e4, S4, q4⟩
  · have hin : i = xs.length := by omega
    subst hin
    rw [List.drop_length] at q2
    exact .inl ⟨hJ.stop H2 kp, q2 Hb2 H2 σ2 fpf2 (fun _ _ e => e) S2⟩
theorem back_own {i : Nat} {L : List Ow} (h : backL ρ i L = some ρ') : ownL ρ' i = some L ∧ (∀ M, backL ρ' i M = backL ρ i M) ∧ ∀ j, j ≠ i → ρ'[j]? = ρ[j]? := by
  unfold backL at h
  split at h
  · rename_i os h0
    have hl : i < ρ.length := (List.getElem?_eq_some_iff.mp h0).1
    cases h
    refine ⟨?_, fun M => ?_, fun j hj => by rw [List.getElem?_set_ne (Ne.symm hj)]⟩
    · unfold ownL; rw [List.getElem?_set_self hl]
    · unfold backL; rw [List.getElem?_set_self hl, h0]; simp
  · rename_i os h0
    have hl : i < ρ.length := (List.getElem?_eq_some_iff.mp h0).1
    cases h
    refine ⟨?_, fun M => ?_, fun j hj => by rw [List.getElem?_set_ne (Ne.symm hj)]⟩
    · unfold ownL; rw [List.getElem?_set_self hl]
    · unfold backL; rw [List.getElem?_set_self hl, h0]; simp
  · cases h
theorem own_back {i : Nat} {L : List Ow} (h : ownL ρ i = some L) : backL ρ i L = some ρ ∧ ∀ M, ∃ ρ', backL ρ i M = some ρ' := by
  unfold ownL at h
  split at h
  · rename_i os h0
    cases h
    obtain ⟨hl, h1⟩ := List.getElem?_eq_some_iff.mp h0
    refine ⟨?_, fun M => ⟨_, by unfold backL; rw [h0]⟩⟩
    unfold backL; rw [h0]
    show some (ρ.set i (.val (.l L))) = some ρ
    rw [← h1, List.set_getElem_self]
  · rename_i os h0
    cases h
    obtain ⟨hl, h1⟩ := List.getElem?_eq_some_iff.mp h0
    refine ⟨?_, fun M => ⟨_, by unfold backL; rw [h0]⟩⟩
    unfold backL; rw [h0]
    show some (ρ.set i (.ref (.l L))) = some ρ
    rw [← h1, List.set_getElem_self]
  · cases h
theorem colO_get {b n : Int} : ∀ {os os' : List Ow}, colO b n os = some os' → os'.length = os.length ∧ ∀ k, k < os.length → ∃ ps b', os[k]? = some (.l ps) ∧ ixN ps.length b = some b' ∧ os'[k]? = some (.l (ps.set b' (.d (.int n))))
  | [], _, h => by cases h; exact ⟨rfl, fun k hk => (Nat.not_lt_zero k hk).elim⟩
  | .l ps :: os, _, h => by
    obtain ⟨b', h1, h⟩ := Option.bind_eq_some_iff.mp (show (ixN ps.length b).bind _ = some _ from h)
    obtain ⟨r, h2, h⟩ := Option.map_eq_some_iff.mp h
    cases h
    obtain ⟨l, g⟩ := colO_get h2
    refine ⟨by simp [l], fun k hk => ?_⟩
    cases k with
    | zero => exact ⟨ps, b', rfl, h1, rfl⟩
    | succ k =>
      obtain ⟨qs, c, g1, g2, g3⟩ := g k (by simpa using hk)
      exact ⟨qs, c, by simpa using g1, g2, by simpa using g3⟩
  | .d _ :: _, _, h => by cases h
theorem col_mut {i a' b' : Nat} {os ps : List Ow} {n : Int} (S2 : StR K all1 bp Z fpf Hb H σ ρ) (h4 : ownL ρ i = some os) (hoa : os[a']? = some (.l ps)) : ∃ p vs q vs2, σ[i]? = some (some (.ref p)) ∧ H p = some (.lst vs) ∧ vs.length = os.length ∧ vs[a']? = some (.ref q) ∧ H q = some (.lst vs2) ∧ vs2.length = ps.length ∧
    ∀ ρ', backL ρ i (os.set a' (.l (ps.set b' (.d (.int n))))) = some ρ' → ∃ fpf', StR K all1 bp Z fpf' Hb (upd H q (.lst (vs2.set b' (.int n)))) σ ρ' := by
  obtain ⟨w', g1, g2, g3⟩ := ownL_some S2 h4
  obtain ⟨p, vs, f, rfl, hp, hs, hf, hpf, hn⟩ := g2.sub
  obtain ⟨w2, f2, k1, k2, k3, k4⟩ := ROs.out hs hoa
  obtain ⟨q2, vs2, f3, rfl, hp2, hs2, hf2, hpf2, hn2⟩ := k2.sub
  have q2f : q2 ∈ f := k3 q2 (by rw [hf2]; exact List.mem_cons_self)
  have q2i : q2 ∈ fpf i := by rw [hf]; exact List.mem_cons_of_mem _ q2f
  have f3i : ∀ c ∈ f3, c ∈ fpf i := fun c hc => by rw [hf]; exact List.mem_cons_of_mem _ (k3 c (by rw [hf2]; exact List.mem_cons_of_mem _ hc))
  refine ⟨p, vs, q2, vs2, g1, hp, hs.length, k1, hp2, hs2.length, fun ρ' hb => ?_⟩
  have hs' : ROs K Hb (upd H q2 (.lst (vs2.set b' (.int n)))) vs2 ps f3 := ROs.mono (fun _ _ e => e) _ _ _ (fun a ha => ⟨upd_ne fun e => hpf2 (e ▸ ha), (hs2.at_ a ha).1⟩) hs2
  obtain ⟨g, m1, m2⟩ := ROs.set (j := b') hs' (.d (.int n)) fun a h1 h2 => (nomatch h2)
  have m2 : ∀ a ∈ g, a ∈ f3 := fun a ha => (m2 a ha).elim id fun h => (nomatch h)
  have rr2 : RO K Hb (upd H q2 (.lst (vs2.set b' (.int n)))) (.ref q2) (.l (ps.set b' (.d (.int n)))) (q2 :: g) := .l hn2 upd_same m1 fun hm => hpf2 (m2 q2 hm)
  obtain ⟨g', n1, n2⟩ := k4 Hb (upd H q2 (.lst (vs2.set b' (.int n)))) (.ref q2) (.l (ps.set b' (.d (.int n)))) (q2 :: g) (fun _ _ e => e) (fun a ha hf' => ⟨upd_ne fun e => hf' (by rw [hf2, e]; exact List.mem_cons_self), (hs.at_ a ha).1⟩) rr2 (fun a ha haf => by
    rw [hf2]
    rcases List.mem_cons.mp ha with rfl | ha
    · exact List.mem_cons_self
    · exact List.mem_cons_of_mem _ (m2 a ha))
  have ev : vs.set a' (.ref q2) = vs := by
    refine List.ext_getElem? fun j => ?_
    by_cases e : j = a'
    · subst e; rw [List.getElem?_set_self (List.getElem?_eq_some_iff.mp k1).1, k1]
    · rw [List.getElem?_set_ne (Ne.symm e)]
  rw [ev] at n1
  have pq : p ≠ q2 := fun e => hpf (e ▸ q2f)
  have cov : ∀ a ∈ g', a ∈ fpf i := fun a ha => by
    rcases n2 a ha with h | h
    · rw [hf]; exact List.mem_cons_of_mem _ h
    · rcases List.mem_cons.mp h with rfl | h
      · exact q2i
      · exact f3i a (m2 a h)
  have pin : p ∈ fpf i := by rw [hf]; exact List.mem_cons_self
  have rr : RO K Hb (upd H q2 (.lst (vs2.set b' (.int n)))) (.ref p) (.l (os.set a' (.l (ps.set b' (.d (.int n)))))) (p :: g') := .l hn (by rw [upd_ne pq]; exact hp) n1 fun hm => by
    rcases n2 p hm with h | h
    · exact hpf h
    · rcases List.mem_cons.mp h with h | h
      · exact pq h
      · exact hpf (k3 p (by rw [hf2]; exact List.mem_cons_of_mem _ (m2 p h)))
  refine ⟨_, own_mut S2 h4 hb g1 q2i rr (fun a ha => ?_) fun j' hj' a ha hb => ?_⟩
  · rcases List.mem_cons.mp ha with rfl | ha
    · exact S2.nf i _ pin
    · exact S2.nf i a (cov a ha)
  · rcases List.mem_cons.mp hb with rfl | hb
    · exact S2.sep j' i hj' _ ha pin
    · exact S2.sep j' i hj' a ha (cov a hb)
theorem StR.setNo {K : PySem.W.Frag} {Z : Fz} {fpf : Nat → List Addr} {Hb H : Hp} {σ : L2.St} {ρ : Env} {i : Nat} {o : Option V} (S : StR K all1 bp Z fpf Hb H σ ρ) (h : ρ[i]? = some .no) : StR K all1 bp Z fpf Hb H (σ.set i o) ρ := by
  refine ⟨S.ex, S.fr, by rw [List.length_set]; exact S.len, fun j s hj => ?_, S.sep, S.nf, S.hb, S.off⟩
  have q := S.sl j s hj
  by_cases e : j = i
  · subst e
    rw [h] at hj; cases hj; trivial
  · cases s with
    | no => trivial
    | bor _ => simpa only [List.getElem?_set_ne (Ne.symm e)] using q
    | val _ => simpa only [List.getElem?_set_ne (Ne.symm e)] using q
    | ref _ => simpa only [List.getElem?_set_ne (Ne.symm e)] using q
theorem col_t {C : CallS} {gv : Nat → Option WM.D} {i r g : Nat} {n : Int} (h : tS K bp W cls (ex C gv (.col i r g n)) D σ H) : tFor (iList K (tVar i)) (tgR K (.n r)) (tAsg (tC (.int n)) (gSub (tVar r) (tVar g) rSetL)) D σ H := by
  obtain ⟨Z, fpf, Hb, ρ, S, q⟩ := h
  simp only [ex] at q
  split at q
  case isFalse => exact q.elim
  rename_i hr
  split at q
  case h_2 => exact q.elim
  rename_i ρ' hc
  unfold colS at hc
  obtain ⟨os, hos, hc⟩ := Option.bind_eq_some_iff.mp hc
  obtain ⟨b, hb, hc⟩ := Option.bind_eq_some_iff.mp hc
  obtain ⟨os', ho', hbk⟩ := Option.bind_eq_some_iff.mp hc
  have S0 := S.dropS r
  have hr0 : (ρ.set r .no)[r]? = some .no := List.getElem?_set_self hr
  have hri : r ≠ i := fun e => by unfold ownL at hos; rw [← e, hr0] at hos; cases hos
  have hrg : r ≠ g := fun e => by unfold iAt at hb; rw [← e, hr0] at hb; cases hb
  obtain ⟨w, hw, hro, _⟩ := ownL_some S0 hos
  obtain ⟨p, vs, f, rfl, hp, hs, _⟩ := hro.sub
  obtain ⟨len', get'⟩ := colO_get ho'
  refine ⟨.ref p, hw, p, rfl, ⟨vs, SqL.of hp⟩, ?_⟩
  refine ⟨fun k m σ' H' => k ≤ os.length ∧ m = os.length - k ∧ σ'[i]? = some (some (.ref p)) ∧ ∃ fpf' L ρk, StR K all1 bp Z fpf' Hb H' σ' ρk ∧ ownL ρk i = some L ∧ (∀ M, backL ρk i M = backL (ρ.set r .no) i M) ∧ ρk[r]? = some .no ∧ iAt ρk g = some b ∧ L.length = os.length ∧ (∀ j, j < k → L[j]? = os'[j]?) ∧ ∀ j, k ≤ j → L[j]? = os[j]?,
    ⟨os.length, Nat.zero_le _, rfl, hw, _, os, _, S0, hos, fun _ => rfl, hr0, hb, rfl, fun j hj => (Nat.not_lt_zero j hj).elim, fun j _ => rfl⟩, ?_⟩
  rintro k m σ2 H2 ⟨hk, rfl, hp2, fpf2, L, ρk, Sk, hL, hM, hrk, hgk, lenL, lo, hi⟩
  by_cases hlt : k < os.length
  · obtain ⟨ps, b', g1, g2, g3⟩ := get' k hlt
    have hLk : L[k]? = some (.l ps) := (hi k (Nat.le_refl k)).trans g1
    obtain ⟨p', vs', q', vs2, e1, e2, e3, e4, e5, e6, e7⟩ := col_mut (b' := b') (n := n) Sk hL hLk
    rw [hp2] at e1; cases e1
    refine .inr ⟨⟨vs', _, SqL.of e2, e4⟩, fun σ' H' => k + 1 ≤ os.length ∧ σ'[i]? = some (some (.ref p)) ∧ ∃ fpf' L ρk, StR K all1 bp Z fpf' Hb H' σ' ρk ∧ ownL ρk i = some L ∧ (∀ M, backL ρk i M = backL (ρ.set r .no) i M) ∧ ρk[r]? = some .no ∧ iAt ρk g = some b ∧ L.length = os.length ∧ (∀ j, j < k + 1 → L[j]? = os'[j]?) ∧ ∀ j, k + 1 ≤ j → L[j]? = os[j]?, fun σ' H' hw => ⟨_, by omega, hw.1, rfl, hw.2⟩, ?_⟩
    rintro x H3 ⟨rfl, hx⟩
    have ex : x = .ref q' := by have := hx vs' (SqL.of e2); rw [e4] at this; exact (Option.some.inj this).symm
    subst ex
    obtain ⟨ρn, hρn⟩ := (own_back hL).2 (L.set k (.l (ps.set b' (.d (.int n)))))
    obtain ⟨fn, Sn⟩ := e7 ρn hρn
    obtain ⟨b1, b2, b3⟩ := back_own hρn
    have hlr : r < σ2.length := by
      have := (List.getElem?_eq_some_iff.mp hrk).1
      rwa [Sk.len] at this
    have hgv : (σ2.set r (some (.ref q')))[g]? = some (some (.int b)) := by
      rw [List.getElem?_set_ne hrg]; exact iAt_some Sk hgk
    refine ⟨.ref q', List.getElem?_set_self hlr, .int b, hgv, q', vs2, b, b', rfl, rfl, e5, by rw [e6]; exact g2, ?_⟩
    refine ⟨hlt, ?_, fn, _, ρn, Sn.setNo ((b3 r hri).trans hrk), b1, fun M => (b2 M).trans (hM M), (b3 r hri).trans hrk, ?_, by rw [List.length_set]; exact lenL, fun j hj => ?_, fun j hj => ?_⟩
    · rw [List.getElem?_set_ne hri]; exact hp2
    · have hgi : g ≠ i := fun e => by
        unfold iAt at hgk; unfold ownL at hL
        rw [e] at hgk
        split at hgk
        · rename_i h0; rw [h0] at hL; cases hL
        · cases hgk
      unfold iAt at hgk ⊢
      rw [b3 g hgi]; exact hgk
    · by_cases e : j = k
      · subst e; rw [List.getElem?_set_self (by omega), g3]
      · rw [List.getElem?_set_ne (Ne.symm e)]; exact lo j (by omega)
    · rw [List.getElem?_set_ne (by omega)]; exact hi j (by omega)
  · have hk' : k = os.length := by omega
    subst hk'
    obtain ⟨w', g1, g2, _⟩ := ownL_some Sk hL
    rw [hp2] at g1; cases g1
    obtain ⟨p', vs', f', ep, hp', hs', _⟩ := g2.sub
    cases ep
    refine .inl ⟨⟨vs', SqL.of hp', by rw [hs'.length, lenL]; exact Nat.le_refl _⟩, ?_⟩
    have eL : L = os' := List.ext_getElem? fun j => by
      by_cases hj : j < os.length
      · exact lo j hj
      · rw [List.getElem?_eq_none (by omega), List.getElem?_eq_none (by omega)]
    subst eL
    have : ρk = ρ' := Option.some.inj ((own_back hL).1.symm.trans ((hM L).trans hbk))
    subst this
    exact q Hb H2 σ2 fpf2 (fun _ _ e => e) Sk
theorem StR.holdA (S : StR K M bp Z fpf Hb H σ ρ) (hfp : ∀ a ∈ fp, Hb a = none ∧ H a ≠ none) (hd : ∀ i, Disj (fpf i) fp) : StR K M bp (Z.more H fp) fpf Hb H σ ρ := by
  refine ⟨S.ex, fun a ha => ?_, S.len, S.sl, S.sep, fun i a ha => ?_, S.hb, S.off⟩
  · refine ⟨rfl, ?_⟩
    rcases ha with ha | ha | ha
    · exact (S.fr a (.inl ha)).2
    · exact (S.fr a (.inr ha)).2
    · exact hfp a ha
  · rintro (h | h | h)
    · exact S.nf i a ha (.inl h)
    · exact S.nf i a ha (.inr h)
    · exact hd i a ha h
theorem app2_t {C : CallS} {gv : Nat → Option WM.D} {ms : List Nat} {i j k : Nat} {e : IE} {ss : ISs} (h : tS K bp W cls (exs C gv (.app2 ms i j k e ss)) D σ H) :
    tSeq (tDrop (tBM K "list" rAppend (tVar i) (tCons (tVar j) tNil))) (tSeq (tDrop (tBM K "list" rAppend (tVar k) (tCons (tE K (Mof ms) bp W cls (ev C gv (Mof ms) e)) tNil))) (tS K bp W cls (exs C gv ss))) D σ H := by
  obtain ⟨Z, fpf, Hb, ρ, S, q⟩ := h
  simp only [exs] at q
  split at q
  case h_2 => exact q.elim
  rename_i os ps hi hj
  split at q
  · exact q.elim
  rename_i hown
  rw [Bool.or_eq_true, not_or] at hown
  obtain ⟨hown, hsmall⟩ := hown
  have hsmall : small os.length = true := by simpa using hsmall
  obtain ⟨w, hw, hr⟩ := (show ∃ v, σ[i]? = some (some v) ∧ RO K Hb H v (.l os) (fpf i) from S.sl i _ hi)
  obtain ⟨wj, hwj, hrj⟩ := (show ∃ v, σ[j]? = some (some v) ∧ RO K Hb H v (.l ps) (fpf j) from S.sl j _ hj)
  obtain ⟨p, vs, f, rfl, hp, hs, hf, hpf, hn⟩ := hr.sub
  have pin : p ∈ fpf i := by rw [hf]; exact List.mem_cons_self
  refine ⟨_, hw, tyL hp, wj, hwj, p, vs, wj, rfl, rfl, hp, by rw [hs.length]; exact small_lt hsmall, ?_⟩
  -- behind the first one
  have S0 := (S.dropS i).mut (o := .lst (vs ++ [wj])) (S.nf i p pin) (fun m hm => by
    try dsimp only at hm
    split at hm
    · cases hm
    · rename_i en; exact S.sep m i en p hm pin) (S.hb i p pin).1
  have hil : i < ρ.length := (List.getElem?_eq_some_iff.mp hi).1
  obtain ⟨ok0, hok0⟩ := own_is hown
  obtain ⟨wk, hwk, hrk, _⟩ := ownL_some S0 hok0
  obtain ⟨pk0, vk0, fk0, rfl, hpk0, _, _, _, _⟩ := hrk.sub
  refine ⟨_, hwk, tyL hpk0, ?_⟩
  show tE K (Mof ms) bp W cls (ev C gv (Mof ms) e) σ _ fun y H2 => rAppend (.ref pk0) [y] H2 fun _ H3 => tS K bp W cls (exs C gv ss) D σ H3
  have hdi : ∀ m, Disj ((fun m => if m = i then [] else fpf m) m) (fpf i) := fun m a h1 h2 => by
    try dsimp only at h1
    split at h1
    · cases h1
    · rename_i en; exact S.sep m i en a h1 h2
  have hat : ∀ a ∈ fpf i, Hb a = none ∧ upd H p (.lst (vs ++ [wj])) a ≠ none := fun a ha => by
    refine ⟨(S.hb i a ha).1, ?_⟩
    by_cases ea : a = p
    · rw [ea, upd_same]; exact nofun
    · rw [upd_ne (by exact ea)]; exact (S.hb i a ha).2
  have Sh := S0.holdA hat hdi
  have h1 := (Pst.thn (σ := σ) q).more (fp := fpf i) S0
  refine evX_ok Sh (h1.imp fun x ρ2 fpf2 Hb2 H2 er e2 S2 q2 u fp1 ru => ?_)
  have S2' := S2.letgo fun a ha => (S0.fr a ha).1
  obtain ⟨ru', dj⟩ := ru.drop
  have q3 := q2 ρ2 S2 er ρ2 er S2'
  clear q2 q h1
  split at q3
  case h_2 => exact q3.elim
  rename_i ρ3 ha2
  unfold app2O at ha2
  split at ha2
  case h_2 => cases ha2
  rename_i o okl ps' ho hokl hj2 hi2
  split at ha2
  case isFalse => cases ha2
  rename_i hc
  obtain ⟨hc, hjk⟩ := and2 hc
  have hjk : j ≠ k := of_decide_eq_true hjk
  obtain ⟨ρ4, hb4, e4⟩ := Option.map_eq_some_iff.mp ha2
  subst e4
  obtain ⟨wk', g1, g2, _⟩ := ownL_some S2' hokl
  rw [hwk] at g1; cases g1
  obtain ⟨pk, vk, fk, ep, hpk, hsk, hfk, hpfk, hnk⟩ := g2.sub
  cases ep
  have ro := own_rvl ru' ho
  have pkin : pk0 ∈ fpf2 k := by rw [hfk]; exact List.mem_cons_self
  refine ⟨pk0, vk, u, rfl, rfl, hpk, by rw [hsk.length]; exact small_lt hc, ?_⟩
  have hs' : ROs K Hb2 (upd H2 pk0 (.lst (vk ++ [u]))) vk okl fk := ROs.mono (fun _ _ e => e) _ _ _ (fun a ha => ⟨upd_ne fun e => hpfk (e ▸ ha), (hsk.at_ a ha).1⟩) hsk
  have ro' : RO K Hb2 (upd H2 pk0 (.lst (vk ++ [u]))) u o fp1 := RO.mono (fun _ _ e => e) _ _ _ (fun a ha => ⟨upd_ne fun e => ro.2.2 k pk0 pkin (e ▸ ha), (ro.1.at_ a ha).1⟩) ro.1
  have m3 := ROs.app hs' (ROs.cons ro' ROs.nil fun _ _ h => (nomatch h)) fun a h1 h2 => ro.2.2 k a (by rw [hfk]; exact List.mem_cons_of_mem _ h1) (by simpa using h2)
  have k2 : ∀ a ∈ fk ++ (fp1 ++ []), a ∈ fk ∨ a ∈ fp1 := fun a ha => (List.mem_append.mp ha).imp id (by simp)
  have rr : RO K Hb2 (upd H2 pk0 (.lst (vk ++ [u]))) (.ref pk0) (.l (okl ++ [o])) (pk0 :: (fk ++ (fp1 ++ []))) := .l hnk upd_same m3 fun hm => (k2 pk0 hm).elim hpfk fun h => ro.2.2 k pk0 pkin h
  have S3 := own_mut S2' hokl hb4 hwk pkin rr (fun a ha => by
    rcases List.mem_cons.mp ha with rfl | ha
    · exact S2'.nf k _ pkin
    · exact (k2 a ha).elim (fun h => S2'.nf k a (by rw [hfk]; exact List.mem_cons_of_mem _ h)) (ro.2.1 a)) fun j' hj' a ha hb => by
    rcases List.mem_cons.mp hb with rfl | hb
    · exact S2'.sep j' k hj' _ ha pkin
    · exact (k2 a hb).elim (fun h => S2'.sep j' k hj' a ha (by rw [hfk]; exact List.mem_cons_of_mem _ h)) (ro.2.2 j' a ha)
  -- the first list is put back
  have held : ∀ a ∈ fpf i, upd H2 pk0 (.lst (vk ++ [u])) a = upd H p (.lst (vs ++ [wj])) a ∧ Hb2 a = none := fun a ha => by
    have q := S2.fr a (.inr (.inr ha))
    refine ⟨?_, q.2.1⟩
    rw [upd_ne (show a ≠ pk0 from fun e => S2.nf k pk0 pkin (.inr (.inr (e ▸ ha))))]
    exact q.1
  have hki : k ≠ i := fun e => by unfold ownL at hokl; rw [e, hi2] at hokl; cases hokl
  have nfk : ∀ m, m ≠ k → ∀ a ∈ fpf2 m, a ∉ fpf i := fun m _ a ha hm => S2.nf m a ha (.inr (.inr hm))
  obtain ⟨b1, b2, b3⟩ := back_own hb4
  have hj4 : ρ4[j]? = some (.val (.l ps')) := (b3 j hjk).trans hj2
  obtain ⟨wj', g3, g4⟩ := (show ∃ v, σ[j]? = some (some v) ∧ RO K Hb2 _ v (.l ps') ((fun m => if m = k then _ else fpf2 m) j) from S3.sl j _ hj4)
  rw [hwj] at g3; cases g3
  try dsimp only at g4
  rw [if_neg hjk] at g4
  have S4 := S3.dropS j
  have hsi : ROs K Hb2 (upd H2 pk0 (.lst (vk ++ [u]))) vs os f := ROs.mono (fun b x hx => e2 b x hx) _ _ _ (fun a ha => by
    have am : a ∈ fpf i := by rw [hf]; exact List.mem_cons_of_mem _ ha
    obtain ⟨z1, z2⟩ := held a am
    exact ⟨z1.trans (upd_ne fun e => hpf (e ▸ ha)), z2⟩) hs
  have m5 := ROs.app hsi (ROs.cons g4 ROs.nil fun _ _ h => (nomatch h)) fun a h1 h2 => nfk j hjk a (by simpa using h2) (by rw [hf]; exact List.mem_cons_of_mem _ h1)
  have k5 : ∀ a ∈ f ++ (fpf2 j ++ []), a ∈ f ∨ a ∈ fpf2 j := fun a ha => (List.mem_append.mp ha).imp id (by simp)
  have r5 : RO K Hb2 (upd H2 pk0 (.lst (vk ++ [u]))) (.ref p) (.l (os ++ [.l ps'])) (p :: (f ++ (fpf2 j ++ []))) := .l (held p pin).2 ((held p pin).1.trans upd_same) m5 fun hm => (k5 p hm).elim hpf fun h => nfk j hjk p h pin
  have c5 : ∀ a ∈ p :: (f ++ (fpf2 j ++ [])), a ∈ fpf i ∨ a ∈ fpf2 j := fun a ha => by
    rcases List.mem_cons.mp ha with rfl | ha
    · exact .inl pin
    · exact (k5 a ha).imp (fun h => by rw [hf]; exact List.mem_cons_of_mem _ h) id
  have rv : RVl K Z (fun m => if m = j then [] else (fun m => if m = k then pk0 :: (fk ++ (fp1 ++ [])) else fpf2 m) m) Hb2 (upd H2 pk0 (.lst (vk ++ [u]))) (.ref p) (.ow (.l (os ++ [.l ps']))) (p :: (f ++ (fpf2 j ++ []))) := by
    refine ⟨r5, fun a ha => ?_, fun m a h1 h2 => ?_⟩
    · rcases c5 a ha with h | h
      · exact S.nf i a h
      · exact S2'.nf j a h
    · try dsimp only at h1
      split at h1
      · cases h1
      · rename_i mj
        split at h1
        · rcases c5 a h2 with h | h
          · rcases List.mem_cons.mp h1 with rfl | h1
            · exact S2.nf k _ pkin (.inr (.inr h))
            · rcases k2 a h1 with h1 | h1
              · exact S2.nf k a (by rw [hfk]; exact List.mem_cons_of_mem _ h1) (.inr (.inr h))
              · exact dj a h h1
          · rcases List.mem_cons.mp h1 with rfl | h1
            · exact S2'.sep j k hjk _ h pkin
            · rcases k2 a h1 with h1 | h1
              · exact S2'.sep j k hjk a h (by rw [hfk]; exact List.mem_cons_of_mem _ h1)
              · exact ro.2.2 j a h h1
        · rename_i mk
          rcases c5 a h2 with h | h
          · exact S2.nf m a h1 (.inr (.inr h))
          · exact S2'.sep m j mj a h1 h
  have hi4 : (ρ4.set j .no)[i]? = some .no := by
    by_cases eij : i = j
    · subst eij; rw [hi2] at hj2; cases hj2
    · rw [List.getElem?_set_ne (Ne.symm eij), b3 i (Ne.symm hki)]; exact hi2
  have hp5 : putC (ρ4.set j .no) i (.ow (.l (os ++ [.l ps']))) = some ((ρ4.set j .no).set i (.val (.l (os ++ [.l ps'])))) := by
    unfold putC
    rw [hi4]; rfl
  obtain ⟨S5, _⟩ := putC_ok S4 rv hp5
  have es : σ.set i (some (.ref p)) = σ := by
    refine List.ext_getElem? fun m => ?_
    by_cases en : m = i
    · subst en; rw [List.getElem?_set_self (by rw [← S.len]; exact hil), hw]
    · rw [List.getElem?_set_ne (Ne.symm en)]
  rw [es] at S5
  exact ⟨Z, _, Hb2, _, S5, q3⟩
theorem whl_t {C : CallS} {gv : Nat → Option WM.D} {n : Nat} {ms : List Nat} {c : IE} {b : ISs} (h : tS K bp W cls (ex C gv (.whl n ms c b)) D σ H) : tWhile (tT K (Mof ms) bp W cls (ev C gv (Mof ms) c)) (tS K bp W cls (exs C gv b)) D σ H := by
  obtain ⟨Z, fpf, Hb, ρ, S, q⟩ := h
  simp only [ex] at q
  refine ⟨fun m σ' H' => ∃ fpf' Hb' ρ', StR K all1 bp Z fpf' Hb' H' σ' ρ' ∧ PstS K bp W cls Z Hb' (whlL (evX C gv ms c) (exs C gv b) m ρ') D, ⟨n, fpf, Hb, ρ, S, q⟩, ?_⟩
  rintro m σ2 H2 ⟨fpf2, Hb2, ρ2, S2, q2⟩
  cases m with
  | zero => exact q2.elim
  | succ m =>
    unfold whlL at q2
    refine evT_ok S2 ((Pst.thn q2).imp fun x ρ3 fpf3 Hb3 H3 er e3 S3 q3 => ?_)
    obtain ⟨c', e, q4⟩ := tst_t (q3 ρ3 er S3)
    refine ⟨c', e, ?_⟩
    cases c' with
    | true =>
      refine iteT (B := D.nx σ2 H3) ⟨fun σ' H' => ∃ fpf' Hb' ρ', StR K all1 bp Z fpf' Hb' H' σ' ρ' ∧ PstS K bp W cls Z Hb' (whlL (evX C gv ms c) (exs C gv b) m ρ') D, fun σ' H' hw => ⟨m, Nat.lt_succ_self m, hw⟩, Z, fpf3, Hb3, ρ3, S3, ?_⟩
      exact PstS.thn q4 fun ρ5 Hb5 H5 σ5 fpf5 e5 S5 q5 => ⟨fpf5, Hb5, ρ5, S5, q5⟩
    | false => exact iteF (q4 Hb3 H3 σ2 fpf3 (fun _ _ e => e) S3)
theorem ret_t {C : CallS} {gv : Nat → Option WM.D} {ms : List Nat} {e : IE} (h : tS K bp W cls (ex C gv (.ret ms e)) D σ H) : tRet (tE K (Mof ms) bp W cls (ev C gv (Mof ms) e)) D σ H := by
  obtain ⟨Z, fpf, Hb, ρ, S, q⟩ := h
  simp only [ex] at q
  refine evX_ok S ((Pst.thn q).imp fun x ρ1 fpf1 Hb1 H1 er e1 S1 q v fp r => ?_)
  have q2 := q ρ1 er S1
  clear q
  split at q2
  · rename_i o ho
    exact q2 Hb1 H1 σ fpf1 v fp (fun _ _ e => e) S1 (own_rvl r ho)
  · exact q2.elim
theorem exp_t {C : CallS} {gv : Nat → Option WM.D} {ms : List Nat} {e : IE} (h : tS K bp W cls (ex C gv (.exp ms e)) D σ H) : tDrop (tE K (Mof ms) bp W cls (ev C gv (Mof ms) e)) D σ H := by
  obtain ⟨Z, fpf, Hb, ρ, S, q⟩ := h
  simp only [ex] at q
  refine evX_ok S ((Pst.thn q).imp fun x ρ1 fpf1 Hb1 H1 er e1 S1 q v fp r => ?_)
  exact q ρ1 er S1 Hb1 H1 σ fpf1 (fun _ _ e => e) S1
end
end WM

/-! WM: places exchanged; an item goes from one list to another one. -/
namespace WM
open PySem PySem.Spec PyProof.Rows L2
section
variable {K : PySem.W.Frag} {M : Nat → Bool} {bp : List (Nat × Addr)} {W : WX} {cls : Nat → Value} {Z : Fz} {fpf fpf' : Nat → List Addr} {Hb Hb' H H' : Hp} {σ σ' : L2.St} {ρ ρ' : Env} {v u : V} {x y z : Vl} {fp fp1 fp2 : List Addr} {α β : Type} {D : Ends}
theorem ROs.list : ∀ {vs : List V} {os : List Ow} {f : List Addr}, ROs K Hb H vs os f → ∃ L : List (V × Ow × List Addr), L.map (·.1) = vs ∧ L.map (·.2.1) = os ∧ (L.map (·.2.2)).flatten = f ∧ (∀ x ∈ L, RO K Hb H x.1 x.2.1 x.2.2) ∧ L.Pairwise fun x y => Disj x.2.2 y.2.2
  | _, _, _, .nil => ⟨[], rfl, rfl, rfl, fun _ h => (nomatch h), .nil⟩
  | _, _, _, .cons (v := v) (o := o) (f1 := f1) r t dj => by
    obtain ⟨L, h1, h2, h3, h4, h5⟩ := ROs.list t
    refine ⟨(v, o, f1) :: L, by rw [List.map_cons, h1], by rw [List.map_cons, h2], by rw [List.map_cons, List.flatten_cons, h3], fun x hx => ?_, List.pairwise_cons.mpr ⟨fun y hy a ha hb => ?_, h5⟩⟩
    · rcases List.mem_cons.mp hx with rfl | hx
      · exact r
      · exact h4 x hx
    · exact dj a ha (h3 ▸ List.mem_flatten.mpr ⟨_, List.mem_map_of_mem hy, hb⟩)
theorem ROs.ofL : ∀ (L : List (V × Ow × List Addr)), (∀ x ∈ L, RO K Hb H x.1 x.2.1 x.2.2) → (L.Pairwise fun x y => Disj x.2.2 y.2.2) → ROs K Hb H (L.map (·.1)) (L.map (·.2.1)) (L.map (·.2.2)).flatten
  | [], _, _ => .nil
  | x :: L, h, p => by
    rw [List.pairwise_cons] at p
    refine .cons (h x List.mem_cons_self) (ROs.ofL L (fun y hy => h y (List.mem_cons_of_mem _ hy)) p.2) fun a ha hb => ?_
    obtain ⟨l, h1, h2⟩ := List.mem_flatten.mp hb
    obtain ⟨y, h3, rfl⟩ := List.mem_map.mp h1
    exact p.1 y h3 a ha h2
theorem ROs.swap {vs : List V} {os : List Ow} {f : List Addr} {j m : Nat} {o1 o2 : Ow} {v1 v2 : V} (h : ROs K Hb H vs os f) (h1 : os[j]? = some o1) (h2 : os[m]? = some o2) (h3 : vs[j]? = some v1) (h4 : vs[m]? = some v2) :
    ∃ g, ROs K Hb H ((vs.set j v2).set m v1) ((os.set j o2).set m o1) g ∧ ∀ a ∈ g, a ∈ f := by
  obtain ⟨L, rfl, rfl, rfl, h5, h6⟩ := h.list
  rw [List.getElem?_map] at h1 h2 h3 h4
  obtain ⟨x, e1, rfl⟩ := Option.map_eq_some_iff.mp h1
  obtain ⟨y, e2, rfl⟩ := Option.map_eq_some_iff.mp h2
  rw [e1] at h3
  rw [e2] at h4
  cases h3
  cases h4
  obtain ⟨lj, ej⟩ := List.getElem?_eq_some_iff.mp e1
  obtain ⟨lm, em⟩ := List.getElem?_eq_some_iff.mp e2
  have pm : ((L.set j y).set m x).Perm L := by
    have := List.set_set_perm (as := L) lj lm
    rw [ej, em] at this
    exact this
  have r := ROs.ofL (K := K) (Hb := Hb) (H := H) ((L.set j y).set m x) (fun z hz => h5 z (pm.mem_iff.mp hz)) ((pm.pairwise_iff fun {a b} (h : Disj a.2.2 b.2.2) => (fun c h1 h2 => h c h2 h1 : Disj b.2.2 a.2.2)).mpr h6)
  have e1 : ((L.set j y).set m x).map (·.1) = ((L.map (·.1)).set j y.1).set m x.1 := by rw [List.map_set, List.map_set]
  have e2 : ((L.set j y).set m x).map (·.2.1) = ((L.map (·.2.1)).set j y.2.1).set m x.2.1 := by rw [List.map_set, List.map_set]
  refine ⟨(((L.set j y).set m x).map (·.2.2)).flatten, by rw [← e1, ← e2]; exact r, fun a ha => ?_⟩
  obtain ⟨l, h7, h8⟩ := List.mem_flatten.mp ha
  obtain ⟨z, h9, rfl⟩ := List.mem_map.mp h7
  exact List.mem_flatten.mpr ⟨_, List.mem_map_of_mem (pm.mem_iff.mp h9), h8⟩
theorem ROs.erase : ∀ {vs : List V} {os : List Ow} {f : List Addr} {n : Nat} {o : Ow}, ROs K Hb H vs os f → os[n]? = some o → ∃ w f0 g, vs[n]? = some w ∧ RO K Hb H w o f0 ∧ ROs K Hb H (vs.eraseIdx n) (os.eraseIdx n) g ∧ (∀ a ∈ f0, a ∈ f) ∧ (∀ a ∈ g, a ∈ f) ∧ Disj f0 g
  | [], [], _, n, o, .nil, h => by simp at h
  | v :: vs, o0 :: os, _, 0, o, .cons (f1 := f1) (f2 := f2) r t dj, h => by
    cases h
    exact ⟨v, f1, f2, rfl, r, t, fun a h => List.mem_append_left _ h, fun a h => List.mem_append_right _ h, dj⟩
  | v :: vs, o0 :: os, _, n + 1, o, .cons (f1 := f1) (f2 := f2) r t dj, h => by
    obtain ⟨w, f0, g, h1, h2, h3, h4, h5, h6⟩ := ROs.erase (n := n) t (by simpa using h)
    refine ⟨w, f0, f1 ++ g, by simpa using h1, h2, .cons r h3 fun a ha hb => dj a ha (h5 a hb), fun a ha => List.mem_append_right _ (h4 a ha), fun a ha => (List.mem_append.mp ha).elim (fun h => List.mem_append_left _ h) fun h => List.mem_append_right _ (h5 a h), fun a ha hb => ?_⟩
    rcases List.mem_append.mp hb with hb | hb
    · exact dj a hb (h4 a ha)
    · exact h6 a ha hb
theorem swp_t {C : CallS} {gv : Nat → Option WM.D} {i a b : Nat} (h : tS K bp W cls (ex C gv (.swp i a b)) D σ H) : tAsg (tTup (tCons (tOp (rIxL K) (tVar i) (tVar b)) (tCons (tOp (rIxL K) (tVar i) (tVar a)) tNil))) (gTup K 2 (gCons (gSub (tVar i) (tVar a) rSetL) (gCons (gSub (tVar i) (tVar b) rSetL) gNil))) D σ H := by
  obtain ⟨Z, fpf, Hb, ρ, S, q⟩ := h
  simp only [ex] at q
  split at q
  · rename_i ρ1 hsw
    unfold swpO at hsw
    obtain ⟨os, h1, hsw⟩ := Option.bind_eq_some_iff.mp hsw
    obtain ⟨k, h2, hsw⟩ := Option.bind_eq_some_iff.mp hsw
    obtain ⟨l, h3, hsw⟩ := Option.bind_eq_some_iff.mp hsw
    obtain ⟨j, h4, hsw⟩ := Option.bind_eq_some_iff.mp hsw
    obtain ⟨m, h5, hsw⟩ := Option.bind_eq_some_iff.mp hsw
    obtain ⟨o1, h6, hsw⟩ := Option.bind_eq_some_iff.mp hsw
    obtain ⟨o2, h7, hb⟩ := Option.bind_eq_some_iff.mp hsw
    obtain ⟨w, g1, g2, _⟩ := ownL_some S h1
    obtain ⟨p, vs, f, rfl, hp, hs, hf, hpf, hn⟩ := g2.sub
    have a1 := iAt_some S h2
    have a2 := iAt_some S h3
    obtain ⟨v1, f1, e1, _, _⟩ := hs.get h6
    obtain ⟨v2, f2, e2, _, _⟩ := hs.get h7
    have hl := hs.length
    refine ⟨.ref p, g1, .int l, a2, p, vs, l, v2, rfl, rfl, SqL.of hp, atI_ixN hl h5 e2, ?_⟩
    refine ⟨.ref p, g1, .int k, a1, p, vs, k, v1, rfl, rfl, SqL.of hp, atI_ixN hl h4 e1, ?_⟩
    refine ⟨by show 2 ≤ sizeLine; decide, fun t ht => ?_⟩
    have np : p ≠ t := fun e => by rw [e, ht] at hp; cases hp
    refine ⟨t, [v2, v1], rfl, SqT.of upd_same, rfl, v2, [v1], rfl, .ref p, g1, .int k, a1, p, vs, k, j, rfl, rfl, by rw [upd_ne np]; exact hp, by rw [hl]; exact h4, ?_⟩
    refine ⟨v1, [], rfl, .ref p, g1, .int l, a2, p, vs.set j v2, l, m, rfl, rfl, upd_same, by rw [List.length_set, hl]; exact h5, rfl, ?_⟩
    rw [upd_upd]
    have S1 := S.new (o := .tup [v2, v1]) ht
    have hs1 : ROs K Hb (upd (upd H t (.tup [v2, v1])) p (.lst ((vs.set j v2).set m v1))) vs os f := ROs.mono (fun _ _ e => e) _ _ _ (fun a ha => ⟨by
      have q1 : a ≠ p := fun e => hpf (e ▸ ha)
      have q2 : a ≠ t := fun e => (hs.at_ a ha).2 (by rw [e]; exact ht)
      rw [upd_ne q1, upd_ne q2], (hs.at_ a ha).1⟩) hs
    obtain ⟨g, k1, k2⟩ := ROs.swap hs1 h6 h7 e1 e2
    have pin : p ∈ fpf i := by rw [hf]; exact List.mem_cons_self
    have rr : RO K Hb (upd (upd H t (.tup [v2, v1])) p (.lst ((vs.set j v2).set m v1))) (.ref p) (.l ((os.set j o2).set m o1)) (p :: g) := .l hn upd_same k1 fun hm => hpf (k2 p hm)
    have gin : ∀ a ∈ p :: g, a ∈ fpf i := fun a ha => by
      rw [hf]
      rcases List.mem_cons.mp ha with rfl | ha
      · exact List.mem_cons_self
      · exact List.mem_cons_of_mem _ (k2 a ha)
    have S3 := own_mut S1 h1 hb g1 pin rr (fun a ha => S1.nf i a (gin a ha)) fun j' hj' a ha hb => S1.sep j' i hj' a ha (gin a hb)
    exact q Hb _ σ _ (fun _ _ e => e) S3
  · exact q.elim
theorem app_in {i : Nat} {os : List Ow} {o : Ow} {p : Addr} (S1 : StR K all1 bp Z fpf Hb H σ ρ) (h2 : ownL ρ i = some os) (hw : σ[i]? = some (some (.ref p))) (ro : RVl K Z fpf Hb H v (.ow o) fp) (hb : backL ρ i (os ++ [o]) = some ρ') :
    ∃ vs, H p = some (.lst vs) ∧ vs.length = os.length ∧ ∃ fpf', StR K all1 bp Z fpf' Hb (upd H p (.lst (vs ++ [v]))) σ ρ' := by
  obtain ⟨w', g1, g2, _⟩ := ownL_some S1 h2
  rw [hw] at g1; cases g1
  obtain ⟨p', vs, f, ep, hp, hs, hf, hpf, hn⟩ := g2.sub
  cases ep
  have pin : p ∈ fpf i := by rw [hf]; exact List.mem_cons_self
  refine ⟨vs, hp, hs.length, ?_⟩
  have hs' : ROs K Hb (upd H p (.lst (vs ++ [v]))) vs os f := ROs.mono (fun _ _ e => e) _ _ _ (fun a ha => ⟨upd_ne fun e => hpf (e ▸ ha), (hs.at_ a ha).1⟩) hs
  have ro' : RO K Hb (upd H p (.lst (vs ++ [v]))) v o fp := RO.mono (fun _ _ e => e) _ _ _ (fun a ha => ⟨upd_ne fun e => ro.2.2 i p pin (e ▸ ha), (ro.1.at_ a ha).1⟩) ro.1
  have m3 := ROs.app hs' (ROs.cons ro' ROs.nil fun _ _ h => (nomatch h)) fun a h1 h2 => ro.2.2 i a (by rw [hf]; exact List.mem_cons_of_mem _ h1) (by simpa using h2)
  have k2 : ∀ a ∈ f ++ (fp ++ []), a ∈ f ∨ a ∈ fp := fun a ha => (List.mem_append.mp ha).imp id (by simp)
  have rr : RO K Hb (upd H p (.lst (vs ++ [v]))) (.ref p) (.l (os ++ [o])) (p :: (f ++ (fp ++ []))) := .l hn upd_same m3 fun hm => (k2 p hm).elim hpf fun h => ro.2.2 i p pin h
  refine ⟨_, own_mut S1 h2 hb hw pin rr (fun a ha => ?_) fun j' hj' a ha hb => ?_⟩
  · rcases List.mem_cons.mp ha with rfl | ha
    · exact S1.nf i _ pin
    · exact (k2 a ha).elim (fun h => S1.nf i a (by rw [hf]; exact List.mem_cons_of_mem _ h)) (ro.2.1 a)
  · rcases List.mem_cons.mp hb with rfl | hb
    · exact S1.sep j' i hj' _ ha pin
    · exact (k2 a hb).elim (fun h => S1.sep j' i hj' a ha (by rw [hf]; exact List.mem_cons_of_mem _ h)) (ro.2.2 j' a ha)
theorem apop_t {C : CallS} {gv : Nat → Option WM.D} {ms : List Nat} {i j : Nat} {e : IE} (h : tS K bp W cls (ex C gv (.apop ms i j e)) D σ H) : tDrop (tBM K "list" rAppend (tVar i) (tCons (tBM K "list" rPopAt (tVar j) (tCons (tE K (Mof ms) bp W cls (ev C gv (Mof ms) e)) tNil)) tNil)) D σ H := by
  obtain ⟨Z, fpf, Hb, ρ, S, q⟩ := h
  simp only [ex] at q
  split at q
  · exact q.elim
  rename_i hown
  rw [Bool.or_eq_true, not_or] at hown
  obtain ⟨os0, hos⟩ := own_is hown.1
  obtain ⟨ps0, hps⟩ := own_is hown.2
  obtain ⟨w, hw, hr, _⟩ := ownL_some S hos
  obtain ⟨p, vs0, f0, rfl, hp0, _, _, _, _⟩ := hr.sub
  obtain ⟨w2, hw2, hr2, _⟩ := ownL_some S hps
  obtain ⟨p2, vs2, f2, rfl, hp2, _, _, _, _⟩ := hr2.sub
  refine ⟨_, hw, tyL hp0, _, hw2, tyL hp2, ?_⟩
  show tE K (Mof ms) bp W cls (ev C gv (Mof ms) e) σ H fun y H2 => rPopAt (.ref p2) [y] H2 fun z H3 => rAppend (.ref p) [z] H3 fun _ H4 => D.nx σ H4
  refine evX_ok S ((Pst.thn q).imp fun x ρ1 fpf1 Hb1 H1 er e1 S1 q v fp r => ?_)
  have q2 := q ρ1 er S1
  clear q
  split at q2
  · rename_i ρ2 hap
    unfold apopO at hap
    split at hap
    · cases hap
    rename_i hij
    obtain ⟨k, h1, hap⟩ := Option.bind_eq_some_iff.mp hap
    obtain ⟨ps, h2, hap⟩ := Option.bind_eq_some_iff.mp hap
    obtain ⟨n, h3, hap⟩ := Option.bind_eq_some_iff.mp hap
    obtain ⟨o, h4, hap⟩ := Option.bind_eq_some_iff.mp hap
    split at hap
    · rename_i hsm
      obtain ⟨ρ3, h5, hap⟩ := Option.bind_eq_some_iff.mp hap
      obtain ⟨os, h6, hap⟩ := Option.bind_eq_some_iff.mp hap
      split at hap
      · rename_i hsm2
        have hv := vInt_some h1 r
        subst hv
        obtain ⟨w', g1, g2, _⟩ := ownL_some S1 h2
        rw [hw2] at g1; cases g1
        obtain ⟨p', vs, f, ep, hp, hs, hf, hpf, hn⟩ := g2.sub
        cases ep
        obtain ⟨w, c0, g, d1, d2, d3, d4, d5, d6⟩ := ROs.erase hs h4
        obtain ⟨s1, s2, s3, s4⟩ := ixN_seq h3
        have hsl : ps.length < 2 ^ 62 := Nat.lt_of_le_of_lt (of_decide_eq_true hsm) (by decide)
        refine ⟨p2, vs, k, n, w, rfl, rfl, hp, by omega, by omega, by rw [hs.length]; exact s1, d1, ?_⟩
        have pin : p2 ∈ fpf1 j := by rw [hf]; exact List.mem_cons_self
        have d3' : ROs K Hb1 (upd H1 p2 (.lst (vs.eraseIdx n))) (vs.eraseIdx n) (ps.eraseIdx n) g := ROs.mono (fun _ _ e => e) _ _ _ (fun a ha => ⟨upd_ne fun e => hpf (e ▸ d5 a ha), (d3.at_ a ha).1⟩) d3
        have d2' : RO K Hb1 (upd H1 p2 (.lst (vs.eraseIdx n))) w o c0 := RO.mono (fun _ _ e => e) _ _ _ (fun a ha => ⟨upd_ne fun e => hpf (e ▸ d4 a ha), (d2.at_ a ha).1⟩) d2
        have rr : RO K Hb1 (upd H1 p2 (.lst (vs.eraseIdx n))) (.ref p2) (.l (ps.eraseIdx n)) (p2 :: g) := .l hn upd_same d3' fun hm => hpf (d5 p2 hm)
        have gin : ∀ a ∈ p2 :: g, a ∈ fpf1 j := fun a ha => by
          rw [hf]
          rcases List.mem_cons.mp ha with rfl | ha
          · exact List.mem_cons_self
          · exact List.mem_cons_of_mem _ (d5 a ha)
        have cin : ∀ a ∈ c0, a ∈ fpf1 j := fun a ha => by rw [hf]; exact List.mem_cons_of_mem _ (d4 a ha)
        have S2 := own_mut S1 h2 h5 hw2 pin rr (fun a ha => S1.nf j a (gin a ha)) fun j' hj' a ha hb => S1.sep j' j hj' a ha (gin a hb)
        have rv : RVl K Z (fun j' => if j' = j then p2 :: g else fpf1 j') Hb1 (upd H1 p2 (.lst (vs.eraseIdx n))) w (.ow o) c0 := by
          refine ⟨d2', fun a ha => S1.nf j a (cin a ha), fun j' a ha hb => ?_⟩
          try dsimp only at ha
          split at ha
          · rcases List.mem_cons.mp ha with rfl | ha
            · exact hpf (d4 _ hb)
            · exact d6 a hb ha
          · rename_i e
            exact S1.sep j' j e a ha (cin a hb)
        obtain ⟨vs3, b1, b2, fpf3, S3⟩ := app_in S2 h6 hw rv hap
        exact ⟨p, vs3, w, rfl, rfl, b1, by rw [b2]; exact small_lt hsm2, q2 Hb1 _ σ _ (fun _ _ e => e) S3⟩
      · cases hap
    · cases hap
  · exact q2.elim
theorem colD_get {b : Int} {d : WM.D} : ∀ {os os' : List Ow}, colD b d os = some os' → os'.length = os.length ∧ ∀ k, k < os.length → ∃ ps b', os[k]? = some (.l ps) ∧ ixN ps.length b = some b' ∧ os'[k]? = some (.l (ps.set b' (.d d)))
  | [], _, h => by cases h; exact ⟨rfl, fun k hk => (Nat.not_lt_zero k hk).elim⟩
  | .l ps :: os, _, h => by
    obtain ⟨b', h1, h⟩ := Option.bind_eq_some_iff.mp (show (ixN ps.length b).bind _ = some _ from h)
    obtain ⟨r, h2, h⟩ := Option.map_eq_some_iff.mp h
    cases h
    obtain ⟨l, g⟩ := colD_get h2
    refine ⟨by simp [l], fun k hk => ?_⟩
    cases k with
    | zero => exact ⟨ps, b', rfl, h1, rfl⟩
    | succ k =>
      obtain ⟨qs, c, g1, g2, g3⟩ := g k (by simpa using hk)
      exact ⟨qs, c, by simpa using g1, g2, by simpa using g3⟩
  | .d _ :: _, _, h => by cases h
theorem colD_mut {i a' b' : Nat} {os ps : List Ow} {d : WM.D} {v : V} (hv : Rp K Hb v d) (S2 : StR K all1 bp Z fpf Hb H σ ρ) (h4 : ownL ρ i = some os) (hoa : os[a']? = some (.l ps)) : ∃ p vs q vs2, σ[i]? = some (some (.ref p)) ∧ H p = some (.lst vs) ∧ vs.length = os.length ∧ vs[a']? = some (.ref q) ∧ H q = some (.lst vs2) ∧ vs2.length = ps.length ∧
    ∀ ρ', backL ρ i (os.set a' (.l (ps.set b' (.d d)))) = some ρ' → ∃ fpf', StR K all1 bp Z fpf' Hb (upd H q (.lst (vs2.set b' v))) σ ρ' := by
  obtain ⟨w', g1, g2, g3⟩ := ownL_some S2 h4
  obtain ⟨p, vs, f, rfl, hp, hs, hf, hpf, hn⟩ := g2.sub
  obtain ⟨w2, f2, k1, k2, k3, k4⟩ := ROs.out hs hoa
  obtain ⟨q2, vs2, f3, rfl, hp2, hs2, hf2, hpf2, hn2⟩ := k2.sub
  have q2f : q2 ∈ f := k3 q2 (by rw [hf2]; exact List.mem_cons_self)
  have q2i : q2 ∈ fpf i := by rw [hf]; exact List.mem_cons_of_mem _ q2f
  have f3i : ∀ c ∈ f3, c ∈ fpf i := fun c hc => by rw [hf]; exact List.mem_cons_of_mem _ (k3 c (by rw [hf2]; exact List.mem_cons_of_mem _ hc))
  refine ⟨p, vs, q2, vs2, g1, hp, hs.length, k1, hp2, hs2.length, fun ρ' hb => ?_⟩
  have hs' : ROs K Hb (upd H q2 (.lst (vs2.set b' v))) vs2 ps f3 := ROs.mono (fun _ _ e => e) _ _ _ (fun a ha => ⟨upd_ne fun e => hpf2 (e ▸ ha), (hs2.at_ a ha).1⟩) hs2
  obtain ⟨g, m1, m2⟩ := ROs.set (j := b') hs' (.d hv) fun a h1 h2 => (nomatch h2)
  have m2 : ∀ a ∈ g, a ∈ f3 := fun a ha => (m2 a ha).elim id fun h => (nomatch h)
  have rr2 : RO K Hb (upd H q2 (.lst (vs2.set b' v))) (.ref q2) (.l (ps.set b' (.d d))) (q2 :: g) := .l hn2 upd_same m1 fun hm => hpf2 (m2 q2 hm)
  obtain ⟨g', n1, n2⟩ := k4 Hb (upd H q2 (.lst (vs2.set b' v))) (.ref q2) (.l (ps.set b' (.d d))) (q2 :: g) (fun _ _ e => e) (fun a ha hf' => ⟨upd_ne fun e => hf' (by rw [hf2, e]; exact List.mem_cons_self), (hs.at_ a ha).1⟩) rr2 (fun a ha haf => by
    rw [hf2]
    rcases List.mem_cons.mp ha with rfl | ha
    · exact List.mem_cons_self
    · exact List.mem_cons_of_mem _ (m2 a ha))
  have ev : vs.set a' (.ref q2) = vs := by
    refine List.ext_getElem? fun j => ?_
    by_cases e : j = a'
    · subst e; rw [List.getElem?_set_self (List.getElem?_eq_some_iff.mp k1).1, k1]
    · rw [List.getElem?_set_ne (Ne.symm e)]
  rw [ev] at n1
  have pq : p ≠ q2 := fun e => hpf (e ▸ q2f)
  have cov : ∀ a ∈ g', a ∈ fpf i := fun a ha => by
    rcases n2 a ha with h | h
    · rw [hf]; exact List.mem_cons_of_mem _ h
    · rcases List.mem_cons.mp h with rfl | h
      · exact q2i
      · exact f3i a (m2 a h)
  have pin : p ∈ fpf i := by rw [hf]; exact List.mem_cons_self
  have rr : RO K Hb (upd H q2 (.lst (vs2.set b' v))) (.ref p) (.l (os.set a' (.l (ps.set b' (.d d))))) (p :: g') := .l hn (by rw [upd_ne pq]; exact hp) n1 fun hm => by
    rcases n2 p hm with h | h
    · exact hpf h
    · rcases List.mem_cons.mp h with h | h
      · exact pq h
      · exact hpf (k3 p (by rw [hf2]; exact List.mem_cons_of_mem _ (m2 p h)))
  refine ⟨_, own_mut S2 h4 hb g1 q2i rr (fun a ha => ?_) fun j' hj' a ha hb => ?_⟩
  · rcases List.mem_cons.mp ha with rfl | ha
    · exact S2.nf i _ pin
    · exact S2.nf i a (cov a ha)
  · rcases List.mem_cons.mp hb with rfl | hb
    · exact S2.sep j' i hj' _ ha pin
    · exact S2.sep j' i hj' a ha (cov a hb)
theorem colt_t {C : CallS} {gv : Nat → Option WM.D} {i r g : Nat} {a0 b0 : Int} (h : tS K bp W cls (ex C gv (.colt i r g a0 b0)) D σ H) : tFor (iList K (tVar i)) (tgR K (.n r)) (tAsg (tTup (tCons (tC (.int a0)) (tCons (tC (.int b0)) tNil))) (gSub (tVar r) (tVar g) rSetL)) D σ H := by
  obtain ⟨Z, fpf, Hb, ρ, S, q⟩ := h
  simp only [ex] at q
  split at q
  case isFalse => exact q.elim
  rename_i hr
  split at q
  case h_2 => exact q.elim
  rename_i ρ' hc
  unfold coltS at hc
  obtain ⟨os, hos, hc⟩ := Option.bind_eq_some_iff.mp hc
  obtain ⟨b, hb, hc⟩ := Option.bind_eq_some_iff.mp hc
  obtain ⟨os', ho', hbk⟩ := Option.bind_eq_some_iff.mp hc
  have S0 := S.dropS r
  have hr0 : (ρ.set r .no)[r]? = some .no := List.getElem?_set_self hr
  have hri : r ≠ i := fun e => by unfold ownL at hos; rw [← e, hr0] at hos; cases hos
  have hrg : r ≠ g := fun e => by unfold iAt at hb; rw [← e, hr0] at hb; cases hb
  obtain ⟨w, hw, hro, _⟩ := ownL_some S0 hos
  obtain ⟨p, vs, f, rfl, hp, hs, _⟩ := hro.sub
  obtain ⟨len', get'⟩ := colD_get ho'
  refine ⟨.ref p, hw, p, rfl, ⟨vs, SqL.of hp⟩, ?_⟩
  refine ⟨fun k m σ' H' => k ≤ os.length ∧ m = os.length - k ∧ σ'[i]? = some (some (.ref p)) ∧ ∃ Hbk fpf' L ρk, Same Hb Hbk ∧ StR K all1 bp Z fpf' Hbk H' σ' ρk ∧ ownL ρk i = some L ∧ (∀ M, backL ρk i M = backL (ρ.set r .no) i M) ∧ ρk[r]? = some .no ∧ iAt ρk g = some b ∧ L.length = os.length ∧ (∀ j, j < k → L[j]? = os'[j]?) ∧ ∀ j, k ≤ j → L[j]? = os[j]?,
    ⟨os.length, Nat.zero_le _, rfl, hw, _, _, os, _, fun _ _ e => e, S0, hos, fun _ => rfl, hr0, hb, rfl, fun j hj => (Nat.not_lt_zero j hj).elim, fun j _ => rfl⟩, ?_⟩
  rintro k m σ2 H2 ⟨hk, rfl, hp2, Hbk, fpf2, L, ρk, hsb, Sk, hL, hM, hrk, hgk, lenL, lo, hi⟩
  by_cases hlt : k < os.length
  · obtain ⟨ps, b', g1, g2, g3⟩ := get' k hlt
    have hLk : L[k]? = some (.l ps) := (hi k (Nat.le_refl k)).trans g1
    obtain ⟨p', vs', q', vs2, e1, e2, e3, e4, e5, e6, e7⟩ := colD_mut (b' := b') (d := .non) .non Sk hL hLk
    rw [hp2] at e1; cases e1
    refine .inr ⟨⟨vs', _, SqL.of e2, e4⟩, fun σ' H' => k + 1 ≤ os.length ∧ σ'[i]? = some (some (.ref p)) ∧ ∃ Hbk fpf' L ρk, Same Hb Hbk ∧ StR K all1 bp Z fpf' Hbk H' σ' ρk ∧ ownL ρk i = some L ∧ (∀ M, backL ρk i M = backL (ρ.set r .no) i M) ∧ ρk[r]? = some .no ∧ iAt ρk g = some b ∧ L.length = os.length ∧ (∀ j, j < k + 1 → L[j]? = os'[j]?) ∧ ∀ j, k + 1 ≤ j → L[j]? = os[j]?, fun σ' H' hw => ⟨_, by omega, hw.1, rfl, hw.2⟩, ?_⟩
    rintro x H3 ⟨rfl, hx⟩
    have ex : x = .ref q' := by have := hx vs' (SqL.of e2); rw [e4] at this; exact (Option.some.inj this).symm
    subst ex
    refine ⟨by show 2 ≤ sizeLine; decide, fun t ht => ?_⟩
    clear e7
    have Sk2 := Sk.newF (o := .tup [.int a0, .int b0]) ht
    have np : p ≠ t := fun e => by rw [e, ht] at e2; cases e2
    have hv : Rp K (upd Hbk t (.tup [.int a0, .int b0])) (.ref t) (.tup [.int a0, .int b0]) := .tup (SqT.of upd_same) (.cons (.int _) (.cons (.int _) .nil))
    obtain ⟨p3, vs3, q3, vs4, y1, y2, y3, y4, y5, y6, e7⟩ := colD_mut (b' := b') hv Sk2 hL hLk
    rw [hp2] at y1; cases y1
    rw [upd_ne np, e2] at y2; cases y2
    rw [e4] at y4; cases y4
    obtain ⟨ρn, hρn⟩ := (own_back hL).2 (L.set k (.l (ps.set b' (.d (.tup [.int a0, .int b0])))))
    obtain ⟨fn, Sn⟩ := e7 ρn hρn
    obtain ⟨b1, b2, b3⟩ := back_own hρn
    have hlr : r < σ2.length := by
      have := (List.getElem?_eq_some_iff.mp hrk).1
      rwa [Sk.len] at this
    have hgv : (σ2.set r (some (.ref q')))[g]? = some (some (.int b)) := by
      rw [List.getElem?_set_ne hrg]; exact iAt_some Sk hgk
    refine ⟨.ref q', List.getElem?_set_self hlr, .int b, hgv, q', vs4, b, b', rfl, rfl, y5, by rw [y6]; exact g2, ?_⟩
    refine ⟨hlt, ?_, _, fn, _, ρn, fun x o e => same_upd (Sk.un ht) x o (hsb x o e), Sn.setNo ((b3 r hri).trans hrk), b1, fun M => (b2 M).trans (hM M), (b3 r hri).trans hrk, ?_, by rw [List.length_set]; exact lenL, fun j hj => ?_, fun j hj => ?_⟩
    · rw [List.getElem?_set_ne hri]; exact hp2
    · have hgi : g ≠ i := fun e => by
        unfold iAt at hgk; unfold ownL at hL
        rw [e] at hgk
        split at hgk
        · rename_i h0; rw [h0] at hL; cases hL
        · cases hgk
      unfold iAt at hgk ⊢
      rw [b3 g hgi]; exact hgk
    · by_cases e : j = k
      · subst e; rw [List.getElem?_set_self (by omega), g3]
      · rw [List.getElem?_set_ne (Ne.symm e)]; exact lo j (by omega)
    · rw [List.getElem?_set_ne (by omega)]; exact hi j (by omega)
  · have hk' : k = os.length := by omega
    subst hk'
    obtain ⟨w', g1, g2, _⟩ := ownL_some Sk hL
    rw [hp2] at g1; cases g1
    obtain ⟨p', vs', f', ep, hp', hs', _⟩ := g2.sub
    cases ep
    refine .inl ⟨⟨vs', SqL.of hp', by rw [hs'.length, lenL]; exact Nat.le_refl _⟩, ?_⟩
    have eL : L = os' := List.ext_getElem? fun j => by
      by_cases hj : j < os.length
      · exact lo j hj
      · rw [List.getElem?_eq_none (by omega), List.getElem?_eq_none (by omega)]
    subst eL
    have : ρk = ρ' := Option.some.inj ((own_back hL).1.symm.trans ((hM L).trans hbk))
    subst this
    exact q Hbk H2 σ2 fpf2 hsb Sk
end
end WM

/-! WM: the syntax of statements; a suite runs as the evaluator says. -/
namespace WM
open PySem PySem.Spec PyProof.Rows L2

/-! ### syntax -/
def notLc : Expr → Bool
  | .ListComp .. => false
  | _ => true
def notTup : Expr → Bool
  | .Tuple .. => false
  | _ => true
def locN (sc : Scope) (x : Str) : Bool := decide (sc.names.lookup x = some .local)
/-- name = [.. for ..]: stored while the block stands -/
def lcSwap (sc : Scope) (x : Str) (px : Pos) (e : Expr) : Bool :=
  match e with
  | .ListComp _ _ s _ => locN sc x && decide (px.line = e.pos.line) && !(s.names.any fun (n, k) => n == x && (k == .local || k == .cell))
  | _ => false
def noSwapT (sc : Scope) (es : List Expr) (e : Expr) : Bool :=
  match e with
  | .Tuple vs _ _ => (es.any fun y => match y with | .Name x _ => !locN sc x | _ => true) || vs.all (foldedForSure 8)
  | _ => true
def vName : Stmt → Option (Str × Pos × Expr × Pos)
  | .Assign ts e pos => match ts with
    | [] => none
    | t :: r => match r with
      | [] => match t with
        | .Name x px => some (x, px, e, pos)
        | _ => none
      | _ => none
  | _ => none
theorem vName_some {st : Stmt} {x : Str} {px pos : Pos} {e : Expr} (h : vName st = some (x, px, e, pos)) : st = .Assign [.Name x px] e pos := by
  unfold vName at h
  repeat (split at h; all_goals first | (cases h; done) | skip)
  all_goals (cases h; rfl)
def vTup : Stmt → Option (List Expr × Nat × Pos × Expr × Pos)
  | .Assign ts e pos => match ts with
    | [] => none
    | t :: r => match r with
      | [] => match t with
        | .Tuple es k p => some (es, k, p, e, pos)
        | _ => none
      | _ => none
  | _ => none
theorem vTup_some {st : Stmt} {es : List Expr} {k : Nat} {p pos : Pos} {e : Expr} (h : vTup st = some (es, k, p, e, pos)) : st = .Assign [.Tuple es k p] e pos := by
  unfold vTup at h
  repeat (split at h; all_goals first | (cases h; done) | skip)
  all_goals (cases h; rfl)
def vTwo : List Expr → Option (Expr × Expr)
  | [] => none
  | a :: r => match r with
    | [] => none
    | b :: q => match q with
      | [] => some (a, b)
      | _ => none
theorem vTwo_some {es : List Expr} {a b : Expr} (h : vTwo es = some (a, b)) : es = [a, b] := by
  unfold vTwo at h
  repeat (split at h; all_goals first | (cases h; done) | skip)
  all_goals (cases h; rfl)
def vNm : Expr → Option (Str × Pos)
  | .Name x p => some (x, p)
  | _ => none
theorem vNm_some {e : Expr} {x : Str} {p : Pos} (h : vNm e = some (x, p)) : e = .Name x p := by
  unfold vNm at h
  split at h <;> cases h
  rfl
def vTp : Expr → Option (List Expr × Nat × Pos)
  | .Tuple es k p => some (es, k, p)
  | _ => none
theorem vTp_some {e : Expr} {es : List Expr} {k : Nat} {p : Pos} (h : vTp e = some (es, k, p)) : e = .Tuple es k p := by
  unfold vTp at h
  split at h <;> cases h
  rfl
def vSub : Stmt → Option (Str × Pos × Expr × Pos × Expr × Pos)
  | .Assign ts e pos => match ts with
    | [] => none
    | t :: r => match r with
      | [] => match t with
        | .Subscript o iy p => match o with
          | .Name x px => some (x, px, iy, p, e, pos)
          | _ => none
        | _ => none
      | _ => none
  | _ => none
theorem vSub_some {st : Stmt} {x : Str} {px p pos : Pos} {iy e : Expr} (h : vSub st = some (x, px, iy, p, e, pos)) : st = .Assign [.Subscript (.Name x px) iy p] e pos := by
  unfold vSub at h
  repeat (split at h; all_goals first | (cases h; done) | skip)
  all_goals (cases h; rfl)
def vSub2 : Stmt → Option (Str × Pos × Expr × Pos × Str × Pos × Pos × Expr × Pos)
  | .Assign ts e pos => (match ts with
    | [t] => (match t with
      | .Subscript o z p => (match o with
        | .Subscript n iy p2 => (match n, z with
          | .Name x px, .Name y py => some (x, px, iy, p2, y, py, p, e, pos)
          | _, _ => none)
        | _ => none)
      | _ => none)
    | _ => none)
  | _ => none
theorem vSub2_some {st : Stmt} {x y : Str} {px p p2 py pos : Pos} {iy e : Expr} (h : vSub2 st = some (x, px, iy, p2, y, py, p, e, pos)) : st = .Assign [.Subscript (.Subscript (.Name x px) iy p2) (.Name y py) p] e pos := by
  unfold vSub2 at h
  repeat' split at h
  all_goals first | (cases h; done) | (cases h; rfl)
def vRse : Stmt → Option (Str × Pos × Str × Nat × Pos × Pos × Pos)
  | .Raise e c pos => (match e, c with
    | some e, none => (match e with
      | .Call f as ks cpos => (match f, as, ks with
        | .Name x px, [a], [] => (match a with
          | .Constant k j p2 => (match k with
            | .str m => some (x, px, m, j, p2, cpos, pos)
            | _ => none)
          | _ => none)
        | _, _, _ => none)
      | _ => none)
    | _, _ => none)
  | _ => none
theorem vRse_some {st : Stmt} {x m : Str} {j : Nat} {px p2 cpos pos : Pos} (h : vRse st = some (x, px, m, j, p2, cpos, pos)) : st = .Raise (some (.Call (.Name x px) [.Constant (.str m) j p2] [] cpos)) none pos := by
  unfold vRse at h
  repeat' split at h
  all_goals first | (cases h; done) | (cases h; rfl)
def vCall1 : Expr → Option (Str × Pos × Str × Pos × Pos)
  | .Call (.Name f p1) [.Name x p2] [] p3 => some (f, p1, x, p2, p3)
  | _ => none
theorem vCall1_some {e : Expr} {f x : Str} {p1 p2 p3 : Pos} (h : vCall1 e = some (f, p1, x, p2, p3)) : e = .Call (.Name f p1) [.Name x p2] [] p3 := by
  unfold vCall1 at h
  split at h
  · cases h; rfl
  · cases h
def vHand : ExceptHandler → Option (Str × Pos × Str × Stmt × Pos)
  | .ExceptHandler (some (.Name x p)) (some n) [st] pos => some (x, p, n, st, pos)
  | _ => none
theorem vHand_some {e : ExceptHandler} {x n : Str} {p pos : Pos} {st : Stmt} (h : vHand e = some (x, p, n, st, pos)) : e = .ExceptHandler (some (.Name x p)) (some n) [st] pos := by
  unfold vHand at h
  split at h
  · cases h; rfl
  · cases h
def vTry0 : Stmt → Option (List Stmt × ExceptHandler × Pos)
  | .Try body [h] [] [] pos => some (body, h, pos)
  | _ => none
theorem vTry0_some {st : Stmt} {body : List Stmt} {hd : ExceptHandler} {pos : Pos} (h : vTry0 st = some (body, hd, pos)) : st = .Try body [hd] [] [] pos := by
  unfold vTry0 at h
  split at h
  · cases h; rfl
  · cases h
/-- try: body, except x as n: y = f(n2) -/
def vTry (st : Stmt) : Option (List Stmt × Str × Str × Pos × Str × Str × Str × Pos × Pos) :=
  (vTry0 st).bind fun (body, hd, pos) => (vHand hd).bind fun (x, p, n, s1, hpos) => (vName s1).bind fun (y, py, e, spos) => (vCall1 e).bind fun (f, p1, n2, p2, p3) => some (body, x, n, pos, y, f, n2, p1, p2)
theorem vTry_some {st : Stmt} {r : List Stmt × Str × Str × Pos × Str × Str × Str × Pos × Pos} (h : vTry st = some r) : ∃ p py spos hpos p3 p1 p2 pos, st = .Try r.1 [.ExceptHandler (some (.Name r.2.1 p)) (some r.2.2.1) [.Assign [.Name r.2.2.2.2.1 py] (.Call (.Name r.2.2.2.2.2.1 p1) [.Name r.2.2.2.2.2.2.1 p2] [] p3) spos] hpos] [] [] pos := by
  unfold vTry at h
  obtain ⟨⟨body, hd, pos⟩, h1, h⟩ := Option.bind_eq_some_iff.mp h
  obtain ⟨⟨x, p, n, s1, hpos⟩, h2, h⟩ := Option.bind_eq_some_iff.mp h
  obtain ⟨⟨y, py, e, spos⟩, h3, h⟩ := Option.bind_eq_some_iff.mp h
  obtain ⟨⟨f, p1, n2, p2, p3⟩, h4, h⟩ := Option.bind_eq_some_iff.mp h
  have e1 := vTry0_some h1
  have e2 := vHand_some h2
  have e3 := vName_some h3
  have e4 := vCall1_some h4
  subst e1 e2 e3 e4
  cases h
  exact ⟨p, py, spos, hpos, p3, p1, p2, pos, rfl⟩
def vOne : List Expr → Option Expr
  | [] => none
  | a :: r => match r with
    | [] => some a
    | _ => none
theorem vOne_some {es : List Expr} {a : Expr} (h : vOne es = some a) : es = [a] := by
  unfold vOne at h
  repeat (split at h; all_goals first | (cases h; done) | skip)
  all_goals (cases h; rfl)
def vOneS : List Stmt → Option Stmt
  | [a] => some a
  | _ => none
theorem vOneS_some {es : List Stmt} {a : Stmt} (h : vOneS es = some a) : es = [a] := by
  unfold vOneS at h
  split at h
  · cases h; rfl
  · cases h
def vNil {α : Type} : List α → Bool
  | [] => true
  | _ => false
theorem vNil_true {α : Type} {xs : List α} (h : vNil xs = true) : xs = [] := by
  cases xs with
  | nil => rfl
  | cons _ _ => cases h
/-- x.m(e) -/
def vMeth : Stmt → Option (Str × Pos × Str × Pos × List Expr × List Keyword × Pos × Pos)
  | .Expr e pos => match e with
    | .Call f args kws cpos => match f with
      | .Attribute o m apos => match o with
        | .Name x px => some (x, px, m, apos, args, kws, cpos, pos)
        | _ => none
      | _ => none
    | _ => none
  | _ => none
theorem vMeth_some {st : Stmt} {x m : Str} {px apos cpos pos : Pos} {args : List Expr} {kws : List Keyword} (h : vMeth st = some (x, px, m, apos, args, kws, cpos, pos)) : st = .Expr (.Call (.Attribute (.Name x px) m apos) args kws cpos) pos := by
  unfold vMeth at h
  repeat (split at h; all_goals first | (cases h; done) | skip)
  all_goals (cases h; rfl)
def vAug : Stmt → Option (Str × Pos × Expr × Pos)
  | .AugAssign t op e pos => match op with
    | .Add => match t with
      | .Name x px => some (x, px, e, pos)
      | _ => none
    | _ => none
  | _ => none
theorem vAug_some {st : Stmt} {x : Str} {px pos : Pos} {e : Expr} (h : vAug st = some (x, px, e, pos)) : st = .AugAssign (.Name x px) .Add e pos := by
  unfold vAug at h
  repeat (split at h; all_goals first | (cases h; done) | skip)
  all_goals (cases h; rfl)
/-- for x in y: z[u] = w -/
def vCol : Stmt → Option (Str × Pos × Str × Pos × Str × Pos × Str × Pos × Pos × Const × Nat × Pos × Pos × Pos)
  | .For a b body els pos => (match vNm a, vNm b, vOneS body with
    | some (x, px), some (y, py), some st => if vNil els then (match vSub st with
      | some (z, pz, iu, p, e, pos2) => (match vNm iu, e with
        | some (u, pu), .Constant w j pw => some (x, px, y, py, z, pz, u, pu, p, w, j, pw, pos2, pos)
        | _, _ => none)
      | none => none) else none
    | _, _, _ => none)
  | _ => none
theorem vCol_some {st : Stmt} {x y z u : Str} {w : Const} {px py pz pu p pw pos2 pos : Pos} {j : Nat} (h : vCol st = some (x, px, y, py, z, pz, u, pu, p, w, j, pw, pos2, pos)) :
    st = .For (.Name x px) (.Name y py) [.Assign [.Subscript (.Name z pz) (.Name u pu) p] (.Constant w j pw) pos2] [] pos := by
  unfold vCol at h
  split at h
  · rename_i a b body els pos'
    split at h
    · rename_i x1 px1 y1 py1 st1 h1 h2 h3
      split at h
      · rename_i h4
        split at h
        · rename_i z1 pz1 iu p1 e pos3 h5
          split at h
          · rename_i u1 pu1 w1 j1 pw1 h6
            cases h
            rw [vNm_some h1, vNm_some h2, vOneS_some h3, vNil_true h4, vSub_some h5, vNm_some h6]
          · cases h
        · cases h
      · cases h
    · cases h
  · cases h
/-- two whole numbers, as a tuple -/
def vInt2 : Expr → Option (Int × Nat × Pos × Int × Nat × Pos × Nat × Pos)
  | .Tuple es k p => (match vTwo es with
    | some (l, r) => (match l, r with
      | .Constant (.int a) j1 p1, .Constant (.int b) j2 p2 => some (a, j1, p1, b, j2, p2, k, p)
      | _, _ => none)
    | none => none)
  | _ => none
theorem vInt2_some {e : Expr} {a b : Int} {j1 j2 k : Nat} {p1 p2 p : Pos} (h : vInt2 e = some (a, j1, p1, b, j2, p2, k, p)) : e = .Tuple [.Constant (.int a) j1 p1, .Constant (.int b) j2 p2] k p := by
  unfold vInt2 at h
  split at h
  · split at h
    · rename_i h1
      split at h
      · cases h
        rw [vTwo_some h1]
      · cases h
    · cases h
  · cases h
/-- for x in y: z[u] = (a, b) -/
def vColt : Stmt → Option (Str × Pos × Str × Pos × Str × Pos × Str × Pos × Pos × Int × Nat × Pos × Int × Nat × Pos × Nat × Pos × Pos × Pos)
  | .For a b body els pos => (match vNm a, vNm b, vOneS body with
    | some (x, px), some (y, py), some st => if vNil els then (match vSub st with
      | some (z, pz, iu, p, e, pos2) => (match vNm iu, vInt2 e with
        | some (u, pu), some (a, j1, p1, b, j2, p2, k, p3) => some (x, px, y, py, z, pz, u, pu, p, a, j1, p1, b, j2, p2, k, p3, pos2, pos)
        | _, _ => none)
      | none => none) else none
    | _, _, _ => none)
  | _ => none
theorem vColt_some {st : Stmt} {x y z u : Str} {a b : Int} {px py pz pu p p1 p2 p3 pos2 pos : Pos} {j1 j2 k : Nat} (h : vColt st = some (x, px, y, py, z, pz, u, pu, p, a, j1, p1, b, j2, p2, k, p3, pos2, pos)) :
    st = .For (.Name x px) (.Name y py) [.Assign [.Subscript (.Name z pz) (.Name u pu) p] (.Tuple [.Constant (.int a) j1 p1, .Constant (.int b) j2 p2] k p3) pos2] [] pos := by
  unfold vColt at h
  split at h
  · rename_i a b body els pos'
    split at h
    · rename_i x1 px1 y1 py1 st1 h1 h2 h3
      split at h
      · rename_i h4
        split at h
        · rename_i z1 pz1 iu p1 e pos3 h5
          split at h
          · rename_i u1 pu1 a1 j1' p1' b1 j2' p2' k' p3' h6 h7
            cases h
            rw [vNm_some h1, vNm_some h2, vOneS_some h3, vNil_true h4, vSub_some h5, vNm_some h6, vInt2_some h7]
          · cases h
        · cases h
      · cases h
    · cases h
  · cases h
section
variable (nm : Nm) (N : List Str)
def okMeth (m0 : Str) (i : Nat) (ie : IE) (sc : Scope) (st : Stmt) : Bool :=
  match vMeth st with
  | some (x, _, m, apos, args, kws, cpos, _) => (match vOne args with
    | some e => vNil kws && decide (m = m0) && isLoc N sc i x && okE nm N ie sc e && (apos.endLine == cpos.line)
    | none => false)
  | none => false
/-- (x, y) -/
def vPair : Expr → Option (Str × Pos × Str × Pos × Nat × Pos)
  | .Tuple es k p => (match es with
    | [a, b] => (match vNm a, vNm b with
      | some (x, px), some (y, py) => some (x, px, y, py, k, p)
      | _, _ => none)
    | _ => none)
  | _ => none
theorem vPair_some {e : Expr} {x y : Str} {px py p : Pos} {k : Nat} (h : vPair e = some (x, px, y, py, k, p)) : e = .Tuple [.Name x px, .Name y py] k p := by
  unfold vPair at h
  split at h
  · split at h
    · split at h
      · rename_i h1 h2
        cases h
        rw [vNm_some h1, vNm_some h2]
      · cases h
    · cases h
  · cases h
def okDset (i j : Nat) (ie : IE) (sc : Scope) (st : Stmt) : Bool :=
  match vSub st with
  | some (x, _, iy, _, e, _) => (match vNm iy with
    | some (y, _) => isLoc N sc i x && isLoc N sc j y && okE nm N ie sc e && notLc e
    | none => false)
  | none => false
def okDput (i ja jb : Nat) (ie : IE) (sc : Scope) (st : Stmt) : Bool :=
  match vSub st with
  | some (x, _, iy, _, e, _) => (match vPair iy with
    | some (y, _, z, _, _, _) => isLoc N sc i x && isLoc N sc ja y && isLoc N sc jb z && okE nm N ie sc e && notLc e
    | none => false)
  | none => false
theorem dset_inv {nm : Nm} {N : List Str} {i j : Nat} {ie : IE} {sc : Scope} {st : Stmt} (h : okDset nm N i j ie sc st = true) : ∃ x px y py p e pos, st = .Assign [.Subscript (.Name x px) (.Name y py) p] e pos ∧ (isLoc N sc i x && isLoc N sc j y && okE nm N ie sc e && notLc e) = true := by
  unfold okDset at h
  split at h
  · rename_i h1
    split at h
    · rename_i h2
      have e1 := vSub_some h1
      rw [vNm_some h2] at e1
      exact ⟨_, _, _, _, _, _, _, e1, h⟩
    · cases h
  · cases h
theorem dput_inv {nm : Nm} {N : List Str} {i ja jb : Nat} {ie : IE} {sc : Scope} {st : Stmt} (h : okDput nm N i ja jb ie sc st = true) : ∃ x px y py z pz k p2 p e pos, st = .Assign [.Subscript (.Name x px) (.Tuple [.Name y py, .Name z pz] k p2) p] e pos ∧ (isLoc N sc i x && isLoc N sc ja y && isLoc N sc jb z && okE nm N ie sc e && notLc e) = true := by
  unfold okDput at h
  split at h
  · rename_i h1
    split at h
    · rename_i h2
      have e1 := vSub_some h1
      rw [vPair_some h2] at e1
      exact ⟨_, _, _, _, _, _, _, _, _, _, _, e1, h⟩
    · cases h
  · cases h
/-- x[a] -/
def vSn : Expr → Option (Str × Pos × Str × Pos × Pos)
  | .Subscript l r p => (match vNm l, vNm r with
    | some (x, px), some (y, py) => some (x, px, y, py, p)
    | _, _ => none)
  | _ => none
theorem vSn_some {e : Expr} {x y : Str} {px py p : Pos} (h : vSn e = some (x, px, y, py, p)) : e = .Subscript (.Name x px) (.Name y py) p := by
  unfold vSn at h
  split at h
  · split at h
    · rename_i h1 h2
      cases h
      rw [vNm_some h1, vNm_some h2]
    · cases h
  · cases h
/-- x[a], x[b] = x[b], x[a] -/
def okSwp (i a b : Nat) (sc : Scope) (st : Stmt) : Bool :=
  match vTup st with
  | some (es, _, _, e, _) => (match vTwo es, vTp e with
    | some (t1, t2), some (vs, _, _) => (match vTwo vs with
      | some (l, r) => (match vSn t1, vSn t2, vSn l, vSn r with
        | some (x1, _, a1, _, _), some (x2, _, b1, _, _), some (x3, _, b2, _, _), some (x4, _, a2, _, _) => isLoc N sc i x1 && isLoc N sc i x2 && isLoc N sc i x3 && isLoc N sc i x4 && isLoc N sc a a1 && isLoc N sc a a2 && isLoc N sc b b1 && isLoc N sc b b2
        | _, _, _, _ => false)
      | none => false)
    | _, _ => false)
  | none => false
theorem swp_inv {N : List Str} {i a b : Nat} {sc : Scope} {st : Stmt} (o : okSwp N i a b sc st = true) : ∃ x1 a1 x2 b1 x3 b2 x4 a2 q1 q2 q3 q4 q5 q6 q7 q8 p1 p2 p3 p4 kt pt k2 p0 pos,
    st = .Assign [.Tuple [.Subscript (.Name x1 q1) (.Name a1 q2) p1, .Subscript (.Name x2 q3) (.Name b1 q4) p2] kt pt] (.Tuple [.Subscript (.Name x3 q5) (.Name b2 q6) p3, .Subscript (.Name x4 q7) (.Name a2 q8) p4] k2 p0) pos ∧
    (isLoc N sc i x1 && isLoc N sc i x2 && isLoc N sc i x3 && isLoc N sc i x4 && isLoc N sc a a1 && isLoc N sc a a2 && isLoc N sc b b1 && isLoc N sc b b2) = true := by
  unfold okSwp at o
  split at o
  · rename_i es kt pt e pos h1
    split at o
    · rename_i t1 t2 vs k2 p0 h2 h3
      split at o
      · rename_i l r h4
        split at o
        · rename_i x1 q1 a1 q2 p1 x2 q3 b1 q4 p2 x3 q5 b2 q6 p3 x4 q7 a2 q8 p4 h5 h6 h7 h8
          refine ⟨x1, a1, x2, b1, x3, b2, x4, a2, q1, q2, q3, q4, q5, q6, q7, q8, p1, p2, p3, p4, kt, pt, k2, p0, pos, ?_, o⟩
          rw [vTup_some h1, vTwo_some h2, vTp_some h3, vTwo_some h4, vSn_some h5, vSn_some h6, vSn_some h7, vSn_some h8]
        · cases o
      · cases o
    · cases o
  · cases o
/-- y.m(..) -/
def vMc : Expr → Option (Str × Pos × Str × Pos × List Expr × List Keyword × Pos)
  | .Call f args kws cpos => (match f with
    | .Attribute o m apos => (match o with
      | .Name x px => some (x, px, m, apos, args, kws, cpos)
      | _ => none)
    | _ => none)
  | _ => none
theorem vMc_some {e : Expr} {x m : Str} {px apos cpos : Pos} {args : List Expr} {kws : List Keyword} (h : vMc e = some (x, px, m, apos, args, kws, cpos)) : e = .Call (.Attribute (.Name x px) m apos) args kws cpos := by
  unfold vMc at h
  repeat (split at h; all_goals first | (cases h; done) | skip)
  all_goals (cases h; rfl)
def okPop (j : Nat) (ie : IE) (sc : Scope) (e1 : Expr) : Bool :=
  match vMc e1 with
  | some (y, _, m, apos, args, kws, cpos) => (match vOne args with
    | some e => vNil kws && decide (m = ("pop" : Str)) && isLoc N sc j y && okE nm N ie sc e && (apos.endLine == cpos.line)
    | none => false)
  | none => false
theorem pop_inv {nm : Nm} {N : List Str} {j : Nat} {ie : IE} {sc : Scope} {e1 : Expr} (o : okPop nm N j ie sc e1 = true) : ∃ y py apos e cpos, e1 = .Call (.Attribute (.Name y py) "pop" apos) [e] [] cpos ∧ isLoc N sc j y = true ∧ okE nm N ie sc e = true ∧ (apos.endLine == cpos.line) = true := by
  unfold okPop at o
  split at o
  · rename_i x px m apos args kws cpos h1
    split at o
    · rename_i e h2
      simp only [Bool.and_eq_true, decide_eq_true_eq] at o
      obtain ⟨⟨⟨⟨o1, o2⟩, o3⟩, o4⟩, o5⟩ := o
      refine ⟨x, px, apos, e, cpos, ?_, o3, o4, o5⟩
      rw [vMc_some h1, vOne_some h2, vNil_true o1, o2]
    · cases o
  · cases o
/-- x.append(y.pop(e)) -/
def okApop (i j : Nat) (ie : IE) (sc : Scope) (st : Stmt) : Bool :=
  match vMeth st with
  | some (x, _, m, apos, args, kws, cpos, _) => (match vOne args with
    | some e1 => vNil kws && decide (m = ("append" : Str)) && isLoc N sc i x && okPop nm N j ie sc e1 && (apos.endLine == cpos.line)
    | none => false)
  | none => false
theorem apop_inv {nm : Nm} {N : List Str} {i j : Nat} {ie : IE} {sc : Scope} {st : Stmt} (o : okApop nm N i j ie sc st = true) : ∃ x px apos e1 cpos pos, st = .Expr (.Call (.Attribute (.Name x px) "append" apos) [e1] [] cpos) pos ∧ isLoc N sc i x = true ∧ okPop nm N j ie sc e1 = true ∧ (apos.endLine == cpos.line) = true := by
  unfold okApop at o
  split at o
  · rename_i x px m apos args kws cpos pos h1
    split at o
    · rename_i e h2
      simp only [Bool.and_eq_true, decide_eq_true_eq] at o
      obtain ⟨⟨⟨⟨o1, o2⟩, o3⟩, o4⟩, o5⟩ := o
      refine ⟨x, px, apos, e, cpos, pos, ?_, o3, o4, o5⟩
      rw [vMeth_some h1, vOne_some h2, vNil_true o1, o2]
    · cases o
  · cases o
def okPar (i j : Nat) (a b : IE) (sc : Scope) (st : Stmt) : Bool :=
  match vTup st with
  | some (es, _, _, e, _) => (match vTwo es, vTp e with
    | some (t1, t2), some (vs, _, _) => (match vNm t1, vNm t2, vTwo vs with
      | some (x, px), some (y, py), some (l, r) => decide (N[i]? = some x) && decide (N[j]? = some y) && !decide (i = j) && locN sc x && locN sc y && okE nm N a sc l && okE nm N b sc r && decide (py.line = px.line) && !decide (x = y) && !([l, r].all (foldedForSure 8)) && !([l, r].all (constantsAlone 8))
      | _, _, _ => false)
    | _, _ => false)
  | none => false
mutual
def okS : IS → Scope → Stmt → Bool
  | .set ms fz t ie, sc, st => (match t with
    | .n i => (match vName st with
      | some (x, px, e, pos) => isSet N sc sc i x && okE nm N ie sc e && (notLc e || lcSwap sc x px e || !locN sc x)
      | none => false)
    | .t is => (match vTup st with
      | some (es, k, p, e, pos) => okTg N sc sc (.t is) (.Tuple es k p) && okE nm N ie sc e && noSwapT sc es e && notLc e
      | none => false))
  | .par ms i j a b, sc, st => okPar nm N i j a b sc st
  | .set1 ms i ix ie, sc, st => (match vSub st with
    | some (x, _, iy, _, e, _) => isLoc N sc i x && okE nm N ix sc iy && okE nm N ie sc e && plainIx iy
    | none => false)
  | .set2 ms i ix l ie, sc, st => (match vSub2 st with
    | some (x, _, iy, _, y, _, _, e, _) => isLoc N sc i x && okE nm N ix sc iy && isLoc N sc l y && okE nm N ie sc e && plainIx iy
    | none => false)
  | .swp i a b, sc, st => okSwp N i a b sc st
  | .apop ms i j ie, sc, st => okApop nm N i j ie sc st
  | .app ms i ie, sc, st => okMeth nm N "append" i ie sc st
  | .ext ms i ie, sc, st => okMeth nm N "extend" i ie sc st
  | .aug ms i ie, sc, st => (match vAug st with
    | some (x, _, e, _) => isSet N sc sc i x && okE nm N ie sc e
    | none => false)
  | .iff ms c a b, sc, st => (match st with
    | .If e p q pos => okE nm N c sc e && okSs a sc p && okSs b sc q
    | _ => false)
  | .forr ms t it b, sc, st => (match st with
    | .For tg iter body els pos => vNil els && okI nm N it sc iter tg && okTg N sc sc t tg && okSs b sc body
    | _ => false)
  | .whl n ms c b, sc, st => (match st with
    | .While e body els pos => vNil els && okE nm N c sc e && okSs b sc body
    | _ => false)
  | .ret ms ie, sc, st => (match st with
    | .Return e pos => (match e with
      | some e => okE nm N ie sc e
      | none => false)
    | _ => false)
  | .exp ms ie, sc, st => (match st with
    | .Expr e pos => okE nm N ie sc e && notLc e
    | _ => false)
  | .tryk ie ik b, sc, st => (match vTry st with
    | some (body, x, n, _, y, f, n2, _, _) => nm.kn && (decide (N[ie]? = some n) && locN sc n) && (decide (x = "MartError") && isGl sc x) && (decide (f = "_law_kinds") && isGl sc f) && (decide (n2 = n) && isLoc N sc ie n) && isSet N sc sc ik y && okSs b sc body
    | none => false)
  | .rse c, sc, st => (match vRse st with
    | some (x, _) => decide (nm.en c = some x) && isGl sc x
    | none => false)
  | .nev, sc, st => true
  | .dset ms i j ie, sc, st => okDset nm N i j ie sc st
  | .dput ms i ja jb ie, sc, st => okDput nm N i ja jb ie sc st
  | .colt i r g a b, sc, st => (match vColt st with
    | some (x, _, y, _, z, _, u, _, _, a', _, _, b', _, _, _, _, _, _) => isSet N sc sc r x && isLoc N sc i y && isLoc N sc r z && isLoc N sc g u && decide (a' = a) && decide (b' = b)
    | none => false)
  | .col i r g n, sc, st => (match vCol st with
    | some (x, _, y, _, z, _, u, _, _, w, _, _, _, _) => isSet N sc sc r x && isLoc N sc i y && isLoc N sc r z && isLoc N sc g u && okC (.int n) w
    | none => false)
def okSs : ISs → Scope → List Stmt → Bool
  | .nil, _, sts => vNil sts
  | .cons s ss, sc, sts => (match sts with
    | st :: sts => okS s sc st && okSs ss sc sts
    | [] => false)
  | .frz i ss, sc, sts => okSs ss sc sts
  | .kil is ss, sc, sts => okSs ss sc sts
  | .app2 ms i j k e ss, sc, sts => (match sts with
    | st :: r => (match r with
      | st2 :: r2 => okMeth nm N "append" i (.v j) sc st && okMeth nm N "append" k e sc st2 && okSs ss sc r2
      | [] => false)
    | [] => false)
end
end

/-! ### assignments -/
theorem swaps_no {e : Expr} {t : Option Expr} {l : Nat} {env : PySem.Env} {nm : Nm} {N : List Str} {ie : IE} {sc : Scope} (ok : okE nm N ie sc e = true) (h : notLc e = true) : swapsWith e t l env = pure false := by
  cases e with
  | ListComp _ _ _ _ => cases h
  | SetComp _ _ _ _ => cases ie <;> simp [okE, vM1, vRev] at ok
  | DictComp _ _ _ _ _ => cases ie <;> simp [okE, vM1, vRev] at ok
  | _ => rfl
theorem swapped_name {x : Str} {p : Pos} {e : Expr} {env : PySem.Env} : swappedStores [.Name x p] e env = pure none := by cases e <;> rfl
theorem swapped_sub {a b : Expr} {p : Pos} {e : Expr} {env : PySem.Env} : swappedStores [.Subscript a b p] e env = pure none := by cases e <;> rfl
theorem swaps_sub {a b : Expr} {p : Pos} {e : Expr} {l : Nat} {env : PySem.Env} : swapsWithSole [.Subscript a b p] e l env = pure false := by cases e <;> rfl
theorem swapped_tup {es : List Expr} {k : Nat} {p : Pos} {e : Expr} {env : PySem.Env} {sc : Scope} (hs : env.scope = sc) (h : noSwapT sc es e = true) : swappedStores [.Tuple es k p] e env = pure none := by
  cases e with
  | Tuple vs k2 p2 =>
    unfold noSwapT at h
    simp only [Bool.or_eq_true] at h
    unfold swappedStores
    dsimp only
    show (if _ then _ else _) = _
    split
    · rfl
    · show (if _ then _ else _) = _
      split
      · rfl
      · rcases h with h | h
        · rw [List.any_eq_true] at h
          obtain ⟨y, hy, hn⟩ := h
          have hlt : (List.filterMap (fun x => match x with
              | .Name id pos => if (env.kindOf id == some .local && pos.line == (Option.map (fun x => x.pos.line) es.head?).getD 0) = true then some id else none
              | _ => none) es).length < es.length := by
            rw [List.length_filterMap_lt_length_iff_exists]
            refine ⟨y, hy, ?_⟩
            cases y with
            | Name x q =>
              have hn : (!locN sc x) = true := hn
              have hk : (env.kindOf x == some .local) = false := by
                show (env.scope.names.lookup x == some .local) = false
                rw [hs]
                unfold locN at hn
                cases q2 : List.lookup x sc.names with
                | none => rfl
                | some kd =>
                  rw [q2] at hn
                  cases kd <;> first | rfl | (simp at hn; done)
              dsimp only
              rw [hk, Bool.false_and]; rfl
            | _ => rfl
          show (if _ then _ else _) = _
          rw [if_pos]
          · rw [Bool.or_eq_true]
            left
            rw [bne_iff_ne]
            exact Nat.ne_of_lt hlt
        · show (if _ then _ else _) = _
          split
          · rfl
          · first
              | rfl
              | (show (if _ then _ else _) = _
                 rw [if_pos h]
                 rfl)
  | _ => rfl
theorem swapped_par {x y : Str} {px py pt p2 : Pos} {kt k2} {l r : Expr} {env : PySem.Env} {sc : Scope} (hs : env.scope = sc) (hk : sc.kind = .function) (hx : locN sc x = true) (hy : locN sc y = true) (hl : py.line = px.line) (hxy : x ≠ y) (hf : ([l, r].all (foldedForSure 8)) = false) (hc : ([l, r].all (constantsAlone 8)) = false) (n1 : notStar l = true) (n2 : notStar r = true) :
    swappedStores [.Tuple [.Name x px, .Name y py] kt pt] (.Tuple [l, r] k2 p2) env = pure (some [x, y]) := by
  have hb : env.blockKind = .function := by
    show (if env.scope.kind.isAnnotationScope then _ else _) = _
    rw [hs, hk]; rfl
  have kx : (env.kindOf x == some .local) = true := by
    show (env.scope.names.lookup x == some .local) = true
    rw [hs, of_decide_eq_true hx]; rfl
  have ky : (env.kindOf y == some .local) = true := by
    show (env.scope.names.lookup y == some .local) = true
    rw [hs, of_decide_eq_true hy]; rfl
  have hstar : ([l, r].any fun | .Starred .. => true | _ => false) = false := by
    cases l <;> first | (cases n1; done) | (cases r <;> first | (cases n2; done) | rfl)
  have hnames : (List.filterMap (fun e : Expr => match e with
      | .Name id pos => if (env.kindOf id == some .local && pos.line == px.line) = true then some id else none
      | _ => none) [Expr.Name x px, Expr.Name y py]) = [x, y] := by
    simp only [List.filterMap_cons, List.filterMap_nil, kx, ky, hl, beq_self_eq_true, Bool.and_self, if_true]
  have hed : [x, y].eraseDups = [x, y] := by
    have : (y == x) = false := by simpa using Ne.symm hxy
    simp [List.eraseDups_cons, hxy, Ne.symm hxy]
  unfold swappedStores
  dsimp only
  show (if _ then _ else _) = _
  rw [if_neg (by rw [hb]; simp)]
  show (if _ then _ else _) = _
  refine (if_neg fun h => Bool.false_ne_true (hstar.symm.trans h)).trans ?_
  show (if ((List.filterMap _ _).length != _ || _) = true then _ else _) = _
  show (if ((List.filterMap (fun e : Expr => match e with
      | .Name id pos => if (env.kindOf id == some .local && pos.line == px.line) = true then some id else none
      | _ => none) [Expr.Name x px, Expr.Name y py]).length != 2 || (List.filterMap (fun e : Expr => match e with
      | .Name id pos => if (env.kindOf id == some .local && pos.line == px.line) = true then some id else none
      | _ => none) [Expr.Name x px, Expr.Name y py]).eraseDups.length != (List.filterMap (fun e : Expr => match e with
      | .Name id pos => if (env.kindOf id == some .local && pos.line == px.line) = true then some id else none
      | _ => none) [Expr.Name x px, Expr.Name y py]).length) = true then _ else _) = _
  rw [hnames, hed, if_neg (by simp)]
  show (if _ then _ else _) = _
  rw [hf, if_neg (by decide)]
  show (if _ then _ else _) = _
  rw [hc, if_neg (by decide)]
  show pure (some (List.filterMap (fun e : Expr => match e with
      | .Name id pos => if (env.kindOf id == some .local && pos.line == px.line) = true then some id else none
      | _ => none) [Expr.Name x px, Expr.Name y py])) = _
  rw [hnames]

/-! ### suites -/
section
variable {nm : Nm} {N : List Str} {C : CallS} {gv : Nat → Option D} {cls : Nat → Value} {k : Nat} {bp : List (Nat × Addr)}
structure XS (nm : Nm) (N : List Str) (C : CallS) (gv : Nat → Option D) (cls : Nat → Value) (k : Nat) (sc : Scope) (W : WX) (X : Cx) : Prop where
  ok : XOk nm C gv cls k X
  n : X.N = N
  scp : X.env.scope = sc
  kind : sc.kind = .function
  tk : L2N.Takes X W
  own : PassesOwn (model X.prog X.w) X.A X.env X.xe
  fn : ∀ y, sc.names.lookup y = some .cell → X.fn y = true
  stk : X.stack = X.env :: X.outer
  frm : X.env.frame = some X.env.locals
theorem XS.exp {sc : Scope} {W : WX} {X : Cx} {M : Nat → Bool} {ie : IE} {e : Expr} (h : XS nm N C gv cls k sc W X) (o : okE nm N ie sc e = true) : Snd X M bp W cls e (ev C gv M ie) := sndE ie sc e o X W h.ok h.n h.scp h.tk
theorem XS.itr {sc : Scope} {W : WX} {X : Cx} {M : Nat → Bool} {it : IT} {e tg : Expr} (h : XS nm N C gv cls k sc W X) (o : okI nm N it sc e tg = true) : PI X tg e (tI X.K M bp W cls (evI C gv M it)) := sndI it sc e tg o X W h.ok h.n h.scp h.tk
theorem XS.tgt {sc : Scope} {W : WX} {X : Cx} {t : Tg} {e : Expr} (h : XS nm N C gv cls k sc W X) (o : okTg N sc sc t e = true) : PG X e (tgR X.K t) := by
  refine okTg_ok h.ok.calm h.ok.nd h.fn ?_
  rw [h.n, h.scp]; exact o
theorem XS.nameT {sc : Scope} {W : WX} {X : Cx} {i : Nat} {x : Str} {p : Pos} (h : XS nm N C gv cls k sc W X) (o : isSet N sc sc i x = true) : PG X (.Name x p) (tgR X.K (.n i)) := by
  refine isSet_ok h.ok.nd h.fn ?_
  rw [h.n, h.scp]; exact o
theorem XS.var {sc : Scope} {W : WX} {X : Cx} {i : Nat} {x : Str} {p : Pos} (h : XS nm N C gv cls k sc W X) (o : isLoc N sc i x = true) : PE X (.Name x p) (tVar i) := by
  refine isLoc_ok h.scp ?_
  rw [h.n]; exact o
/-- name = [.. for ..], the block still standing -/
theorem lc_set {sc : Scope} {W : WX} {X : Cx} {M : Nat → Bool} {i : Nat} {x : Str} {px pos : Pos} {ie : IE} {e : Expr} (h : XS nm N C gv cls k sc W X) (hi : N[i]? = some x) (o : okE nm N ie sc e = true) (hl : lcSwap sc x px e = true) (hpx : pos.line = pos.line) :
    PS X (.Assign [.Name x px] e pos) (tAsg (tE X.K M bp W cls (ev C gv M ie)) (gName i)) := by
  cases e with
  | ListComp elt gens scope lpos =>
    cases ie with
    | lc t it hc c e =>
      obtain ⟨elt', tg, iter, ifs, scope', pos', e1, h0⟩ := lc_inv o
      cases e1
      obtain ⟨h1, h7⟩ := and2 h0
      obtain ⟨h1, h6⟩ := and2 h1
      obtain ⟨h1, h5⟩ := and2 h1
      obtain ⟨h1, h4⟩ := and2 h1
      obtain ⟨h1, h3⟩ := and2 h1
      obtain ⟨h1, h2⟩ := and2 h1
      have h4 := of_decide_eq_true h4
      have hX := h.ok
      have hN := h.n
      have hs := h.scp
      have hi' := sndI (M := M) (bp := bp) it sc iter tg h1 X W hX hN hs h.tk
      have hsf : ∀ x, foldedSetIterable iter X.env x = pure x := okI_fold h1
      have ok : BlkOk X.N X.env.scope scope (tgOwn tg t.slots) := by rw [hN, hs]; exact blkOk_by h2
      have hl : (locN sc x && decide (px.line = lpos.line) && !(scope.names.any fun (n, k) => n == x && (k == .local || k == .cell))) = true := hl
      obtain ⟨l1, l3⟩ := and2 hl
      obtain ⟨l1, l2⟩ := and2 l1
      have hyl : X.env.scope.names.lookup x = some .local := by rw [hs]; exact of_decide_eq_true l1
      have hsw : swapsWith (.ListComp elt [⟨tg, iter, ifs, 0⟩] scope lpos) (some (.Name x px)) pos.line X.env = pure true := by
        unfold swapsWith
        dsimp only
        have hb : X.env.blockKind = .function := by
          show (if X.env.scope.kind.isAnnotationScope then _ else _) = _
          rw [hs, h.kind]; rfl
        have kx : (X.env.kindOf x == some .local) = true := by
          show (X.env.scope.names.lookup x == some .local) = true
          rw [hyl]; rfl
        show pure (X.env.blockKind == .function && X.env.kindOf x == some .local && px.line == lpos.line && !(scope.names.any fun (n, k) => n == x && (k == .local || k == .cell))) = _
        rw [hb, kx, l3, of_decide_eq_true l2]
        simp
      refine weakS (ps_setLc (i := i) (g := tgR X.K t) (te := tE X.K M bp W0 cls (ev C gv M e)) (tt := if hc = true then tT X.K M bp W0 cls (ev C gv M c) else tYes) hX.calm hX.nd (by rw [hN]; exact hi) hyl hsw hi' ok (fun s H C' cl fp => ?_) (fun s H C' cl fp => ?_) (fun s H C' cl fp => ?_) hsf) fun D σ H q => ?_
      · refine okTg_ok (X := X.blk s H scope (compEnvC scope cl C' X.env) fp) (own := scope) hX.calm hX.nd (fun y hy => ?_) ?_
        · show (scope.names.lookup y == some .cell) = true
          rw [hy]; rfl
        · show okTg X.N (relS scope X.env.scope) scope t tg = true
          rw [hN, hs]; exact h3
      · cases ifs with
        | nil =>
          have h6 : (!hc) = true := h6
          have : hc = false := by simpa using h6
          rw [this, if_neg Bool.false_ne_true]
          exact pts_nil
        | cons q rs =>
          cases rs with
          | nil =>
            have h6 : (hc && okE nm N c (relS scope sc) q) = true := h6
            obtain ⟨h8, h9⟩ := and2 h6
            rw [h8, if_pos rfl]
            exact pts_one (sndE c (relS scope sc) q h9 (X.blk s H scope (compEnvC scope cl C' X.env) fp) W0 (hX.blk ..) hN (by show relS scope X.env.scope = _; rw [hs]) takesN0).pt
          | cons _ _ => cases h6
      · exact (sndE e (relS scope sc) elt h7 (X.blk s H scope (compEnvC scope cl C' X.env) fp) W0 (hX.blk ..) hN (by show relS scope X.env.scope = _; rw [hs]) takesN0).pe
      · show tLc _ _ _ _ _ _ _ _
        rw [h4]
        refine lc_ok σ H _ ?_
        have q : tE X.K M bp W cls (ev C gv M (.lc t it hc c e)) σ H (fun x H1 => gName i x σ H1 D.nx) := q
        simp only [ev] at q
        exact q
    | _ => simp [okE, vM1, vRev] at o
  | _ => cases hl
end
end WM

/-! WM: a suite runs as the evaluator says. -/
namespace WM
open PySem PySem.Spec PyProof.Rows L2
section
variable {nm : Nm} {N : List Str} {C : CallS} {gv : Nat → Option D} {cls : Nat → Value} {k : Nat} {bp : List (Nat × Addr)}
theorem gpar {X : Cx} {sc : Scope} {W : WX} {ms : List Nat} {i j : Nat} {a b : IE} {x y : Str} {l r : Expr} {px py pt pos : Pos} {kt k2 p2} (h : XS nm N C gv cls k sc W X)
    (hi : N[i]? = some x) (hj : N[j]? = some y) (hij : i ≠ j) (lx : locN sc x = true) (ly : locN sc y = true) (oa : okE nm N a sc l = true) (ob : okE nm N b sc r = true) (hl : py.line = px.line) (hxy : x ≠ y) (hf : ([l, r].all (foldedForSure 8)) = false) (hc : ([l, r].all (constantsAlone 8)) = false) :
    PS X (.Assign [.Tuple [.Name x px, .Name y py] kt pt] (.Tuple [l, r] k2 p2) pos) (tPar i j (tCons (tE X.K (Mof ms) bp W cls (ev C gv (Mof ms) a)) (tCons (tE X.K (Mof ms) bp W cls (ev C gv (Mof ms) b)) tNil))) :=
  ps_par h.ok.calm h.ok.nd (by rw [h.n]; exact hi) (by rw [h.n]; exact hj) hij (by rw [h.scp]; exact of_decide_eq_true lx) (by rw [h.scp]; exact of_decide_eq_true ly) (two_arg (h.exp oa).pe (h.exp ob).pe (okE_ns oa) (okE_ns ob))
    (swapped_par h.scp h.kind lx ly hl hxy hf hc (okE_ns oa) (okE_ns ob))
theorem fewE {cpos : Pos} {e : Expr} {env : PySem.Env} (ns : notStar e = true) : ((backTo cpos (starEach [e] env)).all (fun x => !x.1) && (backToKw cpos (keywordEach [] env)).all (fun x => x.1.isSome)
      && decide (([e] : List Expr).length + ([] : List Keyword).length + (if ([] : List Keyword).isEmpty then 0 else 1) < 30)) = true := by
  rw [star_ok [] env ns]; rfl
theorem lineEq {a b : Nat} (h : (a == b) = true) : (a == b) = true := h
theorem par_inv {ms : List Nat} {i j : Nat} {a b : IE} {sc : Scope} {st : Stmt} (o : okS nm N (.par ms i j a b) sc st = true) : ∃ x y l r px py pt kt k2 p2 pos, st = .Assign [.Tuple [.Name x px, .Name y py] kt pt] (.Tuple [l, r] k2 p2) pos ∧
    (decide (N[i]? = some x) && decide (N[j]? = some y) && !decide (i = j) && locN sc x && locN sc y && okE nm N a sc l && okE nm N b sc r && decide (py.line = px.line) && !decide (x = y) && !([l, r].all (foldedForSure 8)) && !([l, r].all (constantsAlone 8))) = true := by
  simp only [okS] at o
  unfold okPar at o
  split at o
  · rename_i es kt pt e pos h1
    have e1 := vTup_some h1
    split at o
    · rename_i t1 t2 vs k2 p2 h2 h3
      have e2 := vTwo_some h2
      have e3 := vTp_some h3
      split at o
      · rename_i x px y py l r h4 h5 h6
        have e4 := vNm_some h4
        have e5 := vNm_some h5
        have e6 := vTwo_some h6
        subst e1 e2 e3 e4 e5 e6
        exact ⟨x, y, l, r, px, py, pt, kt, k2, p2, pos, rfl, o⟩
      · cases o
    · cases o
  · cases o
theorem set1_inv {ms : List Nat} {i : Nat} {ix ie : IE} {sc : Scope} {st : Stmt} (o : okS nm N (.set1 ms i ix ie) sc st = true) : ∃ x iy px p e pos, st = .Assign [.Subscript (.Name x px) iy p] e pos ∧ (isLoc N sc i x && okE nm N ix sc iy && okE nm N ie sc e && plainIx iy) = true := by
  simp only [okS] at o
  split at o
  · rename_i x px iy p e pos h1
    exact ⟨x, iy, px, p, e, pos, vSub_some h1, o⟩
  · cases o
theorem set2_inv {ms : List Nat} {i l : Nat} {ix ie : IE} {sc : Scope} {st : Stmt} (o : okS nm N (.set2 ms i ix l ie) sc st = true) : ∃ x y iy px p2 py p e pos, st = .Assign [.Subscript (.Subscript (.Name x px) iy p2) (.Name y py) p] e pos ∧ (isLoc N sc i x && okE nm N ix sc iy && isLoc N sc l y && okE nm N ie sc e && plainIx iy) = true := by
  simp only [okS] at o
  split at o
  · rename_i x px iy p2 y py p e pos h1
    exact ⟨x, y, iy, px, p2, py, p, e, pos, vSub2_some h1, o⟩
  · cases o
theorem rse_inv {c : Nat} {sc : Scope} {st : Stmt} (o : okS nm N (.rse c) sc st = true) : ∃ x m j px p2 cpos pos, st = .Raise (some (.Call (.Name x px) [.Constant (.str m) j p2] [] cpos)) none pos ∧ (decide (nm.en c = some x) && isGl sc x) = true := by
  simp only [okS] at o
  split at o
  · rename_i x r h1
    obtain ⟨px, m, j, p2, cpos, pos⟩ := r
    exact ⟨x, m, j, px, p2, cpos, pos, vRse_some h1, o⟩
  · cases o
theorem meth_inv {m0 : Str} {i : Nat} {ie : IE} {sc : Scope} {st : Stmt} (o : okMeth nm N m0 i ie sc st = true) : ∃ x px apos e cpos pos, st = .Expr (.Call (.Attribute (.Name x px) m0 apos) [e] [] cpos) pos ∧ isLoc N sc i x = true ∧ okE nm N ie sc e = true ∧ (apos.endLine == cpos.line) = true := by
  unfold okMeth at o
  split at o
  · rename_i x px m apos args kws cpos pos h1
    split at o
    · rename_i e h2
      obtain ⟨o, o5⟩ := and2 o
      obtain ⟨o, o4⟩ := and2 o
      obtain ⟨o, o3⟩ := and2 o
      obtain ⟨o1, o2⟩ := and2 o
      have e1 := vMeth_some h1
      have e2 := vOne_some h2
      have e3 := vNil_true o1
      have e4 := of_decide_eq_true o2
      subst e1 e2 e3 e4
      exact ⟨x, px, apos, e, cpos, pos, rfl, o3, o4, o5⟩
    · cases o
  · cases o
theorem aug_inv {ms : List Nat} {i : Nat} {ie : IE} {sc : Scope} {st : Stmt} (o : okS nm N (.aug ms i ie) sc st = true) : ∃ x px e pos, st = .AugAssign (.Name x px) .Add e pos ∧ (isSet N sc sc i x && okE nm N ie sc e) = true := by
  simp only [okS] at o
  split at o
  · rename_i x px e pos h1
    exact ⟨x, px, e, pos, vAug_some h1, o⟩
  · cases o
theorem sub_asg {iy : Expr} {o : Expr} {p : Pos} {env : PySem.Env} (h : plainIx iy = true) : ∀ v, assign (.Subscript o iy p) env v = (do
      let ov ← holding [v] (eval o env)
      let iv ← holding [v, ov] (eval iy env)
      standAt p
      holding [v, ov, iv] (setItem ov iv v)
      release [v, ov, iv] []) := by
  intro v
  cases iy <;> first | (cases h; done) | rfl
theorem set_facts {X : Cx} {sc : Scope} {W : WX} {i : Nat} {x : Str} (h : XS nm N C gv cls k sc W X) (o : isSet N sc sc i x = true) : X.N[i]? = some x ∧ L2.Loc X.env.scope x ∧ (X.fn x = true ∨ X.env.scope.names.lookup x = some .local) := by
  unfold isSet at o
  simp only [Bool.and_eq_true, Bool.or_eq_true, decide_eq_true_eq] at o
  obtain ⟨h1, h2⟩ := o
  refine ⟨by rw [h.n]; exact h1, ?_, ?_⟩
  · unfold L2.Loc
    rw [h.scp]
    exact h2.imp id And.left
  · rw [h.scp]
    exact h2.elim .inr fun h2 => .inl (h.fn x h2.2)
theorem of_not {b : Bool} (h : (!b) = true) : b = false := by cases b with | true => cases h | false => rfl
/-- what the suite of a try asks -/
def tsK (cls : Nat → Value) (ie ik : Nat) (a : Addr) (cl : Value) (d : Option Addr) : TS := fun Ds σ H => ∃ c x, cl = cls c ∧ exNm c = some x ∧ d = none ∧ σ[ie]? = some (some (.ref a)) ∧ ∀ H', Same H H' → Ds.nx (σ.set ik (some (.str (kText x)))) H'
theorem XOk.tr {X : Cx} (h : XOk nm C gv cls k X) (pn : List (Addr × Obj)) (xe : Value → Shared → Prop) : XOk nm C gv cls k (X.tr pn xe) :=
  ⟨h.calm, h.nd, h.room, h.fns, h.gls, h.bi, h.exf, h.k1, h.kin, h.seer, h.tree, h.top⟩
theorem XS.tr {X : Cx} {sc : Scope} {W W' : WX} (h : XS nm N C gv cls k sc W X) (pn : List (Addr × Obj)) (xe : Value → Shared → Prop) (tk : L2N.Takes (X.tr pn xe) W') (own : PassesOwn (model X.prog X.w) X.A X.env xe) : XS nm N C gv cls k sc W' (X.tr pn xe) :=
  ⟨h.ok.tr pn xe, h.n, h.scp, h.kind, tk, own, h.fn, h.stk, h.frm⟩
theorem try_ok {X : Cx} {sc : Scope} {W : WX} {ie ik : Nat} {b : ISs} {body : List Stmt} {x n y f : Str} {p py spos hpos p3 p1 p2 pos : Pos} (h : XS nm N C gv cls k sc W X) (hk : nm.kn = true) (he : N[ie]? = some n) (hl : locN sc n = true) (hx : x = "MartError") (gx : isGl sc x = true) (hf : f = "_law_kinds") (gf : isGl sc f = true)
    (vn : isLoc N sc ie n = true) (sy : isSet N sc sc ik y = true) (hb : ∀ (W' : WX) (X' : Cx), XS nm N C gv cls k sc W' X' → PSs X' body (tS X'.K bp W' cls (exs C gv b))) :
    PS X (.Try body [.ExceptHandler (some (.Name x p)) (some n) [.Assign [.Name y py] (.Call (.Name f p1) [.Name n p2] [] p3) spos] hpos] [] [] pos) (tS X.K bp W cls (ex C gv (.tryk ie ik b))) := by
  obtain ⟨⟨fa, fd, f1, f2, f3, f4⟩, B, m1, m2⟩ := h.ok.kin hk
  obtain ⟨g1, g2, _⟩ := isGl_ok h.scp gx
  obtain ⟨g3, g4, _⟩ := isGl_ok h.scp gf
  subst hx hf
  have hv : ∀ q : Pos, PE X (.Name n q) (tVar ie) := fun q => h.var vn
  refine weakS (L2N.ps_try_as (c := .ref B) (i := ie) (tb := fun W' => tS X.K bp W' cls (exs C gv b)) (ts := tsK cls ie ik) h.stk h.frm h.ok.nd (by rw [h.n]; exact he) (by show X.env.scope.names.lookup n = _; rw [h.scp]; exact of_decide_eq_true hl) ⟨g1, g2, .inl m1⟩ h.tk
    (fun W' pn xe tk own => hb W' (X.tr pn xe) (h.tr pn xe tk own)) (fun a oe cl d pn hz hf => ?_)) fun Ds σ H q => ?_
  · refine ⟨fun pins s σ H Ds I q => ?_⟩
    obtain ⟨c, x, rfl, hx, rfl, hi, q⟩ := q
    obtain ⟨z1, z2, z3⟩ := hz
    have F := f4 c x hx
    have hot : L2H.Hot1 (X.A.mark (some (.ref a))) (a, oe) := ⟨rfl, by obtain ⟨vs, e⟩ := hf; exact ⟨vs, e, z3 vs e⟩⟩
    have r1 := h.ok.room
    have hr : L2H.RoomH 1 (X.A.mark (some (.ref a))) := (⟨r1.dp, r1.un⟩ : L2H.RoomH k (X.A.mark (some (.ref a)))).mono (by have := h.ok.k1; omega)
    have cal : PE (X.suite a ((a, oe) :: pn)) (.Call (.Name ("_law_kinds" : Str) p1) [.Name n p2] [] p3) _ := pe_callK (X := X.suite a ((a, oe) :: pn)) (E := fun _ _ _ _ => False) F rfl hr (a, oe) hot List.mem_cons_self z1 z2 g3 f1 f2 f3 (fun σ => (fun pins' H' s' e s'' I' (cx : L2N.CX X.prog X.w X.stack H' s' (fun _ _ _ => False) e s'') => by
      obtain ⟨_, _, _, _, _, _, _, _, _, _, _, _, z⟩ := cx
      exact z.elim)) (isLoc_ok (X := X.suite a ((a, oe) :: pn)) h.scp (by rw [show (X.suite a ((a, oe) :: pn)).N = X.N from rfl, h.n]; exact vn)) g4
    have asg := ps_asg (X := X.suite a ((a, oe) :: pn)) (pos := spos) cal (isSet_ok (X := X.suite a ((a, oe) :: pn)) (pos := py) h.ok.nd h.fn (by show isSet X.N X.env.scope sc ik y = true; rw [h.n, h.scp]; exact sy)) rfl rfl rfl
    exact (pss_one asg).run pins s σ H Ds I ⟨hi, q⟩
  · obtain ⟨Z, fpf, Hb, ρ, S, q⟩ := q
    simp only [ex] at q
    refine ⟨Z, fpf, Hb, ρ, S, ?_⟩
    generalize exs C gv b ρ = r at q
    cases r with
    | nx ρ1 => exact q
    | rt o ρ1 => exact q
    | bad => exact q
    | exc c ρ1 =>
      intro Hb1 H1 σ1 fpf1 e1 S1
      have q : PstS X.K bp W cls Z Hb (caught ie ik c ρ1) Ds := q
      unfold caught at q
      split at q
      · rename_i x hx hn
        split at q
        · exact q.elim
        · rename_i hne
          split at q
          · rename_i ρ2 hp
            refine ⟨true, m2 c x hx, fun _ a ha => ⟨c, x, rfl, hx, rfl, ?_, fun H2 s2 => ?_⟩, fun z => by cases z⟩
            · exact List.getElem?_set_self (by rw [← S1.len]; exact (List.getElem?_eq_some_iff.mp hn).1)
            · have T1 := S1.step s2 (fun _ _ e => e) (S1.ex.trans s2) (fun a ha => by
                rcases ha with ha | ha | ⟨i, ha⟩
                · exact (S1.fr a (.inl ha)).2.1
                · exact (S1.fr a (.inr ha)).2.1
                · exact (S1.hb i a ha).1)
              have T2 := T1.setNo (o := some (.ref a)) hn
              obtain ⟨T3, hlt⟩ := putC_ok (v := V.str (kText x)) (x := dv (.str (kText x))) (fp := []) T2 ⟨.d (.str _), fun _ h => (nomatch h), fun _ _ _ h => (nomatch h)⟩ hp
              have hn2 : ρ2[ie]? = some .no := by
                unfold putC at hp
                split at hp
                · cases hp
                · cases hp
                  rw [List.getElem?_set_ne (Ne.symm hne)]; exact hn
                · cases hp
              exact q Hb1 H2 _ _ e1 (T3.setNo (o := none) hn2)
          · exact q.elim
      · exact q.elim
mutual
theorem sndS : ∀ (s : IS) (sc : Scope) (st : Stmt), okS nm N s sc st = true → ∀ (W : WX) (X : Cx), XS nm N C gv cls k sc W X → PS X st (tS X.K bp W cls (ex C gv s))
  | .set ms fz (.n i) ie, sc, st, o, W, X, h => by
    simp only [okS] at o
    split at o
    · rename_i x px e pos h1
      have e1 := vName_some h1
      clear h1
      subst e1
      obtain ⟨o, o3⟩ := and2 o
      obtain ⟨o1, o2⟩ := and2 o
      have hi : N[i]? = some x := by
        unfold isSet at o1
        exact of_decide_eq_true (and2 o1).1
      have he := (h.exp (M := Mof ms) (bp := bp) o2).pe
      have norm : swapsWith e (some (.Name x px)) pos.line X.env = pure false → PS X (.Assign [.Name x px] e pos) (tS X.K bp W cls (ex C gv (.set ms fz (.n i) ie))) := fun hs =>
        weakS (ps_asg he (h.nameT o1) hs swapped_name rfl) fun D σ H q => set_t q
      rw [Bool.or_eq_true, Bool.or_eq_true] at o3
      rcases o3 with (o3 | o3) | o3
      · exact norm (swaps_no o2 o3)
      · exact weakS (lc_set (bp := bp) (M := Mof ms) h hi o2 o3 rfl) fun D σ H q => set_t q
      · cases hn : notLc e with
        | true => exact norm (swaps_no o2 hn)
        | false =>
          cases e with
          | ListComp elt gens scope lpos =>
            refine norm ?_
            unfold swapsWith
            dsimp only
            have kx : (X.env.kindOf x == some .local) = false := by
              show (X.env.scope.names.lookup x == some .local) = false
              rw [h.scp]
              unfold locN at o3
              cases q2 : List.lookup x sc.names with
              | none => rfl
              | some kd =>
                rw [q2] at o3
                cases kd <;> first | rfl | (simp at o3; done)
            show pure (X.env.blockKind == .function && X.env.kindOf x == some .local && px.line == lpos.line && !(scope.names.any fun (n, k) => n == x && (k == .local || k == .cell))) = _
            rw [kx]
            simp
          | _ => cases hn
    · cases o
  | .set ms fz (.t is) ie, sc, st, o, W, X, h => by
    simp only [okS] at o
    split at o
    · rename_i es kt p e pos h1
      have e1 := vTup_some h1
      clear h1
      subst e1
      obtain ⟨o, o4⟩ := and2 o
      obtain ⟨o, o3⟩ := and2 o
      obtain ⟨o1, o2⟩ := and2 o
      have he := (h.exp (M := Mof ms) (bp := bp) o2).pe
      exact weakS (ps_asg he (h.tgt o1) (show swapsWith e (some (.Tuple es kt p)) pos.line X.env = pure false from swaps_no o2 o4) (swapped_tup h.scp o3) rfl) fun D σ H q => set_t q
    · cases o
  | .par ms i j a b, sc, st, o, W, X, h => by
    obtain ⟨x, y, l, r, px, py, pt, kt, k2, p2, pos, rfl, o⟩ := par_inv o
    obtain ⟨o, o11⟩ := and2 o
    obtain ⟨o, o10⟩ := and2 o
    obtain ⟨o, o9⟩ := and2 o
    obtain ⟨o, o8⟩ := and2 o
    obtain ⟨o, o7⟩ := and2 o
    obtain ⟨o, o6⟩ := and2 o
    obtain ⟨o, o5⟩ := and2 o
    obtain ⟨o, o4⟩ := and2 o
    obtain ⟨o, o3⟩ := and2 o
    obtain ⟨o1, o2⟩ := and2 o
    exact weakS (gpar (bp := bp) (ms := ms) h (of_decide_eq_true o1) (of_decide_eq_true o2) (by simpa using o3) o4 o5 o6 o7 (of_decide_eq_true o8) (by simpa using o9) (of_not o10) (of_not o11)) fun D σ H q => par_t q
  | .set1 ms i ix ie, sc, st, o, W, X, h => by
    obtain ⟨x, iy, px, p, e, pos, rfl, o⟩ := set1_inv o
    obtain ⟨o, o4⟩ := and2 o
    obtain ⟨o, o3⟩ := and2 o
    obtain ⟨o1, o2⟩ := and2 o
    have he := (h.exp (M := Mof ms) (bp := bp) o3).pe
    have hx := (h.exp (M := Mof ms) (bp := bp) o2).pe
    refine weakS (ps_asg he (pg_sub (h.var o1) hx set_list (sub_asg o4)) swaps_sub swapped_sub rfl) fun D σ H q => set1_t q
  | .set2 ms i ix l ie, sc, st, o, W, X, h => by
    obtain ⟨x, y, iy, px, p2, py, p, e, pos, rfl, o⟩ := set2_inv o
    obtain ⟨o, o5⟩ := and2 o
    obtain ⟨o, o4⟩ := and2 o
    obtain ⟨o, o3⟩ := and2 o
    obtain ⟨o1, o2⟩ := and2 o
    have he := (h.exp (M := Mof ms) (bp := bp) o4).pe
    have hx := (h.exp (M := Mof ms) (bp := bp) o2).pe
    refine weakS (ps_asg he (pg_sub (pe_ix ix_list (h.var o1) hx (plainIx_ok o5)) (h.var o3) set_list (sub_asg rfl)) swaps_sub swapped_sub rfl) fun D σ H q => set2_t q
  | .rse c, sc, st, o, W, X, h => by
    obtain ⟨x, m, j, px, p2, cpos, pos, rfl, o⟩ := rse_inv o
    obtain ⟨o1, o2⟩ := and2 o
    obtain ⟨C, e1, f1, f2, f3, f4, f5⟩ := h.ok.exf c x (of_decide_eq_true o1)
    obtain ⟨g1, g2, _⟩ := isGl_ok h.scp o2
    refine weakS (L2N.ps_raise h.ok.calm h.tk (L2N.pmk_own PySem.F.excBase_ValueError f2 f1 f3 (raises_own f4 f5) g1 g2)) fun D σ H q => ?_
    obtain ⟨Z, fpf, Hb, ρ, S, q⟩ := q
    simp only [ex] at q
    have := q Hb H σ fpf (fun _ _ e => e) S
    rw [e1] at this
    exact this
  | .tryk ie ik b, sc, st, o, W, X, h => by
    simp only [okS] at o
    split at o
    · rename_i body x n pp y f n2 q1 q2 h1
      obtain ⟨p, py, spos, hpos, p3, p1, p2, pos, e⟩ := vTry_some h1
      subst e
      obtain ⟨o, o11⟩ := and2 o
      obtain ⟨o, o10⟩ := and2 o
      obtain ⟨o, o9⟩ := and2 o
      obtain ⟨o, o8⟩ := and2 o
      obtain ⟨o, o7⟩ := and2 o
      obtain ⟨o1, o2⟩ := and2 o
      obtain ⟨o2, o3⟩ := and2 o2
      obtain ⟨o7, o7'⟩ := and2 o7
      obtain ⟨o8, o8'⟩ := and2 o8
      obtain ⟨o9, o9'⟩ := and2 o9
      have en : n2 = n := of_decide_eq_true o9
      dsimp only
      rw [en]
      exact try_ok (bp := bp) h o1 (of_decide_eq_true o2) o3 (of_decide_eq_true o7) o7' (of_decide_eq_true o8) o8' o9' o10 fun W' X' h' => sndSs b sc body o11 W' X' h'
    · cases o
  | .dset ms i j ie, sc, st, o, W, X, h => by
    simp only [okS] at o
    obtain ⟨x, px, y, py, p, e, pos, rfl, o⟩ := dset_inv o
    obtain ⟨o, o4⟩ := and2 o
    obtain ⟨o, o3⟩ := and2 o
    obtain ⟨o1, o2⟩ := and2 o
    have he := (h.exp (M := Mof ms) (bp := bp) o3).pe
    exact weakS (ps_dp (by have := h.ok.room.un; omega) (h.var o1) (h.var o2) he (swaps_no o3 o4)) fun D σ H q => dset_t q
  | .dput ms i ja jb ie, sc, st, o, W, X, h => by
    simp only [okS] at o
    obtain ⟨x, px, y, py, z, pz, k, p2, p, e, pos, rfl, o⟩ := dput_inv o
    obtain ⟨o, o5⟩ := and2 o
    obtain ⟨o, o4⟩ := and2 o
    obtain ⟨o, o3⟩ := and2 o
    obtain ⟨o1, o2⟩ := and2 o
    have he := (h.exp (M := Mof ms) (bp := bp) o4).pe
    exact weakS (ps_dp (by have := h.ok.room.un; omega) (h.var o1) (pe_tup (two_arg (h.var o2) (h.var o3) rfl rfl)) he (swaps_no o4 o5)) fun D σ H q => dput_t q
  | .nev, sc, st, o, W, X, h => weakS ps_never fun D σ H q => by
    obtain ⟨Z, fpf, Hb, ρ, S, q⟩ := q
    simp only [ex] at q
    exact q.elim
  | .col i r g n, sc, st, o, W, X, h => by
    simp only [okS] at o
    split at o
    · rename_i x px y py z pz u pu p w j pw pos2 pos h1
      have e1 := vCol_some h1
      clear h1
      subst e1
      obtain ⟨o, o5⟩ := and2 o
      obtain ⟨o, o4⟩ := and2 o
      obtain ⟨o, o3⟩ := and2 o
      obtain ⟨o1, o2⟩ := and2 o
      have ew : w = .int n := by
        cases w with
        | int j' => simp only [okC, decide_eq_true_eq] at o5; rw [o5]
        | _ => simp [okC] at o5
      subst ew
      exact weakS (ps_for h.own h.ok.calm (pi_list (h.var o2)) (h.nameT o1) (pss_one (ps_asg pe_int (pg_sub (h.var o3) (h.var o4) set_list (sub_asg rfl)) swaps_sub swapped_sub rfl)) (fun _ => rfl)) fun D σ H q => col_t q
    · cases o
  | .colt i r g a b, sc, st, o, W, X, h => by
    simp only [okS] at o
    split at o
    · rename_i x px y py z pz u pu p a' j1 p1 b' j2 p2 k2 p3 pos2 pos h1
      have e1 := vColt_some h1
      clear h1
      subst e1
      obtain ⟨o, o6⟩ := and2 o
      obtain ⟨o, o5⟩ := and2 o
      obtain ⟨o, o4⟩ := and2 o
      obtain ⟨o, o3⟩ := and2 o
      obtain ⟨o1, o2⟩ := and2 o
      have ea := of_decide_eq_true o5
      have eb := of_decide_eq_true o6
      subst ea
      subst eb
      exact weakS (ps_for h.own h.ok.calm (pi_list (h.var o2)) (h.nameT o1) (pss_one (ps_asg (pe_tup (two_arg pe_int pe_int rfl rfl)) (pg_sub (h.var o3) (h.var o4) set_list (sub_asg rfl)) swaps_sub swapped_sub rfl)) (fun _ => rfl)) fun D σ H q => colt_t q
    · cases o
  | .swp i a b, sc, st, o, W, X, h => by
    simp only [okS] at o
    obtain ⟨x1, a1, x2, b1, x3, b2, x4, a2, q1, q2, q3, q4, q5, q6, q7, q8, p1, p2, p3, p4, kt, pt, k2, p0, pos, rfl, o⟩ := swp_inv o
    obtain ⟨o, o8⟩ := and2 o
    obtain ⟨o, o7⟩ := and2 o
    obtain ⟨o, o6⟩ := and2 o
    obtain ⟨o, o5⟩ := and2 o
    obtain ⟨o, o4⟩ := and2 o
    obtain ⟨o, o3⟩ := and2 o
    obtain ⟨o1, o2⟩ := and2 o
    refine weakS (ps_asg (pe_tup (pa_cons (pe_ix ix_list (h.var o3) (h.var o8) (plainIx_ok rfl)) (one_arg (pe_ix ix_list (h.var o4) (h.var o6) (plainIx_ok rfl)) rfl) rfl))
      (pg_tup h.ok.calm (pgs_cons (pg_sub (h.var o1) (h.var o5) set_list (sub_asg rfl)) (pgs_cons (pg_sub (h.var o2) (h.var o7) set_list (sub_asg rfl)) pgs_nil))) (by rfl) (swapped_tup h.scp rfl) rfl) fun D σ H q => swp_t q
  | .apop ms i j ie, sc, st, o, W, X, h => by
    simp only [okS] at o
    obtain ⟨x, px, apos, e1, cpos, pos, rfl, o2, o3, o4⟩ := apop_inv o
    obtain ⟨y, py, ap2, e, cp2, rfl, b2, b3, b4⟩ := pop_inv o3
    have he := (h.exp (M := Mof ms) (bp := bp) b3).pe
    have hp : PE X (.Call (.Attribute (.Name y py) "pop" ap2) [e] [] cp2) _ := pe_bm PySem.F.plainAttrs_list PySem.F.slot_list_pop PySem.F.type_list_pop mt_popAt (h.var b2) (one_arg he (okE_ns b3)) rfl (fewE (okE_ns b3)) b4 (star_ok [] X.env (okE_ns b3)) rfl
    refine weakS (ps_expr (pe_bm PySem.F.plainAttrs_list PySem.F.slot_list_append PySem.F.type_list_append mt_append (h.var o2) (one_arg hp rfl) rfl (fewE rfl) o4 rfl rfl) rfl) fun D σ H q => apop_t q
  | .app ms i ie, sc, st, o, W, X, h => by
    simp only [okS] at o
    obtain ⟨x, px, apos, e, cpos, pos, rfl, o2, o3, o4⟩ := meth_inv o
    have he := (h.exp (M := Mof ms) (bp := bp) o3).pe
    refine weakS (ps_expr (pe_bm PySem.F.plainAttrs_list PySem.F.slot_list_append PySem.F.type_list_append mt_append (h.var o2) (one_arg he (okE_ns o3)) rfl (fewE (okE_ns o3)) o4 (star_ok [] X.env (okE_ns o3)) rfl) rfl) fun D σ H q => app_t q
  | .ext ms i ie, sc, st, o, W, X, h => by
    simp only [okS] at o
    obtain ⟨x, px, apos, e, cpos, pos, rfl, o2, o3, o4⟩ := meth_inv o
    have he := (h.exp (M := Mof ms) (bp := bp) o3).pe
    refine weakS (ps_expr (pe_bm PySem.F.plainAttrs_list PySem.F.slot_list_extend PySem.F.type_list_extend mt_extend (h.var o2) (one_arg he (okE_ns o3)) rfl (fewE (okE_ns o3)) o4 (star_ok [] X.env (okE_ns o3)) rfl) rfl) fun D σ H q => ext_t q
  | .aug ms i ie, sc, st, o, W, X, h => by
    obtain ⟨x, px, e, pos, rfl, o⟩ := aug_inv o
    obtain ⟨o1, o2⟩ := and2 o
    have he := (h.exp (M := Mof ms) (bp := bp) o2).pe
    obtain ⟨g1, g2, g3⟩ := set_facts h o1
    exact weakS (ps_aug h.ok.nd g1 g2 he ip_add g3) fun D σ H q => aug_t q
  | .iff ms c a b, sc, st, o, W, X, h => by
    cases st with
    | If e p q pos =>
      simp only [okS] at o
      obtain ⟨o, o3⟩ := and2 o
      obtain ⟨o1, o2⟩ := and2 o
      exact weakS (ps_if (h.exp (M := Mof ms) (bp := bp) o1).pt (sndSs a sc p o2 W X h) (sndSs b sc q o3 W X h)) fun D σ H q => iff_t q
    | _ => simp only [okS] at o; cases o
  | .forr ms t it b, sc, st, o, W, X, h => by
    cases st with
    | For tg iter body els pos =>
      simp only [okS] at o
      obtain ⟨o, o3⟩ := and2 o
      obtain ⟨o, o2⟩ := and2 o
      obtain ⟨o0, o1⟩ := and2 o
      have e0 := vNil_true o0
      subst e0
      exact weakS (ps_for h.own h.ok.calm (h.itr (M := Mof ms) (bp := bp) o1) (h.tgt o2) (sndSs b sc body o3 W X h) (okI_fold o1)) fun D σ H q => forr_t q
    | _ => simp only [okS] at o; cases o
  | .whl n ms c b, sc, st, o, W, X, h => by
    cases st with
    | While e body els pos =>
      simp only [okS] at o
      obtain ⟨o, o2⟩ := and2 o
      obtain ⟨o0, o1⟩ := and2 o
      have e0 := vNil_true o0
      subst e0
      exact weakS (ps_while h.own (h.exp (M := Mof ms) (bp := bp) o1).pt (sndSs b sc body o2 W X h)) fun D σ H q => whl_t q
    | _ => simp only [okS] at o; cases o
  | .ret ms ie, sc, st, o, W, X, h => by
    cases st with
    | Return e pos =>
      cases e with
      | some e => exact weakS (ps_ret (h.exp (M := Mof ms) (bp := bp) (by simp only [okS] at o; exact o)).pe) fun D σ H q => ret_t q
      | none => simp only [okS] at o; cases o
    | _ => simp only [okS] at o; cases o
  | .exp ms ie, sc, st, o, W, X, h => by
    cases st with
    | Expr e pos =>
      simp only [okS] at o
      obtain ⟨o1, o2⟩ := and2 o
      exact weakS (ps_expr (h.exp (M := Mof ms) (bp := bp) o1).pe (swaps_no o1 o2)) fun D σ H q => exp_t q
    | _ => simp only [okS] at o; cases o
theorem sndSs : ∀ (ss : ISs) (sc : Scope) (sts : List Stmt), okSs nm N ss sc sts = true → ∀ (W : WX) (X : Cx), XS nm N C gv cls k sc W X → PSs X sts (tS X.K bp W cls (exs C gv ss))
  | .nil, sc, sts, o, W, X, h => by
    simp only [okSs] at o
    have e0 := vNil_true o
    subst e0
    refine weakSs pss_nil fun D σ H q => ?_
    obtain ⟨Z, fpf, Hb, ρ, S, q⟩ := q
    simp only [exs] at q
    exact q Hb H σ fpf (fun _ _ e => e) S
  | .cons s ss, sc, sts, o, W, X, h => by
    cases sts with
    | nil => simp only [okSs] at o; cases o
    | cons st sts =>
      simp only [okSs] at o
      obtain ⟨o1, o2⟩ := and2 o
      exact weakSs (pss_cons (sndS s sc st o1 W X h) (sndSs ss sc sts o2 W X h)) fun D σ H q => tS_seq σ H (by simpa only [exs] using q)
  | .frz i ss, sc, sts, o, W, X, h => by
    simp only [okSs] at o
    refine weakSs (sndSs ss sc sts o W X h) fun D σ H q => ?_
    obtain ⟨Z, fpf, Hb, ρ, S, q⟩ := q
    simp only [exs] at q
    split at q
    · rename_i o ho
      obtain ⟨Hb', fpf', e, S'⟩ := frzS_ok S ho
      exact ⟨Z, fpf', Hb', _, S', PstS.mono q e⟩
    · exact ⟨Z, fpf, Hb, ρ, S, q⟩
    · exact q.elim
  | .kil is ss, sc, sts, o, W, X, h => by
    simp only [okSs] at o
    refine weakSs (sndSs ss sc sts o W X h) fun D σ H q => ?_
    obtain ⟨Z, fpf, Hb, ρ, S, q⟩ := q
    simp only [exs] at q
    obtain ⟨fpf', S'⟩ := StR.wipe is S
    exact ⟨Z, fpf', Hb, _, S', q⟩
  | .app2 ms i j k e ss, sc, sts, o, W, X, h => by
    cases sts with
    | nil => simp only [okSs] at o; cases o
    | cons st r =>
      cases r with
      | nil => simp only [okSs] at o; cases o
      | cons st2 r2 =>
        simp only [okSs] at o
        obtain ⟨o, o3⟩ := and2 o
        obtain ⟨o1, o2⟩ := and2 o
        obtain ⟨x1, px1, ap1, e1, cp1, pos1, rfl, a2, a3, a4⟩ := meth_inv o1
        obtain ⟨x2, px2, ap2, e2, cp2, pos2, rfl, b2, b3, b4⟩ := meth_inv o2
        have he2 := (h.exp (M := Mof ms) (bp := bp) b3).pe
        cases e1 with
        | Name y py =>
          have a3' : isLoc N sc j y = true := by simpa only [okE] using a3
          have p1 := ps_expr (pos := pos1) (pe_bm PySem.F.plainAttrs_list PySem.F.slot_list_append PySem.F.type_list_append mt_append (h.var (p := px1) a2) (one_arg (h.var (p := py) a3') (okE_ns a3)) rfl (fewE (cpos := cp1) (okE_ns a3)) a4 (star_ok [] X.env (okE_ns a3)) rfl) rfl
          have p2 := ps_expr (pos := pos2) (pe_bm PySem.F.plainAttrs_list PySem.F.slot_list_append PySem.F.type_list_append mt_append (h.var (p := px2) b2) (one_arg he2 (okE_ns b3)) rfl (fewE (cpos := cp2) (okE_ns b3)) b4 (star_ok [] X.env (okE_ns b3)) rfl) rfl
          exact weakSs (pss_cons p1 (pss_cons p2 (sndSs ss sc r2 o3 W X h))) fun D σ H q => app2_t q
        | _ => simp [okE, vM1, vRev] at a3
end
end
end WM

/-! WM: defs, tables of defs. -/
namespace WM
open PySem PySem.Spec PyProof.Rows L2
/-! ### the evaluator of defs -/
structure IFn where
  name : Str
  N : List Str
  ps : List Str
  body : ISs
def slA : Ar → Sl
  | .v (.ow o) => .val o
  | .v (.bw o) => .bor o
  | .r o => .ref o
def outsE : Nat → List Ar → Env → Option (List Ow)
  | _, [], _ => some []
  | i, .v _ :: r, ρ => outsE (i + 1) r ρ
  | i, .r _ :: r, ρ => match ρ[i]? with
    | some (.ref o) => (outsE (i + 1) r ρ).map (o :: ·)
    | _ => none
def finF (ars : List Ar) (o : Ow) (ρ : Env) : FR :=
  match outsE 0 ars ρ with
  | some os => .ok o os
  | none => .bad
def startE (F : IFn) (ars : List Ar) : Env := ars.map slA ++ List.replicate (F.N.length - ars.length) .no
def endF (ars : List Ar) : RS → FR
  | .nx ρ => finF ars (.d .non) ρ
  | .rt o ρ => finF ars o ρ
  | .exc c _ => .exc c
  | .bad => .bad
def runF (C : CallS) (gv : Nat → Option D) (F : IFn) (ars : List Ar) : FR :=
  if ars.length = F.ps.length then endF ars (exs C gv F.body (startE F ars)) else .bad
def cs (fns : Nat → Option IFn) (gv : Nat → Option D) : Nat → CallS
  | 0 => fun _ _ => .bad
  | d + 1 => fun f ars => match fns f with
    | some F => runF (cs fns gv d) gv F ars
    | none => .bad

/-! ### the frame at the start, at the end -/
section
variable {K : PySem.W.Frag} {bp : List (Nat × Addr)} {W : WX} {cls : Nat → Value} {Z : Fz} {fpf fpf' : Nat → List Addr} {Hb Hb' H H' : Hp} {σ σ' : L2.St} {ρ ρ' : Env} {v u : V} {x y z : Vl} {fp fp1 fp2 : List Addr} {F : Addr → Prop}
def arAt (K : PySem.W.Frag) (F : Addr → Prop) (Hb H : Hp) (v : V) (a : Ar) (f : List Addr) : Prop :=
  match a with
  | .v (.ow o) => RO K Hb H v o f
  | .v (.bw o) => f = [] ∧ ∃ g, RO K Hb H v o g ∧ ∀ a ∈ g, F a
  | .r o => RO K Hb H v o f ∧ ∃ p, v = .ref p
theorem ars_at : ∀ {vs : List V} {ars : List Ar} {fp : List Addr}, ArRs K F Hb H vs ars fp → ∃ fl : List (List Addr), fl.length = ars.length ∧ vs.length = ars.length ∧
    (∀ (i : Nat) v a, vs[i]? = some v → ars[i]? = some a → arAt K F Hb H v a (fl.getD i [])) ∧ (∀ i, ∀ a ∈ fl.getD i [], a ∈ fp) ∧ ∀ i j, i ≠ j → Disj (fl.getD i []) (fl.getD j [])
  | _, _, _, .nil => ⟨[], rfl, rfl, fun i v a h => by simp at h, fun i a ha => by simp at ha, fun i j _ a h => by simp at h⟩
  | _, _, _, .own (f1 := f1) (f2 := f2) r t dj => by
    obtain ⟨fl, h1, h2, h3, h4, h5⟩ := ars_at t
    exact step f1 fl h1 h2 h3 h4 h5 r (fun a ha => List.mem_append_left _ ha) (fun a ha => List.mem_append_right _ ha) dj
  | _, _, _, .lent (f1 := f1) (f2 := f2) r hF t => by
    obtain ⟨fl, h1, h2, h3, h4, h5⟩ := ars_at t
    exact step [] fl h1 h2 h3 h4 h5 ⟨rfl, f1, r, hF⟩ (fun a ha => (nomatch ha)) (fun a ha => ha) fun a ha => (nomatch ha)
  | _, _, _, .ref (f1 := f1) (f2 := f2) r t dj => by
    obtain ⟨fl, h1, h2, h3, h4, h5⟩ := ars_at t
    exact step f1 fl h1 h2 h3 h4 h5 ⟨r, _, rfl⟩ (fun a ha => List.mem_append_left _ ha) (fun a ha => List.mem_append_right _ ha) dj
where
  step {vs : List V} {ars : List Ar} {f2 fp : List Addr} {v : V} {a : Ar} (f1 : List Addr) (fl : List (List Addr)) (h1 : fl.length = ars.length) (h2 : vs.length = ars.length) (h3 : ∀ (i : Nat) v a, vs[i]? = some v → ars[i]? = some a → arAt K F Hb H v a (fl.getD i []))
      (h4 : ∀ i, ∀ a ∈ fl.getD i [], a ∈ f2) (h5 : ∀ i j, i ≠ j → Disj (fl.getD i []) (fl.getD j [])) (r : arAt K F Hb H v a f1) (s1 : ∀ a ∈ f1, a ∈ fp) (s2 : ∀ a ∈ f2, a ∈ fp) (dj : Disj f1 f2) :
      ∃ fl : List (List Addr), fl.length = (a :: ars).length ∧ (v :: vs).length = (a :: ars).length ∧
    (∀ (i : Nat) v' a', (v :: vs)[i]? = some v' → (a :: ars)[i]? = some a' → arAt K F Hb H v' a' (fl.getD i [])) ∧ (∀ i, ∀ a ∈ fl.getD i [], a ∈ fp) ∧ ∀ i j, i ≠ j → Disj (fl.getD i []) (fl.getD j []) := by
    refine ⟨f1 :: fl, by simp [h1], by simp [h2], fun i v' a' g1 g2 => ?_, fun i b hb => ?_, fun i j hij b g1 g2 => ?_⟩
    · cases i with
      | zero => cases g1; cases g2; exact r
      | succ i => exact h3 i v' a' (by simpa using g1) (by simpa using g2)
    · cases i with
      | zero => exact s1 b hb
      | succ i => exact s2 b (h4 i b hb)
    · cases i with
      | zero =>
        cases j with
        | zero => exact hij rfl
        | succ j => exact dj b g1 (h4 j b g2)
      | succ i =>
        cases j with
        | zero => exact dj b g2 (h4 i b g1)
        | succ j => exact h5 i j (fun e => hij (by rw [e])) b g1 g2
def refAt (vs : List V) (i : Nat) : Option (Nat × Addr) :=
  match vs[i]? with
  | some (V.ref p) => some (i, p)
  | _ => none
def bpOf (vs : List V) : List (Nat × Addr) := (List.range vs.length).filterMap (refAt vs)
theorem bpOf_mem {vs : List V} {i : Nat} {p : Addr} : (i, p) ∈ bpOf vs ↔ vs[i]? = some (.ref p) := by
  unfold bpOf
  rw [List.mem_filterMap]
  constructor
  · rintro ⟨j, hj, h⟩
    unfold refAt at h
    split at h
    · rename_i q hq; cases h; exact hq
    · cases h
  · intro h
    exact ⟨i, List.mem_range.mpr (List.getElem?_eq_some_iff.mp h).1, by unfold refAt; rw [h]⟩
theorem start_ok {vs : List V} {ars : List Ar} (G : IFn) (hN : vs.length ≤ G.N.length) (r : ArRs K F Hb H vs ars fp) (ex : Same Hb H) (hF : ∀ a, F a → Hb a = none ∧ H a ≠ none) (nF : ∀ a ∈ fp, ¬ F a) : ∃ fpf, StR K all1 (bpOf vs) ⟨F, fun _ => False, H⟩ fpf Hb H (L2.start G.N vs) (startE G ars) := by
  obtain ⟨fl, h1, h2, h3, h4, h5⟩ := ars_at r
  have hat : ∀ (i : Nat) (a : Ar), ars[i]? = some a → ∃ v, vs[i]? = some v ∧ arAt K F Hb H v a (fl.getD i []) := fun i a h => by
    have hl : i < vs.length := by rw [h2]; exact (List.getElem?_eq_some_iff.mp h).1
    exact ⟨vs[i], List.getElem?_eq_getElem hl, h3 i _ a (List.getElem?_eq_getElem hl) h⟩
  refine ⟨fun i => fl.getD i [], ex, fun a ha => ⟨rfl, ha.elim (hF a) False.elim⟩, ?_, fun i s hs => ?_, h5, fun i a ha q => q.elim (nF a (h4 i a ha)) id, fun i a ha => ?_, fun i hi => (nomatch (show true = false from hi))⟩
  · unfold startE L2.start
    rw [List.length_append, List.length_append, List.length_map, List.length_map, List.length_replicate, List.length_replicate, h2]
  · unfold startE at hs
    by_cases hi : i < ars.length
    · rw [List.getElem?_append_left (by simpa using hi), List.getElem?_map] at hs
      obtain ⟨a, ha, rfl⟩ := Option.map_eq_some_iff.mp hs
      obtain ⟨v, hv, hr⟩ := hat i a ha
      have hσ : (L2.start G.N vs)[i]? = some (some v) := by
        unfold L2.start
        rw [List.getElem?_append_left (by rw [List.length_map, h2]; exact hi), List.getElem?_map, hv]; rfl
      match a, hr with
      | .v (.ow o), hr => exact ⟨v, hσ, hr⟩
      | .v (.bw o), ⟨_, g, q1, q2⟩ => exact ⟨v, g, hσ, q1, q2⟩
      | .r o, ⟨q1, p, q2⟩ => subst q2; exact ⟨⟨p, bpOf_mem.mpr hv, hσ⟩, _, hσ, q1⟩
    · rw [List.getElem?_append_right (by simpa using hi), List.getElem?_replicate] at hs
      split at hs
      · cases hs; trivial
      · cases hs
  · have hl : i < fl.length := by
      by_cases hl : i < fl.length
      · exact hl
      · rw [List.getD_eq_getElem?_getD, List.getElem?_eq_none (by omega)] at ha; cases ha
    have hi : i < ars.length := by omega
    obtain ⟨v, hv, hr⟩ := hat i _ (List.getElem?_eq_getElem hi)
    generalize ars[i] = ar at hr
    match ar, hr with
    | .v (.ow o), hr => exact hr.at_ a ha
    | .v (.bw o), ⟨e, _⟩ => rw [e] at ha; cases ha
    | .r o, ⟨q1, _⟩ => exact q1.at_ a ha
theorem outs_ok (S : StR K all1 bp Z fpf Hb H σ ρ) : ∀ {ars : List Ar} {vs : List V} {i : Nat} {os : List Ow}, outsE i ars ρ = some os → vs.length = ars.length → (∀ (j : Nat) v p, vs[j]? = some v → (i + j, p) ∈ bp → v = .ref p) →
    ∃ fp2, OutRs K Hb H vs ars os fp2 ∧ ∀ a ∈ fp2, ∃ j, i ≤ j ∧ a ∈ fpf j
  | [], [], i, os, h, _, _ => by cases h; exact ⟨[], .nil, fun _ h => (nomatch h)⟩
  | .v x :: ars, v :: vs, i, os, h, hl, hb => by
    obtain ⟨fp2, h1, h2⟩ := outs_ok S (i := i + 1) (vs := vs) (show outsE (i + 1) ars ρ = some os from h) (by simpa using hl) fun j v p hv hp => hb (j + 1) v p (by simpa using hv) (by rw [show i + (j + 1) = i + 1 + j by omega]; exact hp)
    exact ⟨fp2, .v h1, fun a ha => by obtain ⟨j, hj, hm⟩ := h2 a ha; exact ⟨j, by omega, hm⟩⟩
  | .r o :: ars, v :: vs, i, os, h, hl, hb => by
    unfold outsE at h
    split at h
    · rename_i o' ho
      obtain ⟨os', h', rfl⟩ := Option.map_eq_some_iff.mp h
      obtain ⟨fp2, h1, h2⟩ := outs_ok S (i := i + 1) (vs := vs) h' (by simpa using hl) fun j v p hv hp => hb (j + 1) v p (by simpa using hv) (by rw [show i + (j + 1) = i + 1 + j by omega]; exact hp)
      obtain ⟨⟨p, hp, hσ⟩, q⟩ := S.sl i _ ho
      obtain ⟨w, q1, q2⟩ := (show ∃ v, σ[i]? = some (some v) ∧ RO K Hb H v o' (fpf i) from q)
      rw [hσ] at q1; cases q1
      have := hb 0 v p rfl hp
      subst this
      exact ⟨fpf i ++ fp2, .r q2 h1 fun a g1 g2 => by obtain ⟨j, hj, hm⟩ := h2 a g2; exact S.sep i j (by omega) a g1 hm, fun a ha => (List.mem_append.mp ha).elim (fun h => ⟨i, Nat.le_refl _, h⟩) fun h => by obtain ⟨j, hj, hm⟩ := h2 a h; exact ⟨j, by omega, hm⟩⟩
    · cases h
  | [], _ :: _, _, _, _, hl, _ => by simp at hl
  | _ :: _, [], _, _, _, hl, _ => by simp at hl

/-! ### tables -/
def scB (N Ps : List Str) (sc : Scope) : Bool :=
  decide (sc.kind = .function) && (!sc.isCoroutine && !sc.isGenerator) && (decide N.Nodup && decide (N.take Ps.length = Ps)) && Ps.all (fun x => decide (sc.names.lookup x = some .local) || decide (sc.names.lookup x = some .cell)) && sc.names.all (fun y => !decide (y.2 = .free))
theorem scope_by {N Ps : List Str} {sc : Scope} (h : scB N Ps sc = true) : FnScope N Ps sc := by
  unfold scB at h
  simp only [Bool.and_eq_true, Bool.not_eq_true', decide_eq_true_eq, List.all_eq_true, Bool.or_eq_true, decide_eq_false_iff_not] at h
  obtain ⟨⟨⟨⟨h1, h2, h3⟩, h4, h5⟩, h6⟩, h7⟩ := h
  exact ⟨h1, h2, h3, h4, h5, h6, h7⟩
variable {P : Program} {w : World} {mg : Str → Option Value} {base : Heap}
/-- a def that may raise, the raised one's context told -/
theorem fun_okN {x qual : Str} {st : Stmt} {f : Addr} {fd : FuncData} {N ps : List Str} {k : Nat} {sp : Sp} (F : L2.Fun K x qual st f fd) (S : FnScope N ps (defScope st)) (len : ∀ vs H Q E, sp vs H Q E → vs.length = ps.length)
    (hb : ∀ (cdv : Value) (A : Around) (outer : List PySem.Env) (s : Shared) (H : Hp) (vs : List V) (Q : VK) (E : XK), Room k (A.deeper (envOfC qual (defScope st) s.heap.objs.size f cdv)) → sp vs H Q E →
      ∃ t, PSs (cxOf (L2N.CX P w) P w K mg base N qual (defScope st) f cdv A outer s H E) (defBody st) t ∧ t { nx := fun _ H' => Q .non H', rt := Q } (L2.start N vs) H) : FnOk P w K mg base (L2N.CX P w) (k + 1) f fd ps sp := by
  obtain ⟨_, _, _, _, _, _, cdv, _, _, rfl, lk, hc⟩ := F.ex
  exact fn_of lk hc S len fun A outer s H vs Q E hr hs => hb cdv A outer s H vs Q E hr hs
/-- the def that names a caught exception's class -/
theorem kinds_fn {st : Stmt} {f : Addr} {fd : FuncData} {D : Addr} {c : Str} {q : Nat → Pos} (F : L2.Fun K "_law_kinds" "_law_kinds" st f fd) (hs : defScope st = kSc) (hb : defBody st = kBody q) (hq : kLines q = true) (ec : ExcC K D) (mem : c ∈ kNames)
    (cl : ∀ x ∈ kNames, ∃ C, mg x = some (.ref C) ∧ PySem.W.kitOne K (.ref D) (.ref C) = some (decide (x = c))) (ve : mg "ValueError" = none ∧ PySem.W.kitOne K (.ref D) (.type "ValueError") = some true) (bi : mg "isinstance" = none ∧ mg "range" = none) :
    FnK P w K mg base (L2N.CX P w) 1 f fd ["e"] (.ref D) (kText c) := by
  obtain ⟨_, _, _, _, _, _, cdv, _, _, rfl, lk, hc⟩ := F.ex
  refine fn_ofK (k := 0) (N := kN) lk hc (scope_by (by rw [hs]; decide +kernel)) rfl fun A outer s H Q E p hot hu hd hk => ?_
  have h : KOk (L2H.cxH (L2N.CX P w) P w K mg base kN "_law_kinds" (defScope st) f cdv A outer s H E p) p D c :=
    ⟨rfl, hs, fun _ _ => rfl, ⟨p, hot, List.mem_singleton.mpr rfl⟩, List.mem_singleton.mpr rfl, hu, hd, hot.2.imp fun vs e => e.1, ec, mem, cl, ve, bi⟩
  obtain ⟨t, h1, h2⟩ := h.body q hq
  rw [hb]
  exact ⟨t, h1, h2 _ _ hk⟩
structure Tab (cls : Nat → Value) (P : Program) (w : World) (K : PySem.W.Frag) (mg : Str → Option Value) (base : Heap) (fns : Nat → Option IFn) (gv : Nat → Option D) (nm : Nm) : Prop where
  nmf : ∀ f, nm.fn f = ((fns f).getD ⟨"", [], [], .nil⟩).name ∧ nm.ar f = (fns f).map fun F => F.ps.length
  fn : ∀ (f : Nat) (F : IFn), fns f = some F → ∃ (st : Stmt) (a : Addr) (fd : FuncData), mg F.name = some (.ref a) ∧ L2.Fun K F.name F.name st a fd ∧ L2.Binds K fd F.ps [] ∧ FnScope F.N F.ps (defScope st) ∧ F.ps.length ≤ F.N.length ∧ okSs nm F.N F.body (defScope st) (defBody st) = true
  gls : ∀ k x, gv k = some x → ∃ v u, mg (nm.gl k) = some u ∧ RelV v u ∧ ∀ H, Rp K H v x
  bi : ∀ x ∈ bnames, mg x = none
  exf : ∀ c x, nm.en c = some x → ExF K mg x (cls c)
  kin : nm.kn = true → KinOk P w K mg base cls
  seer : base.NoSeer
  tree : P.given.tree = none
theorem tab_fn {fns : Nat → Option IFn} {gv : Nat → Option D} {nm : Nm} (T : Tab cls P w K mg base fns gv nm) : ∀ (d f : Nat) (F : IFn), fns f = some F → ∀ (st : Stmt) (a : Addr) (fd : FuncData), L2.Fun K F.name F.name st a fd → FnScope F.N F.ps (defScope st) → F.ps.length ≤ F.N.length → okSs nm F.N F.body (defScope st) (defBody st) = true →
    FnOk P w K mg base (L2N.CX P w) (d + 33) a fd F.ps (spC K (cs fns gv d) cls f F.ps.length)
  | 0, f, F, hf, st, a, fd, h2, h4, h5, h6 => by
    refine ⟨fun vs H Q E h => h.1, fun A outer s H args us vs Q E _ _ _ _ h => ?_⟩
    obtain ⟨_, _, _, _, _, _, _, _, _, q⟩ := h
    exact q.elim
  | d + 1, f, F, hf, st, a, fd, h2, h4, h5, h6 => by
    refine fun_okN h2 h4 (fun vs H Q E h => h.1) fun cdv A outer s H vs Q E hr h => ?_
    obtain ⟨hl, Fk, Hb, ars, fp, har, ex, hF, nF, q⟩ := h
    let X : Cx := cxOf (L2N.CX P w) P w K mg base F.N F.name (defScope st) a cdv A outer s H E
    have hX : XOk nm (cs fns gv d) gv cls (d + 33) X := by
      refine ⟨rfl, h4.nd, hr, fun g n hn => ?_, T.gls, T.bi, T.exf, by omega, T.kin, T.seer, T.tree, ⟨_, _, rfl, h4.gen, h4.co, rfl, rfl⟩⟩
      obtain ⟨e1, e2⟩ := T.nmf g
      rw [e2] at hn
      obtain ⟨G, hG, rfl⟩ := Option.map_eq_some_iff.mp hn
      obtain ⟨stb, b, fdb, k1, k2, k3, k5, k6, k7⟩ := T.fn g G hG
      have k4 := tab_fn T d g G hG stb b fdb k2 k5 k6 k7
      have en : nm.fn g = G.name := by rw [e1, hG]; rfl
      exact ⟨b, fdb, G.ps, rfl, by rw [en]; exact k1, k2.kp, k3, k4⟩
    have hS : XS nm F.N (cs fns gv d) gv cls (d + 33) (defScope st) (fun c d _ H => E c d H) X :=
      ⟨hX, rfl, rfl, h4.kind, L2N.takes_of (X := X) rfl rfl rfl rfl, passes_of (X := X) rfl, fun _ _ => rfl, rfl, rfl⟩
    refine ⟨_, sndSs (bp := bpOf vs) F.body (defScope st) (defBody st) h6 _ X hS, ?_⟩
    have hlen : vs.length ≤ F.N.length := by rw [hl]; exact h5
    obtain ⟨fpf, S⟩ := start_ok F hlen har ex hF nF
    have hal : ars.length = F.ps.length := by
      obtain ⟨_, _, g, _⟩ := ars_at har
      rw [← g, hl]
    have hvl : vs.length = ars.length := by rw [hl, hal]
    refine ⟨_, fpf, Hb, startE F ars, S, ?_⟩
    have hrun : cs fns gv (d + 1) f ars = endF ars (exs (cs fns gv d) gv F.body (startE F ars)) := by
      show (match fns f with | some F => runF (cs fns gv d) gv F ars | none => .bad) = _
      rw [hf]
      show runF _ _ _ _ = _
      unfold runF
      rw [if_pos hal]
    rw [hrun] at q
    have kpF : ∀ {fpf' : Nat → List Addr} {Hb' H' : Hp} {σ' : L2.St} {ρ' : Env}, StR K all1 (bpOf vs) ⟨Fk, fun _ => False, H⟩ fpf' Hb' H' σ' ρ' → ∀ a, Fk a → H' a = H a ∧ Hb' a = none := fun S' a ha => ⟨(S'.fr a (.inl ha)).1, (S'.fr a (.inl ha)).2.1⟩
    have fin : ∀ {o : Ow} {ρ' : Env} {Hb' H' : Hp} {σ' : L2.St} {fpf' : Nat → List Addr} {v : V} {fp1 : List Addr}, (match finF ars o ρ' with
        | .ok o outs => ∀ v Hb' H' fp1 fp2, Same Hb Hb' → Same Hb' H' → (∀ a, Fk a → H' a = H a ∧ Hb' a = none) → RO K Hb' H' v o fp1 → OutRs K Hb' H' vs ars outs fp2 → Disj fp1 fp2 → (∀ a, a ∈ fp1 ∨ a ∈ fp2 → ¬ Fk a) → Q v H'
        | .exc c => ∀ Hb' H', Same Hb Hb' → Same Hb' H' → (∀ a, Fk a → H' a = H a ∧ Hb' a = none) → E (cls c) none H'
        | .bad => False) → Same Hb Hb' → StR K all1 (bpOf vs) ⟨Fk, fun _ => False, H⟩ fpf' Hb' H' σ' ρ' → RVl K ⟨Fk, fun _ => False, H⟩ fpf' Hb' H' v (.ow o) fp1 → Q v H' := by
      intro o ρ' Hb' H' σ' fpf' v fp1 hq e S' r
      unfold finF at hq
      cases ho : outsE 0 ars ρ' with
      | none => rw [ho] at hq; exact hq.elim
      | some outs =>
        rw [ho] at hq
        obtain ⟨fp2, g1, g2⟩ := outs_ok S' ho hvl fun j v p hv hp => by
          rw [Nat.zero_add] at hp
          have := bpOf_mem.mp hp
          rw [hv] at this
          exact Option.some.inj this
        refine hq v Hb' H' fp1 fp2 e S'.ex (kpF S') r.1 g1 (fun a h1 h2 => ?_) fun a ha q => ?_
        · obtain ⟨j, _, hm⟩ := g2 a h2; exact r.2.2 j a hm h1
        · rcases ha with ha | ha
          · exact r.2.1 a ha (.inl q)
          · obtain ⟨j, _, hm⟩ := g2 a ha; exact S'.nf j a hm (.inl q)
    generalize exs (cs fns gv d) gv F.body (startE F ars) = res at q
    cases res with
    | nx ρ' => exact fun Hb' H' σ' fpf' e S' => fin q e S' (.d .non)
    | rt o ρ' => exact fun Hb' H' σ' fpf' v fp e S' r => fin q e S' r
    | exc c ρ' => exact fun Hb' H' σ' fpf' e S' => q Hb' H' e S'.ex (kpF S')
    | bad => exact q
/-- the law itself, as its caller sees it -/
def lawSp (K : PySem.W.Frag) : Sp := fun vs H Q _ => ∃ (a : Addr) (ns : List Int), vs = [.ref a] ∧ ns.length ≤ 63 ∧ SqL K H a (ns.map V.int) ∧ ∀ H', Q (.bl true) H'
theorem law_weak {fns : Nat → Option IFn} {gv : Nat → Option D} {f d : Nat} (h : ∀ ns : List Int, ns.length ≤ 63 → cs fns gv d f [.v (.ow (.d (.scr ns)))] = .ok (.d (.bl true)) []) {vs : List V} {Q : VK} {E : XK} (q : lawSp K vs H Q E) : spC K (cs fns gv d) cls f 1 vs H Q E := by
  obtain ⟨a, ns, rfl, hl, hS, q⟩ := q
  refine ⟨rfl, fun _ => False, H, [.v (.ow (.d (.scr ns)))], [] ++ [], .own (.d (.scr hS)) .nil fun _ h => (nomatch h), fun _ _ e => e, fun _ h => h.elim, fun _ h => (nomatch h), ?_⟩
  rw [h ns hl]
  intro v Hb' H' fp1 fp2 e1 e2 k ro _ _ _
  have := ro_d' ro
  cases this
  exact q H'
theorem law_sp2 {a : Addr} {ns : List Int} (hl : ns.length ≤ 63) (hS : SqL K H a (ns.map V.int)) : lawSp K [.ref a] H (fun v _ => v = .bl true) fun _ _ _ => False := ⟨a, ns, rfl, hl, hS, fun _ => rfl⟩
/-- the law itself -/
theorem law_sp {fns : Nat → Option IFn} {gv : Nat → Option D} {f d : Nat} {a : Addr} {ns : List Int} (h : cs fns gv d f [.v (.ow (.d (.scr ns)))] = .ok (.d (.bl true)) []) (hS : SqL K H a (ns.map V.int)) : spC K (cs fns gv d) cls f 1 [.ref a] H (fun v _ => v = .bl true) fun _ _ _ => False := by
  refine ⟨rfl, fun _ => False, H, [.v (.ow (.d (.scr ns)))], [] ++ [], .own (.d (.scr hS)) .nil fun _ h => (nomatch h), fun _ _ e => e, fun _ h => h.elim, fun _ h => (nomatch h), ?_⟩
  rw [h]
  intro v Hb' H' fp1 fp2 e1 e2 k ro _ _ _
  have := ro_d' ro
  cases this
  rfl
theorem cx_no {P : Program} {w : World} {H : Hp} {s : Shared} {e : Value} {s' : Shared} (h : L2N.CX P w [] H s (fun _ _ _ => False) e s') : False := by
  obtain ⟨_, _, _, _, _, _, _, _, _, _, _, _, z⟩ := h
  exact z.elim
end
end WM

/-! WM: rules to run the evaluator by rewriting. -/
namespace WM
open PySem L2
section
variable {α β : Type} {C : CallS} {gv : Nat → Option D} {M : Nat → Bool} {ρ ρ' ρ1 : Env} {ms : List Nat}
theorem x_bind_ok {a : α} {k : α → Env → R β} : R.bind (.ok a ρ) k = k a ρ := id rfl
theorem x_bind_exc {c : Nat} {k : α → Env → R β} : R.bind (.exc c ρ) k = .exc c ρ := id rfl
theorem x_thn_ok {a : α} {k : α → Env → RS} : R.thn (.ok a ρ) k = k a ρ := id rfl
theorem x_thn_exc {c : Nat} {k : α → Env → RS} : R.thn (.exc c ρ) k = .exc c ρ := id rfl
theorem x_nx {k : Env → RS} : RS.thn (.nx ρ) k = k ρ := id rfl
theorem x_rt {o : Ow} {k : Env → RS} : RS.thn (.rt o ρ) k = .rt o ρ := id rfl
theorem x_ex {c : Nat} {k : Env → RS} : RS.thn (.exc c ρ) k = .exc c ρ := id rfl
theorem x_of {a : α} : R.of (some a) ρ = .ok a ρ := id rfl
def oS : Option Env → RS
  | some ρ => .nx ρ
  | none => .bad
theorem x_oS : oS (some ρ) = .nx ρ := id rfl
/-! merging -/
def mergeL (ms : List Nat) : Nat → Env → Env → Env
  | _, [], _ => []
  | k, a :: l, [] => (if ms.contains k then .no else a) :: mergeL ms (k + 1) l []
  | k, a :: l, b :: l' => (if ms.contains k then b else a) :: mergeL ms (k + 1) l l'
def mergeY (ms : List Nat) : Nat → Env → Env → Env
  | _, [], _ => []
  | k, a :: l, [] => (if ms.contains k then .no else a) :: mergeY ms (k + 1) l []
  | k, a :: l, b :: l' => (if ms.contains k then unb b else a) :: mergeY ms (k + 1) l l'
theorem range_shift {γ : Type} (n k : Nat) (f : Nat → γ) : (List.range (n + 1)).map (fun i => f (i + k)) = f k :: (List.range n).map fun i => f (i + (k + 1)) := by
  rw [List.range_succ_eq_map, List.map_cons, List.map_map, Nat.zero_add]
  refine congrArg (f k :: ·) (List.map_congr_left fun i _ => ?_)
  show f (i + 1 + k) = _
  congr 1; omega
theorem mergeL_eq (ms : List Nat) : ∀ (ρ ρ' : Env) (k : Nat), mergeL ms k ρ ρ' = (List.range ρ.length).map fun i => if ms.contains (i + k) then ρ'.getD i .no else ρ.getD i .no
  | [], _, _ => rfl
  | a :: l, [], k => by
    have := range_shift l.length 0 fun i => if ms.contains (i + k) then Sl.no else (a :: l).getD i .no
    show _ = (List.range (l.length + 1)).map _
    simp only [List.getD_nil]
    refine Eq.trans ?_ this.symm
    unfold mergeL
    rw [mergeL_eq ms l [] (k + 1)]
    simp only [List.getD_nil, Nat.zero_add, List.getD_cons_zero]
    congr 1
    refine List.map_congr_left fun i _ => ?_
    rw [show i + 1 + k = i + (k + 1) by omega]; rfl
  | a :: l, b :: l', k => by
    have := range_shift l.length 0 fun i => if ms.contains (i + k) then (b :: l').getD i .no else (a :: l).getD i .no
    show _ = (List.range (l.length + 1)).map _
    refine Eq.trans ?_ this.symm
    unfold mergeL
    rw [mergeL_eq ms l l' (k + 1)]
    simp only [Nat.zero_add, List.getD_cons_zero]
    congr 1
    refine List.map_congr_left fun i _ => ?_
    rw [show i + 1 + k = i + (k + 1) by omega]; rfl
theorem mergeY_eq (ms : List Nat) : ∀ (ρ ρ' : Env) (k : Nat), mergeY ms k ρ ρ' = (List.range ρ.length).map fun i => if ms.contains (i + k) then unb (ρ'.getD i .no) else ρ.getD i .no
  | [], _, _ => rfl
  | a :: l, [], k => by
    have := range_shift l.length 0 fun i => if ms.contains (i + k) then Sl.no else (a :: l).getD i .no
    show _ = (List.range (l.length + 1)).map _
    simp only [List.getD_nil]
    refine Eq.trans ?_ this.symm
    unfold mergeY
    rw [mergeY_eq ms l [] (k + 1)]
    simp only [List.getD_nil, Nat.zero_add, List.getD_cons_zero]
    congr 1
    refine List.map_congr_left fun i _ => ?_
    rw [show i + 1 + k = i + (k + 1) by omega]; rfl
  | a :: l, b :: l', k => by
    have := range_shift l.length 0 fun i => if ms.contains (i + k) then unb ((b :: l').getD i .no) else (a :: l).getD i .no
    show _ = (List.range (l.length + 1)).map _
    refine Eq.trans ?_ this.symm
    unfold mergeY
    rw [mergeY_eq ms l l' (k + 1)]
    simp only [Nat.zero_add, List.getD_cons_zero]
    congr 1
    refine List.map_congr_left fun i _ => ?_
    rw [show i + 1 + k = i + (k + 1) by omega]; rfl
theorem x_merge : merge (Mof ms) ρ ρ' = mergeL ms 0 ρ ρ' := by rw [mergeL_eq]; rfl
theorem x_mergeX : mergeX (Mof ms) ρ ρ' = mergeY ms 0 ρ ρ' := by rw [mergeY_eq]; rfl
theorem x_mL0 {k : Nat} : mergeL ms k [] ρ' = [] := id rfl
theorem x_mL1 {k : Nat} {a b : Sl} {l l' : Env} : mergeL ms k (a :: l) (b :: l') = (if ms.contains k = true then b else a) :: mergeL ms (k + 1) l l' := id rfl
theorem x_mY0 {k : Nat} : mergeY ms k [] ρ' = [] := id rfl
theorem x_mY1 {k : Nat} {a b : Sl} {l l' : Env} : mergeY ms k (a :: l) (b :: l') = (if ms.contains k = true then unb b else a) :: mergeY ms (k + 1) l l' := id rfl
theorem x_unb0 : unb .no = .no := id rfl
theorem x_unb1 {o : Ow} : unb (.val o) = .val o := id rfl
theorem x_unb2 {o : Ow} : unb (.ref o) = .ref o := id rfl
theorem x_unb3 {o : Ow} : unb (.bor o) = .no := id rfl
/-! statements -/
theorem x_exs0 : exs C gv .nil ρ = .nx ρ := by simp only [exs]
theorem x_exs1 {s : IS} {ss : ISs} : exs C gv (.cons s ss) ρ = (ex C gv s ρ).thn (exs C gv ss) := by simp only [exs]
def frzS (ss : Env → RS) (i : Nat) (ρ : Env) : Option Sl → RS
  | some (.val o) => ss (ρ.set i (.val (.d o.toD)))
  | some (.bor _) => ss ρ
  | _ => .bad
theorem x_exs2 {i : Nat} {ss : ISs} : exs C gv (.frz i ss) ρ = frzS (exs C gv ss) i ρ ρ[i]? := by
  simp only [exs, frzS]
  try (split <;> simp_all)
theorem x_frz1 {ss : Env → RS} {i : Nat} {o : Ow} : frzS ss i ρ (some (.val o)) = ss (ρ.set i (.val (.d o.toD))) := id rfl
theorem x_frz2 {ss : Env → RS} {i : Nat} {o : Ow} : frzS ss i ρ (some (.bor o)) = ss ρ := id rfl
def finX (ms : List Nat) (ρ : Env) : R Vl → R Vl
  | .ok x ρ1 => if x.isBw && !noOwn (Mof ms) ρ then .bad else .ok x (mergeX (Mof ms) ρ ρ1)
  | .exc c ρ1 => .exc c (mergeX (Mof ms) ρ ρ1)
  | .bad => .bad
theorem x_evX {e : IE} : evX C gv ms e ρ = finX ms ρ (ev C gv (Mof ms) e ρ) := by
  unfold evX lift finX
  cases ev C gv (Mof ms) e ρ <;> rfl
theorem x_fin1 {d : D} : finX ms ρ (.ok (dv d) ρ1) = .ok (dv d) (mergeX (Mof ms) ρ ρ1) := id rfl
theorem x_fin2 {o : Ow} : finX ms ρ (.ok (.ow o) ρ1) = .ok (.ow o) (mergeX (Mof ms) ρ ρ1) := id rfl
theorem x_fin3 {c : Nat} : finX ms ρ (.exc c ρ1) = .exc c (mergeX (Mof ms) ρ ρ1) := id rfl
theorem x_set {fz : Bool} {t : Tg} {e : IE} : ex C gv (.set ms fz t e) ρ = (evX C gv ms e ρ).thn fun x ρ1 => oS (putT ρ1 t (if fz = true then x.frz else x)) := by
  simp only [ex]
  first
  | rfl
  | (congr 1; funext x ρ1
     split <;> simp_all [oS])
theorem x_par {i j : Nat} {a b : IE} (h : (i == j) = false) : ex C gv (.par ms i j a b) ρ = (ev2 C gv ms a b ρ).thn fun p ρ1 => oS (putAll ρ1 [i, j] [p.1, p.2]) := by
  simp only [ex]
  first
  | rfl
  | (congr 1; funext x ρ1
     have : i ≠ j := by simpa using h
     split <;> simp_all [oS])
def fin2 (ms : List Nat) (ρ : Env) : R (Vl × Vl) → R (Vl × Vl)
  | .ok p ρ1 => if (p.1.isBw || p.2.isBw) && !noOwn (Mof ms) ρ then .bad else .ok p (mergeX (Mof ms) ρ ρ1)
  | .exc c ρ1 => .exc c (mergeX (Mof ms) ρ ρ1)
  | .bad => .bad
theorem x_ev2 {a b : IE} : ev2 C gv ms a b ρ = fin2 ms ρ ((ev C gv (Mof ms) a ρ).bind fun x ρ1 => (ev C gv (Mof ms) b ρ1).bind fun y ρ2 => .ok (x, y) ρ2) := by
  unfold ev2 lift fin2
  cases ((ev C gv (Mof ms) a ρ).bind fun x ρ1 => (ev C gv (Mof ms) b ρ1).bind fun y ρ2 => (R.ok (x, y) ρ2 : R (Vl × Vl))) <;> rfl
theorem x_fin2a {p q : Ow} : fin2 ms ρ (.ok (.ow p, .ow q) ρ1) = .ok (.ow p, .ow q) (mergeX (Mof ms) ρ ρ1) := id rfl
theorem x_fin2b {p q : D} : fin2 ms ρ (.ok (dv p, dv q) ρ1) = .ok (dv p, dv q) (mergeX (Mof ms) ρ ρ1) := id rfl
def setO (ρ : Env) (i : Nat) (o : Option Ow) (k : Option Int) (os : Option (List Ow)) : RS :=
  match o, k, os with
  | some o, some k, some os => (match ixN os.length k with
    | some j => oS (backL ρ i (os.set j o))
    | none => .bad)
  | _, _, _ => .bad
theorem x_set1 {i : Nat} {ix e : IE} : ex C gv (.set1 ms i ix e) ρ = if (ownL ρ i).isNone then .bad else (evX C gv ms e ρ).thn fun x ρ1 => (evX C gv ms ix ρ1).thn fun y ρ2 => setO ρ2 i x.own (vInt y) (ownL ρ2 i) := by
  simp only [ex]
  split
  · rfl
  · first
    | rfl
    | (congr 1; funext x ρ1; congr 1; funext y ρ2
       unfold setO
       split <;> simp_all [oS]
       split <;> simp_all [oS]
       split <;> simp_all [oS])
theorem x_setO {i : Nat} {o : Ow} {k : Int} {os : List Ow} {j : Nat} (h : ixN os.length k = some j) : setO ρ i (some o) (some k) (some os) = oS (backL ρ i (os.set j o)) := by
  unfold setO; simp only [h]
def swpS (ρ : Env) (i : Nat) (a : Option (List Ow)) (b c : Option Int) : Option Env :=
  a.bind fun os => b.bind fun k => c.bind fun l => (ixN os.length k).bind fun j => (ixN os.length l).bind fun m => (os[j]?).bind fun o1 => (os[m]?).bind fun o2 => backL ρ i ((os.set j o2).set m o1)
theorem x_swp {i a b : Nat} : ex C gv (.swp i a b) ρ = oS (swpS ρ i (ownL ρ i) (iAt ρ a) (iAt ρ b)) := by
  simp only [ex]
  show _ = oS (swpO ρ i a b)
  cases swpO ρ i a b <;> rfl
theorem x_swpS {i : Nat} {os : List Ow} {k l : Int} {j m : Nat} {o1 o2 : Ow} (h1 : ixN os.length k = some j) (h2 : ixN os.length l = some m) (h3 : os[j]? = some o1) (h4 : os[m]? = some o2) : swpS ρ i (some os) (some k) (some l) = backL ρ i ((os.set j o2).set m o1) := by
  unfold swpS
  simp only [Option.bind_some, h1, h2, h3, h4]
def apopT (ρ : Env) (i : Nat) (o : Ow) (b : Option (List Ow)) : Option Env := b.bind fun os => if small os.length then backL ρ i (os ++ [o]) else none
def apopU (i : Nat) (o : Ow) (b : Option Env) : Option Env := b.bind fun ρ2 => apopT ρ2 i o (ownL ρ2 i)
def apopS (ρ : Env) (i j : Nat) (a : Option Int) (b : Option (List Ow)) : Option Env :=
  if i = j then none else a.bind fun k => b.bind fun ps => (ixN ps.length k).bind fun n => (ps[n]?).bind fun o => if small ps.length then apopU i o (backL ρ j (ps.eraseIdx n)) else none
theorem x_apop {i j : Nat} {e : IE} : ex C gv (.apop ms i j e) ρ = if (ownL ρ i).isNone || (ownL ρ j).isNone then .bad else (evX C gv ms e ρ).thn fun x ρ1 => oS (apopS ρ1 i j (vInt x) (ownL ρ1 j)) := by
  simp only [ex]
  split
  · rfl
  · first
    | rfl
    | (congr 1; done)
    | (congr 1; funext x ρ1
       show _ = oS (apopO i j x ρ1)
       cases apopO i j x ρ1 <;> rfl)
theorem x_apopS {i j : Nat} {ps : List Ow} {k : Int} {n : Nat} {o : Ow} (hij : (i == j) = false) (h1 : ixN ps.length k = some n) (h2 : ps[n]? = some o) (h3 : small ps.length = true) : apopS ρ i j (some k) (some ps) = apopU i o (backL ρ j (ps.eraseIdx n)) := by
  have e : i ≠ j := by simpa using hij
  unfold apopS
  simp only [Option.bind_some, h1, h2, h3, if_neg e, if_true]
theorem x_apopU {i : Nat} {o : Ow} {ρ2 : Env} : apopU i o (some ρ2) = apopT ρ2 i o (ownL ρ2 i) := id rfl
theorem x_apopT {i : Nat} {o : Ow} {os : List Ow} (h : small os.length = true) : apopT ρ i o (some os) = backL ρ i (os ++ [o]) := by
  unfold apopT
  simp only [Option.bind_some, h, if_true]
def appO (ρ : Env) (i : Nat) (o : Option Ow) (os : Option (List Ow)) : RS :=
  match o, os with
  | some o, some os => if small os.length then oS (backL ρ i (os ++ [o])) else .bad
  | _, _ => .bad
theorem x_app {i : Nat} {e : IE} : ex C gv (.app ms i e) ρ = if (ownL ρ i).isNone then .bad else (evX C gv ms e ρ).thn fun x ρ1 => appO ρ1 i x.own (ownL ρ1 i) := by
  simp only [ex]
  split
  · rfl
  · first
    | rfl
    | (congr 1; funext x ρ1
       unfold appO
       split <;> simp_all [oS]
       split <;> simp_all [oS]
       split <;> simp_all [oS])
theorem x_appO {i : Nat} {o : Ow} {os : List Ow} (h : small os.length = true) : appO ρ i (some o) (some os) = oS (backL ρ i (os ++ [o])) := by
  unfold appO; simp only [h, if_true]
def extO (ρ : Env) (i : Nat) (bw : Bool) (o os : Option (List Ow)) : RS :=
  match o, os with
  | some ps, some os => if small (os.length + ps.length) && !bw then oS (backL ρ i (os ++ ps)) else .bad
  | _, _ => .bad
theorem x_ext {i : Nat} {e : IE} : ex C gv (.ext ms i e) ρ = if (ownL ρ i).isNone then .bad else (evX C gv ms e ρ).thn fun x ρ1 => extO ρ1 i x.isBw x.parts (ownL ρ1 i) := by
  simp only [ex]
  split
  · rfl
  · first
    | rfl
    | (congr 1; funext x ρ1
       unfold extO
       split <;> simp_all [oS]
       split <;> simp_all [oS]
       split <;> simp_all [oS])
def augO (ρ : Env) (i : Nat) (j : Int) (k : Option Int) : RS :=
  match k with
  | some k => oS (putC ρ i (dv (.int (j + k))))
  | none => .bad
def augS (f : Env → R Vl) (ρ : Env) (i : Nat) : Option Sl → RS
  | some (.val (.d (.int j))) => (f ρ).thn fun x ρ1 => augO ρ1 i j (vInt x)
  | _ => .bad
theorem x_aug {i : Nat} {e : IE} : ex C gv (.aug ms i e) ρ = augS (evX C gv ms e) ρ i ρ[i]? := by
  simp only [ex]
  unfold augS
  cases ρ[i]? with
  | none => rfl
  | some s => cases s with
    | no => rfl
    | bor o => rfl
    | ref o => rfl
    | val o => cases o with
      | l os => rfl
      | m _ _ => rfl
      | d x => cases x with
        | int j =>
          first
            | rfl
            | (dsimp only
               congr 1; funext x ρ1
               unfold augO
               cases vInt x with
               | none => rfl
               | some k =>
                 dsimp only
                 cases putC ρ1 i (dv (.int (j + k))) <;> rfl)
        | _ => rfl
theorem x_augS {f : Env → R Vl} {i : Nat} {j : Int} : augS f ρ i (some (.val (.d (.int j)))) = (f ρ).thn fun x ρ1 => augO ρ1 i j (vInt x) := id rfl
theorem x_augO {i : Nat} {j k : Int} : augO ρ i j (some k) = oS (putC ρ i (dv (.int (j + k)))) := id rfl
theorem x_iff {c : IE} {a b : ISs} : ex C gv (.iff ms c a b) ρ = (evX C gv ms c ρ).thn (tst (exs C gv a) (exs C gv b)) := by simp only [ex]
theorem x_tst {a b : Env → RS} {c : Bool} : tst a b (dv (.bl c)) ρ = if c = true then a ρ else b ρ := by cases c <;> rfl
theorem x_forr {t : Tg} {it : IT} {b : ISs} : ex C gv (.forr ms t it b) ρ = (evIX C gv ms it ρ).thn fun xs ρ1 => forL t (exs C gv b) xs ρ1 := by simp only [ex]
def finI (ms : List Nat) (ρ : Env) : R (List Itm) → R (List Itm)
  | .ok x ρ1 => if !Mof ms noW && !noOwn (Mof ms) ρ then .bad else .ok x (mergeX (Mof ms) ρ ρ1)
  | .exc c ρ1 => .exc c (mergeX (Mof ms) ρ ρ1)
  | .bad => .bad
theorem x_evIX {it : IT} : evIX C gv ms it ρ = finI ms ρ (evI C gv (Mof ms) it ρ) := by
  unfold evIX lift finI
  cases evI C gv (Mof ms) it ρ <;> rfl
def noOwnL (ms : List Nat) : Nat → Env → Bool
  | _, [] => true
  | k, s :: l => (ms.contains k || !(match s with | .val (.l _) => true | .ref (.l _) => true | .val (.m _ _) => true | .ref (.m _ _) => true | _ => false)) && noOwnL ms (k + 1) l
theorem x_finI {xs : List Itm} (h : Mof ms noW = true ∨ noOwn (Mof ms) ρ = true) : finI ms ρ (.ok xs ρ1) = .ok xs (mergeX (Mof ms) ρ ρ1) := by
  unfold finI
  rcases h with h | h <;> simp [h]
theorem x_whl {n : Nat} {c : IE} {b : ISs} : ex C gv (.whl n ms c b) ρ = whlL (evX C gv ms c) (exs C gv b) n ρ := by simp only [ex]
def retO (ρ : Env) : Option Ow → RS
  | some o => .rt o ρ
  | none => .bad
theorem x_ret {e : IE} : ex C gv (.ret ms e) ρ = (evX C gv ms e ρ).thn fun x ρ1 => retO ρ1 x.own := by
  simp only [ex]
  first
  | rfl
  | (congr 1; funext x ρ1
     unfold retO
     split <;> simp_all)
theorem x_retO {o : Ow} : retO ρ (some o) = .rt o ρ := id rfl
theorem x_exp {e : IE} : ex C gv (.exp ms e) ρ = (evX C gv ms e ρ).thn fun _ ρ1 => .nx ρ1 := by simp only [ex]
/-! slots -/
def putS (ρ : Env) (i : Nat) (s : Sl) : Option Sl → Option Env
  | some (.ref _) => none
  | some _ => some (ρ.set i s)
  | none => none
theorem x_putC {i : Nat} {x : Vl} : putC ρ i x = putS ρ i (slOf x) ρ[i]? := by
  unfold putC putS
  cases ρ[i]? with
  | none => rfl
  | some y => cases y <;> rfl
theorem x_put0 {i : Nat} {s : Sl} : putS ρ i s (some .no) = some (ρ.set i s) := id rfl
theorem x_put1 {i : Nat} {s : Sl} {o : Ow} : putS ρ i s (some (.val o)) = some (ρ.set i s) := id rfl
theorem x_put2 {i : Nat} {s : Sl} {o : Ow} : putS ρ i s (some (.bor o)) = some (ρ.set i s) := id rfl
theorem x_slOf1 {d : D} : slOf (dv d) = .val (.d d) := id rfl
theorem x_slOf2 {o : Ow} : slOf (.ow o) = .val o := id rfl
theorem x_slOf3 {o : Ow} : slOf (.bw o) = .bor o := id rfl
theorem x_putT1 {i : Nat} {x : Vl} : putT ρ (.n i) x = putC ρ i x := id rfl
theorem x_putT2 {is : List Nat} {xs : List D} : putT ρ (.t is) (dv (.tup xs)) = putAll ρ is (xs.map dv) := id rfl
theorem x_putT3 {is : List Nat} {xs : List D} : putT ρ (.t is) (dv (.lst xs)) = putAll ρ is (xs.map dv) := id rfl
theorem x_putA0 : putAll ρ [] [] = some ρ := id rfl
theorem x_putA1 {i : Nat} {is : List Nat} {x : Vl} {xs : List Vl} : putAll ρ (i :: is) (x :: xs) = (putC ρ i x).bind fun ρ' => putAll ρ' is xs := id rfl
theorem x_frzv1 {d : D} : (dv d).frz = dv d := id rfl
theorem x_frzv2 {os : List Ow} : (Vl.ow (.l os)).frz = dv (.lst (Ow.toDs os)) := id rfl
theorem x_own1 {d : D} : (dv d).own = some (.d d) := id rfl
theorem x_own2 {o : Ow} : (Vl.ow o).own = some o := id rfl
theorem x_vInt {i : Int} : vInt (dv (.int i)) = some i := id rfl
def ownS : Option Sl → Option (List Ow)
  | some (.val (.l os)) => some os
  | some (.ref (.l os)) => some os
  | _ => none
theorem x_ownL {i : Nat} : ownL ρ i = ownS ρ[i]? := by
  unfold ownL ownS
  split <;> simp_all
theorem x_ownS1 {os : List Ow} : ownS (some (.val (.l os))) = some os := id rfl
theorem x_ownS2 {os : List Ow} : ownS (some (.ref (.l os))) = some os := id rfl
def backS (ρ : Env) (i : Nat) (os : List Ow) : Option Sl → Option Env
  | some (.val (.l _)) => some (ρ.set i (.val (.l os)))
  | some (.ref (.l _)) => some (ρ.set i (.ref (.l os)))
  | _ => none
theorem x_backL {i : Nat} {os : List Ow} : backL ρ i os = backS ρ i os ρ[i]? := by
  unfold backL backS
  split <;> simp_all
theorem x_backS1 {i : Nat} {os os' : List Ow} : backS ρ i os (some (.val (.l os'))) = some (ρ.set i (.val (.l os))) := id rfl
theorem x_backS2 {i : Nat} {os os' : List Ow} : backS ρ i os (some (.ref (.l os'))) = some (ρ.set i (.ref (.l os))) := id rfl
/-! expressions -/
theorem x_c {x : D} : ev C gv M (.c x) ρ = .ok (dv x) ρ := by simp only [ev]
def varV (b : Bool) (ρ : Env) : Option Sl → R Vl
  | some (.val (.d x)) => .ok (dv x) ρ
  | some (.val (.l os)) => if b = true then .bad else .ok (.bw (.l os)) ρ
  | some (.ref (.d x)) => .ok (dv x) ρ
  | some (.ref (.l os)) => if b = true then .bad else .ok (.bw (.l os)) ρ
  | some (.val (.m ks ds)) => if b = true then .bad else .ok (.bw (.m ks ds)) ρ
  | some (.ref (.m ks ds)) => if b = true then .bad else .ok (.bw (.m ks ds)) ρ
  | some (.bor o) => .ok o.lend ρ
  | _ => .bad
theorem x_v {i : Nat} : ev C gv M (.v i) ρ = varV (M i) ρ ρ[i]? := by
  simp only [ev]
  unfold varV
  cases h : ρ[i]? with
  | none => rfl
  | some s => cases s with
    | no => rfl
    | val o => cases o <;> rfl
    | ref o => cases o <;> rfl
    | bor o => rfl
theorem x_v1 {b : Bool} {x : D} : varV b ρ (some (.val (.d x))) = .ok (dv x) ρ := id rfl
theorem x_v2 {os : List Ow} : varV false ρ (some (.val (.l os))) = .ok (.bw (.l os)) ρ := id rfl
theorem x_v3 {os : List Ow} : varV false ρ (some (.ref (.l os))) = .ok (.bw (.l os)) ρ := id rfl
theorem x_v4 {b : Bool} {x : D} : varV b ρ (some (.bor (.d x))) = .ok (dv x) ρ := id rfl
theorem x_v5 {b : Bool} {os : List Ow} : varV b ρ (some (.bor (.l os))) = .ok (.bw (.l os)) ρ := id rfl
theorem x_v6 {ks : List (Int × Int)} {ds : List D} : varV false ρ (some (.val (.m ks ds))) = .ok (.bw (.m ks ds)) ρ := id rfl
theorem x_v7 {ks : List (Int × Int)} {ds : List D} : varV false ρ (some (.ref (.m ks ds))) = .ok (.bw (.m ks ds)) ρ := id rfl
theorem x_v8 {b : Bool} {ks : List (Int × Int)} {ds : List D} : varV b ρ (some (.bor (.m ks ds))) = .ok (.bw (.m ks ds)) ρ := id rfl
def mvV (b : Bool) (i : Nat) (ρ : Env) : Option Sl → R Vl
  | some (.val (.l os)) => if b = true then .ok (.ow (.l os)) (ρ.set i .no) else .bad
  | some (.val (.m ks ds)) => if b = true then .ok (.ow (.m ks ds)) (ρ.set i .no) else .bad
  | _ => .bad
theorem x_mv {i : Nat} : ev C gv M (.mv i) ρ = mvV (M i) i ρ ρ[i]? := by
  simp only [ev]
  unfold mvV
  split <;> simp_all
theorem x_mv1 {i : Nat} {os : List Ow} : mvV true i ρ (some (.val (.l os))) = .ok (.ow (.l os)) (ρ.set i .no) := id rfl
theorem x_mv2 {i : Nat} {ks : List (Int × Int)} {ds : List D} : mvV true i ρ (some (.val (.m ks ds))) = .ok (.ow (.m ks ds)) (ρ.set i .no) := id rfl
theorem x_dnew : ev C gv M .dnew ρ = .ok (.ow (.m [] [])) ρ := by simp only [ev]
theorem x_dget {a b : IE} : ev C gv M (.dget a b) ρ = (ev C gv M a ρ).bind fun x ρ1 => (ev C gv M b ρ1).bind fun y ρ2 => R.of (binV .dget x y) ρ2 := by simp only [ev]
theorem x_frzE {a : IE} : ev C gv M (.frz a) ρ = (ev C gv M a ρ).bind fun x ρ1 => R.of (unV .frz x) ρ1 := by simp only [ev]
theorem x_bin {o : BO} {a b : IE} : ev C gv M (.bin o a b) ρ = (ev C gv M a ρ).bind fun x ρ1 => (ev C gv M b ρ1).bind fun y ρ2 => R.of (binV o x y) ρ2 := by simp only [ev]
theorem x_un {o : UO} {a : IE} : ev C gv M (.un o a) ρ = (ev C gv M a ρ).bind fun x ρ1 => R.of (unV o x) ρ1 := by simp only [ev]
theorem x_and {a b : IE} : ev C gv M (.and a b) ρ = (ev C gv M a ρ).bind (andV (ev C gv M b)) := by simp only [ev]; rfl
theorem x_or {a b : IE} : ev C gv M (.or a b) ρ = (ev C gv M a ρ).bind (orV (ev C gv M b)) := by simp only [ev]; rfl
theorem x_andV {f : Env → R Vl} {c : Bool} : andV f (dv (.bl c)) ρ = if c = true then f ρ else .ok (dv (.bl false)) ρ := by cases c <;> rfl
theorem x_orV {f : Env → R Vl} {c : Bool} : orV f (dv (.bl c)) ρ = if c = true then .ok (dv (.bl true)) ρ else f ρ := by cases c <;> rfl
def tupO (ρ : Env) : Option (List D) → R Vl
  | some ds => if small ds.length then .ok (dv (.tup ds)) ρ else .bad
  | none => .bad
theorem x_tup {es : IEs} : ev C gv M (.tup es) ρ = (evs C gv M es ρ).bind fun xs ρ1 => tupO ρ1 (xs.mapM Vl.data) := by
  simp only [ev]
  first
  | rfl
  | (congr 1; funext xs ρ1
     unfold tupO
     split <;> simp_all)
def lstO (ρ : Env) : Option (List Ow) → R Vl
  | some os => if small os.length then .ok (.ow (.l os)) ρ else .bad
  | none => .bad
theorem x_lst {es : IEs} : ev C gv M (.lst es) ρ = (evs C gv M es ρ).bind fun xs ρ1 => lstO ρ1 (xs.mapM Vl.own) := by
  simp only [ev]
  first
  | rfl
  | (congr 1; funext xs ρ1
     unfold lstO
     split <;> simp_all)
theorem x_tupO {ds : List D} (h : small ds.length = true) : tupO ρ (some ds) = .ok (dv (.tup ds)) ρ := by unfold tupO; simp only [h, if_true]
theorem x_lstO {os : List Ow} (h : small os.length = true) : lstO ρ (some os) = .ok (.ow (.l os)) ρ := by unfold lstO; simp only [h, if_true]
theorem x_dat1 {d : D} : (dv d).data = some d := id rfl
theorem x_dat2 {os : List Ow} : (Vl.ow (.l os)).data = some (.lst (Ow.toDs os)) := id rfl
def mapO {γ δ : Type} (f : γ → Option δ) : List γ → Option (List δ)
  | [] => some []
  | x :: xs => (f x).bind fun y => (mapO f xs).map (y :: ·)
theorem mapM_eq {γ δ : Type} (f : γ → Option δ) : ∀ xs : List γ, xs.mapM f = mapO f xs
  | [] => rfl
  | x :: xs => by
    rw [List.mapM_cons, mapM_eq f xs]
    show ((f x).bind fun y => (mapO f xs).bind fun ys => some (y :: ys)) = (f x).bind fun y => (mapO f xs).map (y :: ·)
    cases f x with
    | none => rfl
    | some y => cases mapO f xs <;> rfl
theorem x_mapM {f : Vl → Option α} {xs : List Vl} : xs.mapM f = mapO f xs := mapM_eq f xs
theorem x_mapO0 {f : Vl → Option α} : mapO f [] = some [] := id rfl
theorem x_mapO1 {f : Vl → Option α} {x : Vl} {xs : List Vl} : mapO f (x :: xs) = (f x).bind fun y => (mapO f xs).map (y :: ·) := id rfl
theorem x_evs0 : evs C gv M .nil ρ = .ok [] ρ := by simp only [evs]
theorem x_evs1 {e : IE} {es : IEs} : evs C gv M (.cons e es) ρ = (ev C gv M e ρ).bind fun x ρ1 => (evs C gv M es ρ1).bind fun xs ρ2 => .ok (x :: xs) ρ2 := by simp only [evs]
theorem x_call {f : Nat} {as : IAs} : ev C gv M (.call f as) ρ = (evA C gv M as ρ).bind fun ags ρ1 => callR C M f ags ρ1 := by simp only [ev]
theorem x_evA0 : evA C gv M .nil ρ = .ok [] ρ := by simp only [evA]
theorem x_evA1 {e : IE} {as : IAs} : evA C gv M (.val e as) ρ = (ev C gv M e ρ).bind fun x ρ1 => (evA C gv M as ρ1).bind fun xs ρ2 => .ok (.v x :: xs) ρ2 := by simp only [evA]
def refA (f : Env → R (List Ag)) (i : Nat) (ρ : Env) : Option Sl → R (List Ag)
  | some (.val (.l _)) => (f ρ).bind fun xs ρ2 => .ok (.r i :: xs) ρ2
  | some (.ref (.l _)) => (f ρ).bind fun xs ρ2 => .ok (.r i :: xs) ρ2
  | some (.val (.m _ _)) => (f ρ).bind fun xs ρ2 => .ok (.r i :: xs) ρ2
  | some (.ref (.m _ _)) => (f ρ).bind fun xs ρ2 => .ok (.r i :: xs) ρ2
  | _ => .bad
theorem x_refA3 {f : Env → R (List Ag)} {i : Nat} {ks : List (Int × Int)} {ds : List D} : refA f i ρ (some (.val (.m ks ds))) = (f ρ).bind fun xs ρ2 => .ok (.r i :: xs) ρ2 := id rfl
theorem x_refA4 {f : Env → R (List Ag)} {i : Nat} {ks : List (Int × Int)} {ds : List D} : refA f i ρ (some (.ref (.m ks ds))) = (f ρ).bind fun xs ρ2 => .ok (.r i :: xs) ρ2 := id rfl
theorem x_evA2 {i : Nat} {as : IAs} : evA C gv M (.ref i as) ρ = refA (evA C gv M as) i ρ ρ[i]? := by
  simp only [evA]
  unfold refA
  split <;> simp_all
theorem x_refA1 {f : Env → R (List Ag)} {i : Nat} {os : List Ow} : refA f i ρ (some (.val (.l os))) = (f ρ).bind fun xs ρ2 => .ok (.r i :: xs) ρ2 := id rfl
theorem x_refA2 {f : Env → R (List Ag)} {i : Nat} {os : List Ow} : refA f i ρ (some (.ref (.l os))) = (f ρ).bind fun xs ρ2 => .ok (.r i :: xs) ρ2 := id rfl
def callO (ρ : Env) (is : List Nat) : FR → R Vl
  | .ok o outs => (match putArs ρ is outs with
    | some ρ' => .ok (.ow o) ρ'
    | none => .bad)
  | .exc c => .exc c (dropArs ρ is)
  | .bad => .bad
def callA (C : CallS) (f : Nat) : Option (List Ar) → FR
  | some ars => C f ars
  | none => .bad
theorem x_callR {f : Nat} {ags : List Ag} : callR C M f ags ρ = if (agRefs ags).Nodup then callO ρ (agRefs ags) (callA C f (getArs M ρ ags)) else .bad := by
  unfold callR callA
  split
  · cases getArs M ρ ags with
    | none => rfl
    | some ars =>
      dsimp only
      cases C f ars <;> rfl
  · rfl
theorem x_callA {f : Nat} {ars : List Ar} : callA C f (some ars) = C f ars := id rfl
def putO : Option Env → Ow → R Vl
  | some ρ', o => .ok (.ow o) ρ'
  | none, _ => .bad
theorem x_callO {is : List Nat} {o : Ow} {outs : List Ow} : callO ρ is (.ok o outs) = putO (putArs ρ is outs) o := by
  unfold callO putO
  dsimp only
  cases putArs ρ is outs <;> rfl
theorem x_callOe {is : List Nat} {c : Nat} : callO ρ is (.exc c) = .exc c (dropArs ρ is) := id rfl
theorem x_putO1 {d : D} : putO (some ρ) (.d d) = .ok (dv d) ρ := id rfl
theorem x_putO2 {os : List Ow} : putO (some ρ) (.l os) = .ok (.ow (.l os)) ρ := id rfl
theorem x_putO3 {ks : List (Int × Int)} {ds : List D} : putO (some ρ) (.m ks ds) = .ok (.ow (.m ks ds)) ρ := id rfl
theorem x_getA0 : getArs M ρ [] = some [] := id rfl
theorem x_getA1 {x : Vl} {r : List Ag} : getArs M ρ (.v x :: r) = (getArs M ρ r).map (Ar.v x :: ·) := id rfl
def getS (b : Bool) (r : Option (List Ar)) : Option Sl → Option (List Ar)
  | some (.val (.l os)) => if b = true then r.map (Ar.r (.l os) :: ·) else none
  | some (.ref (.l os)) => if b = true then r.map (Ar.r (.l os) :: ·) else none
  | some (.val (.m ks ds)) => if b = true then r.map (Ar.r (.m ks ds) :: ·) else none
  | some (.ref (.m ks ds)) => if b = true then r.map (Ar.r (.m ks ds) :: ·) else none
  | _ => none
theorem x_getA2 {i : Nat} {r : List Ag} : getArs M ρ (.r i :: r) = getS (M i) (getArs M ρ r) ρ[i]? := by
  show (match ρ[i]?, M i with
    | some (.val (.l os)), true => (getArs M ρ r).map (Ar.r (.l os) :: ·)
    | some (.ref (.l os)), true => (getArs M ρ r).map (Ar.r (.l os) :: ·)
    | some (.val (.m ks ds)), true => (getArs M ρ r).map (Ar.r (.m ks ds) :: ·)
    | some (.ref (.m ks ds)), true => (getArs M ρ r).map (Ar.r (.m ks ds) :: ·)
    | _, _ => none) = _
  unfold getS
  cases h : ρ[i]? with
  | none => rfl
  | some s => cases s with
    | no => rfl
    | bor o => rfl
    | val o => cases o <;> cases M i <;> rfl
    | ref o => cases o <;> cases M i <;> rfl
theorem x_getS1 {r : Option (List Ar)} {os : List Ow} : getS true r (some (.val (.l os))) = r.map (Ar.r (.l os) :: ·) := id rfl
theorem x_getS2 {r : Option (List Ar)} {os : List Ow} : getS true r (some (.ref (.l os))) = r.map (Ar.r (.l os) :: ·) := id rfl
theorem x_getS3 {r : Option (List Ar)} {ks : List (Int × Int)} {ds : List D} : getS true r (some (.val (.m ks ds))) = r.map (Ar.r (.m ks ds) :: ·) := id rfl
theorem x_getS4 {r : Option (List Ar)} {ks : List (Int × Int)} {ds : List D} : getS true r (some (.ref (.m ks ds))) = r.map (Ar.r (.m ks ds) :: ·) := id rfl
theorem x_agR0 : agRefs [] = [] := id rfl
theorem x_agR1 {x : Vl} {r : List Ag} : agRefs (.v x :: r) = agRefs r := id rfl
theorem x_agR2 {i : Nat} {r : List Ag} : agRefs (.r i :: r) = i :: agRefs r := id rfl
theorem x_nd0 : ([] : List Nat).Nodup = True := by simp
theorem x_nd1 {i : Nat} : [i].Nodup = True := by simp
theorem x_pA0 : putArs ρ [] [] = some ρ := id rfl
def putP (ρ : Env) (i : Nat) (o : Ow) (is : List Nat) (os : List Ow) : Option Sl → Option Env
  | some (.val _) => putArs (ρ.set i (.val o)) is os
  | some (.ref _) => putArs (ρ.set i (.ref o)) is os
  | _ => none
theorem x_pA1 {i : Nat} {is : List Nat} {o : Ow} {os : List Ow} : putArs ρ (i :: is) (o :: os) = putP ρ i o is os ρ[i]? := by
  show (match ρ[i]? with
    | some (.val _) => putArs (ρ.set i (.val o)) is os
    | some (.ref _) => putArs (ρ.set i (.ref o)) is os
    | _ => none) = _
  unfold putP
  split <;> simp_all
theorem x_putP1 {i : Nat} {is : List Nat} {o p : Ow} {os : List Ow} : putP ρ i o is os (some (.val p)) = putArs (ρ.set i (.val o)) is os := id rfl
theorem x_putP2 {i : Nat} {is : List Nat} {o p : Ow} {os : List Ow} : putP ρ i o is os (some (.ref p)) = putArs (ρ.set i (.ref o)) is os := id rfl
end
end WM

/-! WM: rules for values, for loops. -/
namespace WM
open PySem L2
section
variable {α β : Type} {C : CallS} {gv : Nat → Option D} {M : Nat → Bool} {ρ ρ' ρ1 : Env} {ms : List Nat}
/-! ### operations -/
theorem x_add {i j : Int} : binV .add (dv (.int i)) (dv (.int j)) = some (dv (.int (i + j))) := id rfl
theorem x_sub {i j : Int} : binV .sub (dv (.int i)) (dv (.int j)) = some (dv (.int (i - j))) := id rfl
theorem x_band {i j : Int} : binV .band (dv (.int i)) (dv (.int j)) = some (dv (.int (Builtin.bitAnd i j))) := id rfl
theorem x_lt {i j : Int} : binV .lt (dv (.int i)) (dv (.int j)) = some (dv (.bl (decide (i < j)))) := id rfl
theorem x_le {i j : Int} : binV .le (dv (.int i)) (dv (.int j)) = some (dv (.bl (decide (i ≤ j)))) := id rfl
theorem x_gt {i j : Int} : binV .gt (dv (.int i)) (dv (.int j)) = some (dv (.bl (decide (j < i)))) := id rfl
theorem x_ge {i j : Int} : binV .ge (dv (.int i)) (dv (.int j)) = some (dv (.bl (decide (j ≤ i)))) := id rfl
def MulOk (i j : Int) : Prop := i.natAbs.log2 + j.natAbs.log2 < 134000000
theorem x_mul {i j : Int} (h : MulOk i j) : binV .mul (dv (.int i)) (dv (.int j)) = some (dv (.int (i * j))) := by
  show (intBO .mul i j).map dv = _
  unfold intBO
  rw [show (if i.natAbs.log2 + j.natAbs.log2 < 134000000 then some (D.int (i * j)) else none) = some (D.int (i * j)) from if_pos h]
  rfl
theorem log2_lt {a n : Nat} (h : a < 2 ^ n) : a.log2 ≤ n := by
  by_cases h0 : a = 0
  · subst h0; simp
  · have : a.log2 < n := (Nat.log2_lt h0).mpr h
    omega
theorem MulOk.small {i j : Int} (h1 : i.natAbs < 2 ^ 400000) (h2 : j.natAbs < 2 ^ 400000) : MulOk i j := by
  have := log2_lt h1
  have := log2_lt h2
  unfold MulOk; omega
theorem MulOk.s64 {i j : Int} (h1 : i.natAbs < 2 ^ 64) (h2 : j.natAbs < 2 ^ 64) : MulOk i j := by
  have := log2_lt h1
  have := log2_lt h2
  unfold MulOk; omega
theorem x_mod {i j : Int} (h : j ≠ 0) : binV .mod (dv (.int i)) (dv (.int j)) = some (dv (.int (i.fmod j))) := by
  show (intBO .mod i j).map dv = _
  unfold intBO
  simp only
  rw [if_pos h]; rfl
def DivOk (j : Int) : Prop := j ≠ 0
theorem x_fdiv {i j : Int} (h : DivOk j) : binV .fdiv (dv (.int i)) (dv (.int j)) = some (dv (.int (i.fdiv j))) := by
  show (intBO .fdiv i j).map dv = _
  unfold intBO
  simp only
  rw [if_pos (show j ≠ 0 from h)]; rfl
theorem DivOk.pos {j : Int} (h1 : 1 ≤ j) (h2 : j.natAbs < 2 ^ 8999) : DivOk j := by unfold DivOk; omega
theorem DivOk.one {j : Int} (h1 : 1 ≤ j) : DivOk j := by unfold DivOk; omega
theorem MulOk.lt {i j : Int} {a b : Nat} (h1 : i.natAbs < 2 ^ a) (h2 : j.natAbs < 2 ^ b) (h : a + b < 134000000) : MulOk i j := by
  have := log2_lt h1
  have := log2_lt h2
  unfold MulOk; omega
theorem x_pow {i j : Int} (h : (decide (0 ≤ j) && decide (j ≤ 1000000) && decide (i.natAbs < 2 ^ 64)) = true) : binV .pow (dv (.int i)) (dv (.int j)) = some (dv (.int (i ^ j.toNat))) := by
  show (intBO .pow i j).map dv = _
  unfold intBO
  simp only [Bool.and_eq_true, decide_eq_true_eq] at h
  simp only
  rw [if_pos ⟨h.1.1, h.1.2, h.2⟩]; rfl
theorem x_eqD {x y : D} (h1 : x.fit = true) (h2 : y.fit = true) (h3 : x.nos = true) (h4 : y.nos = true) : binV .eq (dv x) (dv y) = some (dv (.bl (D.eqv x y))) := by
  show (if _ then _ else _) = _
  rw [if_pos]
  · rfl
  · show (x.fit && y.fit && x.nos && y.nos) = true
    rw [h1, h2, h3, h4]; rfl
theorem x_neD {x y : D} (h1 : x.fit = true) (h2 : y.fit = true) (h3 : x.nos = true) (h4 : y.nos = true) : binV .ne (dv x) (dv y) = some (dv (.bl (!D.eqv x y))) := by
  show (if _ then _ else _) = _
  rw [if_pos]
  · rfl
  · show (x.fit && y.fit && x.nos && y.nos) = true
    rw [h1, h2, h3, h4]; rfl
theorem x_eqI {i j : Int} : binV .eq (dv (.int i)) (dv (.int j)) = some (dv (.bl (i == j))) := x_eqD rfl rfl rfl rfl
theorem x_neI {i j : Int} : binV .ne (dv (.int i)) (dv (.int j)) = some (dv (.bl (!(i == j)))) := x_neD rfl rfl rfl rfl
def maxV (x y : Vl) : Option Vl := match x, y with
    | .ow (.d (.int i)), .ow (.d (.int j)) => some (dv (.int (if j > i then j else i)))
    | _, _ => none
def minV (x y : Vl) : Option Vl := match x, y with
    | .ow (.d (.int i)), .ow (.d (.int j)) => some (dv (.int (if j < i then j else i)))
    | _, _ => none
theorem x_max {a b : IE} : ev C gv M (.max2 a b) ρ = (ev C gv M a ρ).bind fun x ρ1 => (ev C gv M b ρ1).bind fun y ρ2 => R.of (maxV x y) ρ2 := by
  simp only [ev]
  congr 1; funext x ρ1; congr 1; funext y ρ2
  unfold maxV
  split
  · rfl
  · rename_i hh
    first
      | rfl
      | (split
         · exact (hh _ _ rfl rfl).elim
         · rfl)
theorem x_min {a b : IE} : ev C gv M (.min2 a b) ρ = (ev C gv M a ρ).bind fun x ρ1 => (ev C gv M b ρ1).bind fun y ρ2 => R.of (minV x y) ρ2 := by
  simp only [ev]
  congr 1; funext x ρ1; congr 1; funext y ρ2
  unfold minV
  split
  · rfl
  · rename_i hh
    first
      | rfl
      | (split
         · exact (hh _ _ rfl rfl).elim
         · rfl)
theorem x_maxV {i j : Int} : maxV (dv (.int i)) (dv (.int j)) = some (dv (.int (if j > i then j else i))) := id rfl
theorem x_minV {i j : Int} : minV (dv (.int i)) (dv (.int j)) = some (dv (.int (if j < i then j else i))) := id rfl
theorem x_isa {t : Ty} {a : IE} : ev C gv M (.isa t a) ρ = (ev C gv M a ρ).bind fun x ρ1 => .ok (dv (.bl (isaV t x.look))) ρ1 := by simp only [ev]
theorem x_look1 {d : D} : (dv d).look = d := id rfl
theorem x_look2 {os : List Ow} : (Vl.ow (.l os)).look = .lst (Ow.toDs os) := id rfl
theorem x_look3 {os : List Ow} : (Vl.bw (.l os)).look = .lst (Ow.toDs os) := id rfl
theorem x_ix {a i : IE} : ev C gv M (.ix a i) ρ = (ev C gv M a ρ).bind fun x ρ1 => (ev C gv M i ρ1).bind fun y ρ2 => R.of ((vInt y).bind (ixV x)) ρ2 := by
  simp only [ev]
  congr 1; funext x ρ1; congr 1; funext y ρ2
  unfold vInt
  split
  · rfl
  · rename_i hh
    first
      | rfl
      | (split
         · exact (hh _ rfl).elim
         · rfl)
theorem x_ixT {xs : List D} {j : Int} : ixV (dv (.tup xs)) j = (atI xs j).map dv := id rfl
theorem x_ixL {xs : List D} {j : Int} : ixV (dv (.lst xs)) j = (atI xs j).map dv := id rfl
theorem x_ixS {xs : List Int} {j : Int} : ixV (dv (.scr xs)) j = (atI xs j).map fun n => dv (.int n) := id rfl
theorem x_ixO {xs : List Ow} {j : Int} : ixV (.ow (.l xs)) j = (atI xs j).map .ow := id rfl
theorem x_ixB {xs : List Ow} {j : Int} : ixV (.bw (.l xs)) j = (atI xs j).map Ow.lend := id rfl
theorem x_lend1 {d : D} : (Ow.d d).lend = dv d := id rfl
theorem x_lend2 {os : List Ow} : (Ow.l os).lend = .bw (.l os) := id rfl
theorem atI_nat {γ : Type} {xs : List γ} {i : Nat} (h : i < xs.length) : atI xs (i : Int) = some xs[i] := by
  unfold atI ixN
  rw [if_pos (by omega), if_pos (by omega)]
  show xs[((i : Int)).toNat]? = _
  rw [Int.toNat_natCast]
  exact List.getElem?_eq_getElem h
theorem ixN_nat {n i : Nat} (h : i < n) : ixN n (i : Int) = some i := by
  unfold ixN
  rw [if_pos (by omega), if_pos (by omega), Int.toNat_natCast]
theorem ixN_int {n : Nat} {i : Int} (h0 : 0 ≤ i) (h : i < n) : ixN n i = some i.toNat := by
  unfold ixN
  rw [if_pos h0, if_pos h]
theorem atI_int {γ : Type} {xs : List γ} {i : Int} (h0 : 0 ≤ i) (h : i < xs.length) : ∃ x, atI xs i = some x ∧ xs[i.toNat]? = some x ∧ x ∈ xs := by
  have hl : i.toNat < xs.length := by omega
  refine ⟨xs[i.toNat], ?_, List.getElem?_eq_getElem hl, List.getElem_mem hl⟩
  unfold atI
  rw [ixN_int h0 h]
  exact List.getElem?_eq_getElem hl
theorem x_lenT {xs : List D} : unV .len (dv (.tup xs)) = some (dv (.int xs.length)) := id rfl
theorem x_lenL {xs : List D} : unV .len (dv (.lst xs)) = some (dv (.int xs.length)) := id rfl
theorem x_lenS {xs : List Int} : unV .len (dv (.scr xs)) = some (dv (.int xs.length)) := id rfl
theorem x_lenO {xs : List Ow} : unV .len (.ow (.l xs)) = some (dv (.int xs.length)) := by
  show some (dv (.int (Ow.toDs xs).length)) = _
  rw [toDs_len]
theorem x_lenB {xs : List Ow} : unV .len (.bw (.l xs)) = some (dv (.int xs.length)) := by
  show some (dv (.int (Ow.toDs xs).length)) = _
  rw [toDs_len]
theorem x_not {b : Bool} : unV .not (dv (.bl b)) = some (dv (.bl (!b))) := id rfl
theorem x_neg {i : Int} : unV .neg (dv (.int i)) = some (dv (.int (-i))) := id rfl
theorem x_abs {i : Int} : unV .abs (dv (.int i)) = some (dv (.int (if i < 0 then -i else i))) := id rfl
theorem x_intI {i : Int} : unV .int (dv (.int i)) = some (dv (.int i)) := id rfl
theorem x_intB {b : Bool} : unV .int (dv (.bl b)) = some (dv (.int (if b then 1 else 0))) := id rfl
theorem x_isN {x : Vl} : unV .isN x = some (dv (.bl x.look.isNon)) := id rfl
theorem x_notN {x : Vl} : unV .notN x = some (dv (.bl (!x.look.isNon))) := id rfl
theorem x_tupO' {os : List Ow} : unV .tuple (.ow (.l os)) = some (dv (.tup (Ow.toDs os))) := id rfl
theorem x_tupL {xs : List D} : unV .tuple (dv (.lst xs)) = some (dv (.tup xs)) := id rfl
theorem x_tupT {xs : List D} : unV .tuple (dv (.tup xs)) = some (dv (.tup xs)) := id rfl
theorem alld_map (ds : List D) : ((ds.map Ow.d).all fun | .d _ => true | _ => false) = true := by
  rw [List.all_eq_true]
  intro x hx
  obtain ⟨d, _, rfl⟩ := List.mem_map.mp hx
  rfl
theorem x_tupB {ds : List D} : unV .tuple (.bw (.l (ds.map Ow.d))) = some (dv (.tup ds)) := by
  show (if _ then _ else _) = _
  refine (if_pos (alld_map ds)).trans ?_
  rw [toDs_map]
theorem ints?_map (ns : List Int) : D.ints? (ns.map D.int) = some ns := by
  induction ns with
  | nil => rfl
  | cons n ns ih => show (D.ints? (ns.map D.int)).map (n :: ·) = _; rw [ih]; rfl
theorem bls?_map (bs : List Bool) : D.bls? (bs.map D.bl) = some bs := by
  induction bs with
  | nil => rfl
  | cons n ns ih => show (D.bls? (ns.map D.bl)).map (n :: ·) = _; rw [ih]; rfl
theorem x_any {bs : List Bool} {x : Vl} (h : x.look = .lst (bs.map D.bl)) : unV .any x = some (dv (.bl (bs.any id))) := by
  show (x.look.lst?.bind D.bls?).map _ = _
  rw [h]; show (D.bls? (bs.map D.bl)).map _ = _; rw [bls?_map]; rfl
theorem x_all {bs : List Bool} {x : Vl} (h : x.look = .lst (bs.map D.bl)) : unV .all x = some (dv (.bl (bs.all id))) := by
  show (x.look.lst?.bind D.bls?).map _ = _
  rw [h]; show (D.bls? (bs.map D.bl)).map _ = _; rw [bls?_map]; rfl
theorem x_sum {ns : List Int} {x : Vl} (h : x.look = .lst (ns.map D.int)) : unV .sum x = some (dv (.int ns.sum)) := by
  show (x.look.lot?.bind D.ints?).map _ = _
  rw [h]; show (D.ints? (ns.map D.int)).map _ = _; rw [ints?_map]; rfl
theorem x_sumT {ns : List Int} : unV .sum (dv (.tup (ns.map D.int))) = some (dv (.int ns.sum)) := by
  show (D.ints? (ns.map D.int)).map _ = _; rw [ints?_map]; rfl
theorem x_maxL {ns : List Int} {m : Int} {x : Vl} (h : x.look = .lst (ns.map D.int)) (hm : maxI ns = some m) : unV .max x = some (dv (.int m)) := by
  show ((x.look.lot?.bind D.ints?).bind fun ns => (maxI ns).map fun m => dv (.int m)) = _
  rw [h]; show ((D.ints? (ns.map D.int)).bind _) = _; rw [ints?_map]; show (maxI ns).map _ = _; rw [hm]; rfl

/-! ### comprehensions -/
def lcStep (M : Nat → Bool) (t : Tg) (body : Env → R (Option Ow)) (ρ : Env) (x : Itm) : Option (Option Ow × Env) :=
  match setTC M ρ t x with
  | none => none
  | some ρ1 => match body ρ1 with
    | .ok r ρ2 => some (r, merge M ρ ρ2)
    | _ => none
theorem lcL_one {t : Tg} {body : Env → R (Option Ow)} {x : Itm} {xs : List Itm} {acc : List Ow} {r : Option Ow} (h : lcStep M t body ρ x = some (r, ρ')) (hs : small acc.length = true) : lcL M t body (x :: xs) ρ acc = lcL M t body xs ρ' (acc ++ r.toList) := by
  unfold lcStep at h
  show (match setTC M ρ t x with
    | none => R.bad
    | some ρ1 => match body ρ1 with
      | .ok (some o) ρ2 => if small acc.length then lcL M t body xs (merge M ρ ρ2) (acc ++ [o]) else .bad
      | .ok none ρ2 => lcL M t body xs (merge M ρ ρ2) acc
      | _ => .bad) = _
  cases e : setTC M ρ t x with
  | none => rw [e] at h; cases h
  | some ρ1 =>
    rw [e] at h
    dsimp only at h ⊢
    cases e2 : body ρ1 with
    | ok r' ρ2 =>
      rw [e2] at h
      cases h
      cases r with
      | none => simp
      | some o => simp [hs]
    | exc c ρ2 => rw [e2] at h; cases h
    | bad => rw [e2] at h; cases h
theorem lcL_inv {t : Tg} {body : Env → R (Option Ow)} {I : Nat → Env → List Ow → Prop} : ∀ {xs : List Itm} {ρ : Env} {acc : List Ow} {k : Nat}, I k ρ acc → (∀ i ρ acc x, xs[i]? = some x → I (k + i) ρ acc → small acc.length = true ∧ ∃ r ρ', lcStep M t body ρ x = some (r, ρ') ∧ I (k + i + 1) ρ' (acc ++ r.toList)) →
    ∃ ρ' acc', lcL M t body xs ρ acc = .ok acc' ρ' ∧ I (k + xs.length) ρ' acc'
  | [], ρ, acc, k, h, _ => ⟨ρ, acc, rfl, h⟩
  | x :: xs, ρ, acc, k, h, st => by
    obtain ⟨hs, r, ρ', e, h'⟩ := st 0 ρ acc x rfl h
    rw [lcL_one e hs]
    obtain ⟨ρ2, acc2, e2, h2⟩ := lcL_inv (I := I) (k := k + 1) (xs := xs) h' fun i ρ acc y hy hi => by
      have := st (i + 1) ρ acc y (by simpa using hy) (by rw [show k + (i + 1) = k + 1 + i by omega]; exact hi)
      rwa [show k + (i + 1) + 1 = k + 1 + i + 1 by omega] at this
    exact ⟨ρ2, acc2, e2, by rw [List.length_cons, show k + (xs.length + 1) = k + 1 + xs.length by omega]; exact h2⟩
theorem small_of {n : Nat} (h : n ≤ 100000) : small n = true := decide_eq_true h
theorem lcL_pure {t : Tg} {body : Env → R (Option Ow)} {g : Itm → Option Ow} : ∀ {xs : List Itm} {acc : List Ow}, (∀ x ∈ xs, lcStep M t body ρ x = some (g x, ρ)) → acc.length + xs.length ≤ 100000 → lcL M t body xs ρ acc = .ok (acc ++ xs.filterMap g) ρ
  | [], acc, _, _ => by simp [lcL]
  | x :: xs, acc, h, hl => by
    rw [lcL_one (h x List.mem_cons_self) (small_of (by simp at hl; omega))]
    have e : (acc ++ (g x).toList).length ≤ acc.length + 1 := by cases g x <;> simp
    rw [List.length_cons] at hl
    rw [lcL_pure (fun y hy => h y (List.mem_cons_of_mem _ hy)) (by omega)]
    cases hg : g x <;> simp [hg]
theorem lcL_rng {t : Tg} {body : Env → R (Option Ow)} {lo : Int} {n : Nat} {g : Nat → Option Ow} (h : ∀ k : Nat, k < n → lcStep M t body ρ (.one (dv (.int (lo + (k : Int))))) = some (g k, ρ)) (hl : n ≤ 100000) : lcL M t body (rngI lo n) ρ [] = .ok ((List.range n).filterMap g) ρ := by
  have key : ∀ (m k : Nat), k + m = n → ∀ acc : List Ow, acc.length ≤ k → lcL M t body ((List.range m).map fun (i : Nat) => Itm.one (dv (.int (lo + ((k + i : Nat) : Int))))) ρ acc = .ok (acc ++ ((List.range m).map (k + ·)).filterMap g) ρ := by
    intro m
    induction m with
    | zero => intro k _ acc _; simp [lcL]
    | succ m ih =>
      intro k hk acc ha
      rw [List.range_succ_eq_map, List.map_cons, List.map_map]
      rw [lcL_one (x := Itm.one (dv (.int (lo + ((k + 0 : Nat) : Int))))) (h (k + 0) (by omega)) (small_of (by omega))]
      have e2 : (List.range m).map ((fun (i : Nat) => Itm.one (dv (.int (lo + ((k + i : Nat) : Int))))) ∘ Nat.succ) = (List.range m).map fun (i : Nat) => Itm.one (dv (.int (lo + ((k + 1 + i : Nat) : Int)))) := List.map_congr_left fun i _ => by
        show Itm.one (dv (.int (lo + ((k + (i + 1) : Nat) : Int)))) = _
        rw [show k + (i + 1) = k + 1 + i by omega]
      rw [e2, ih (k + 1) (by omega) _ (by cases g (k + 0) <;> simp <;> omega)]
      have e3 : List.map (fun x => k + x) (0 :: List.map Nat.succ (List.range m)) = k :: (List.range m).map (k + 1 + ·) := by
        rw [List.map_cons, List.map_map]
        refine congrArg (k :: ·) (List.map_congr_left fun i _ => ?_)
        show k + (i + 1) = k + 1 + i
        omega
      rw [e3, Nat.add_zero]
      cases hg : g k <;> simp [hg]
  have := key n 0 (by omega) [] (Nat.le_refl _)
  simp only [Nat.zero_add, List.nil_append] at this
  rw [show (List.map (fun x => x) (List.range n)) = List.range n from List.map_id' _] at this
  exact this
theorem lcL_ds {t : Tg} {body : Env → R (Option Ow)} {ds : List D} {g : D → Option Ow} (h : ∀ d ∈ ds, lcStep M t body ρ (.one (dv d)) = some (g d, ρ)) (hl : ds.length ≤ 100000) : lcL M t body ((ds.map dv).map Itm.one) ρ [] = .ok (ds.filterMap g) ρ := by
  have key : ∀ (es : List D), (∀ d ∈ es, d ∈ ds) → ∀ acc : List Ow, acc.length + es.length ≤ 100000 → lcL M t body ((es.map dv).map Itm.one) ρ acc = .ok (acc ++ es.filterMap g) ρ := by
    intro es
    induction es with
    | nil => intro _ acc _; simp [lcL]
    | cons e es ih =>
      intro hm acc ha
      rw [List.map_cons, List.map_cons, lcL_one (h e (hm e List.mem_cons_self)) (small_of (by simp at ha; omega)), ih (fun d hd => hm d (List.mem_cons_of_mem _ hd)) _ (by cases g e <;> simp at ha ⊢ <;> omega)]
      cases hg : g e <;> simp [hg]
  have := key ds (fun _ h => h) [] (by simpa using hl)
  simpa using this

/-! ### loops -/
theorem forL_inv {t : Tg} {body : Env → RS} {I : Nat → Env → Prop} {J : Ow → Env → Prop} : ∀ {xs : List Itm} {ρ : Env} {k : Nat}, I k ρ → (∀ i ρ x, xs[i]? = some x → I (k + i) ρ → ∃ ρ1, putI ρ t x = some ρ1 ∧ ((∃ ρ2, body ρ1 = .nx ρ2 ∧ I (k + i + 1) ρ2) ∨ ∃ o ρ2, body ρ1 = .rt o ρ2 ∧ J o ρ2)) →
    (∃ ρ', forL t body xs ρ = .nx ρ' ∧ I (k + xs.length) ρ') ∨ ∃ o ρ', forL t body xs ρ = .rt o ρ' ∧ J o ρ'
  | [], ρ, k, h, _ => .inl ⟨ρ, rfl, h⟩
  | x :: xs, ρ, k, h, st => by
    obtain ⟨ρ1, e1, h1⟩ := st 0 ρ x rfl h
    have ee : forL t body (x :: xs) ρ = (body ρ1).thn fun ρ2 => forL t body xs ρ2 := by
      show (match putI ρ t x with | none => RS.bad | some ρ1 => (body ρ1).thn fun ρ2 => forL t body xs ρ2) = _
      rw [e1]
    rw [ee]
    rcases h1 with ⟨ρ2, e2, h2⟩ | ⟨o, ρ2, e2, h2⟩
    · rw [e2]
      show (∃ ρ', forL t body xs ρ2 = .nx ρ' ∧ _) ∨ ∃ o ρ', forL t body xs ρ2 = .rt o ρ' ∧ _
      rw [List.length_cons, show k + (xs.length + 1) = k + 1 + xs.length by omega]
      exact forL_inv (I := I) (J := J) (k := k + 1) (xs := xs) h2 fun i ρ y hy hi => by
        have := st (i + 1) ρ y (by simpa using hy) (by rw [show k + (i + 1) = k + 1 + i by omega]; exact hi)
        rwa [show k + (i + 1) + 1 = k + 1 + i + 1 by omega] at this
    · rw [e2]
      exact .inr ⟨o, ρ2, rfl, h2⟩
theorem forL_nx {t : Tg} {body : Env → RS} {I : Nat → Env → Prop} {xs : List Itm} (h : I 0 ρ) (st : ∀ i ρ x, xs[i]? = some x → I i ρ → ∃ ρ1, putI ρ t x = some ρ1 ∧ ∃ ρ2, body ρ1 = .nx ρ2 ∧ I (i + 1) ρ2) : ∃ ρ', forL t body xs ρ = .nx ρ' ∧ I xs.length ρ' := by
  rcases forL_inv (I := I) (J := fun _ _ => False) (k := 0) (xs := xs) h (t := t) (body := body) (fun i ρ x hx hi => by
    rw [Nat.zero_add] at hi ⊢
    obtain ⟨ρ1, e1, ρ2, e2, h2⟩ := st i ρ x hx hi
    exact ⟨ρ1, e1, .inl ⟨ρ2, e2, h2⟩⟩) with ⟨ρ', e, h⟩ | ⟨o, ρ', _, h⟩
  · exact ⟨ρ', e, by rw [Nat.zero_add] at h; exact h⟩
  · exact h.elim
theorem whlL_inv {c : Env → R Vl} {body : Env → RS} {I J : Env → Prop} {μ : Env → Nat} (st : ∀ ρ, I ρ → (∃ ρ1, c ρ = .ok (dv (.bl false)) ρ1 ∧ J ρ1) ∨ ∃ ρ1 ρ2, c ρ = .ok (dv (.bl true)) ρ1 ∧ body ρ1 = .nx ρ2 ∧ I ρ2 ∧ μ ρ2 < μ ρ) : ∀ {n : Nat} {ρ : Env}, I ρ → μ ρ < n → ∃ ρ', whlL c body n ρ = .nx ρ' ∧ J ρ'
  | 0, ρ, _, h => by omega
  | n + 1, ρ, h, hn => by
    rcases st ρ h with ⟨ρ1, e, hj⟩ | ⟨ρ1, ρ2, e, e2, hi, hm⟩
    · exact ⟨ρ1, by unfold whlL; rw [e]; rfl, hj⟩
    · obtain ⟨ρ', e3, hj⟩ := whlL_inv st (n := n) hi (by omega)
      refine ⟨ρ', ?_, hj⟩
      unfold whlL
      rw [e]
      show (body ρ1).thn _ = _
      rw [e2]
      exact e3
end
end WM

/-! WM: rules for comprehensions, for defs. -/
namespace WM
open PySem L2
section
variable {α β : Type} {C : CallS} {gv : Nat → Option D} {M : Nat → Bool} {ρ ρ' ρ1 : Env} {ms : List Nat}
theorem x_lc {t : Tg} {it : IT} {hc : Bool} {c e : IE} : ev C gv M (.lc t it hc c e) ρ = (evI C gv M it ρ).bind fun xs ρ1 => (lcL M t (lcBody hc (ev C gv M c) (ev C gv M e)) xs (wipeS ρ1 t.slots) []).bind fun os ρ2 => .ok (.ow (.l os)) (merge M ρ1 ρ2) := by simp only [ev]
def rngO (ρ : Env) (lo : Int) : Option Int → R (List Itm)
  | some n => if inSmall n then .ok (rngI lo n.toNat) ρ else .bad
  | none => .bad
theorem x_rng1 {a : IE} : evI C gv M (.rng1 a) ρ = (ev C gv M a ρ).bind fun x ρ1 => rngO ρ1 0 (vInt x) := by
  simp only [evI]
  congr 1; funext x ρ1
  unfold vInt
  split
  · rfl
  · rename_i hh
    first
      | rfl
      | (split
         · exact (hh _ rfl).elim
         · rfl)
theorem inSmall_nat {n : Nat} (h : n ≤ 100000) : inSmall (n : Int) = true := by
  unfold inSmall
  rw [Bool.and_eq_true]
  exact ⟨decide_eq_true (by omega), decide_eq_true (by omega)⟩
theorem inSmall_int {n : Int} (h0 : 0 ≤ n) (h : n ≤ 100000) : inSmall n = true := by
  unfold inSmall
  rw [Bool.and_eq_true]
  exact ⟨decide_eq_true (by omega), decide_eq_true (by omega)⟩
theorem x_rngO {lo n : Int} (h : inSmall n = true) : rngO ρ lo (some n) = .ok (rngI lo n.toNat) ρ := if_pos h
def rng2O (ρ : Env) : Option Int → Option Int → R (List Itm)
  | some i, some j => if inSmall i && inSmall j then .ok (rngI i (j - i).toNat) ρ else .bad
  | _, _ => .bad
theorem x_rng2 {a b : IE} : evI C gv M (.rng2 a b) ρ = (ev C gv M a ρ).bind fun x ρ1 => (ev C gv M b ρ1).bind fun y ρ2 => rng2O ρ2 (vInt x) (vInt y) := by
  simp only [evI]
  congr 1; funext x ρ1; congr 1; funext y ρ2
  split
  · rfl
  · rename_i hh
    unfold rng2O
    split
    · rename_i i j h1 h2
      unfold vInt at h1 h2
      split at h1
      · split at h2
        · exact (hh _ _ rfl rfl).elim
        · cases h2
      · cases h1
    · rfl
theorem x_rng2O {i j : Int} (h : inSmall i = true) (h2 : inSmall j = true) : rng2O ρ (some i) (some j) = .ok (rngI i (j - i).toNat) ρ := by
  show (if (inSmall i && inSmall j) = true then _ else _) = _
  rw [h, h2]; rfl
theorem x_itE {a : IE} : evI C gv M (.e a) ρ = (ev C gv M a ρ).bind fun x ρ1 => R.of ((itemsM M x).map fun xs => xs.map Itm.one) ρ1 := by simp only [evI]
theorem x_itN {a : IE} : evI C gv M (.enum a) ρ = (ev C gv M a ρ).bind fun x ρ1 => R.of ((itemsM M x).map fun xs => enumI 0 xs) ρ1 := by simp only [evI]
theorem x_itZ {a b : IE} : evI C gv M (.zip a b) ρ = (ev C gv M a ρ).bind fun x ρ1 => (ev C gv M b ρ1).bind fun y ρ2 => R.of (zipV M x y) ρ2 := by simp only [evI]
theorem x_imT {xs : List D} : itemsM M (dv (.tup xs)) = some (xs.map dv) := by unfold itemsM; simp [Vl.isBw, Vl.items]
theorem x_imL {xs : List D} : itemsM M (dv (.lst xs)) = some (xs.map dv) := by unfold itemsM; simp [Vl.isBw, Vl.items]
theorem x_imO {os : List Ow} : itemsM M (.ow (.l os)) = some ((Ow.toDs os).map dv) := by
  unfold itemsM
  have : (Ow.toDs os).map dv = os.map fun o => dv o.toD := by rw [Ow.toDs_eq, List.map_map]; rfl
  simp [Vl.isBw, Vl.items, this]
theorem lend_map (ds : List D) : (ds.map Ow.d).map Ow.lend = ds.map dv := by rw [List.map_map]; rfl
theorem x_imB {os : List Ow} (h : M noW = false) : itemsM M (.bw (.l os)) = some (os.map Ow.lend) := by unfold itemsM; rw [h]; rfl
def ownR (ρ : Env) : Option Ow → R (Option Ow)
  | some o => .ok (some o) ρ
  | none => .bad
theorem x_lcB0 {fc fe : Env → R Vl} : lcBody false fc fe ρ = (fe ρ).bind fun y ρ2 => ownR ρ2 y.own := id rfl
def lcT (fe : Env → R Vl) (x : Vl) (ρ : Env) : R (Option Ow) := lcTail fe x ρ
theorem x_lcB1 {fc fe : Env → R Vl} : lcBody true fc fe ρ = (fc ρ).bind (lcT fe) := id rfl
theorem x_lcT {fe : Env → R Vl} {b : Bool} : lcT fe (dv (.bl b)) ρ = if b = true then (fe ρ).bind fun y ρ2 => ownR ρ2 y.own else .ok none ρ := by cases b <;> rfl
theorem x_ownR {o : Ow} : ownR ρ (some o) = .ok (some o) ρ := id rfl
def lcR (M : Nat → Bool) (ρ : Env) : R (Option Ow) → Option (Option Ow × Env)
  | .ok r ρ2 => some (r, merge M ρ ρ2)
  | _ => none
theorem x_step {t : Tg} {body : Env → R (Option Ow)} {x : Itm} : lcStep M t body ρ x = (setTC M ρ t x).bind fun ρ1 => lcR M ρ (body ρ1) := by
  unfold lcStep
  cases setTC M ρ t x with
  | none => rfl
  | some ρ1 =>
    show _ = lcR M ρ (body ρ1)
    dsimp only
    cases body ρ1 <;> rfl
theorem x_lcR {r : Option Ow} : lcR M ρ (.ok r ρ1) = some (r, merge M ρ ρ1) := id rfl
def setS (b : Bool) (ρ : Env) (i : Nat) (s : Sl) : Option Sl → Option Env
  | some (.ref _) => none
  | some _ => if b then none else some (ρ.set i s)
  | none => none
theorem x_setC {i : Nat} {d : D} : setC M ρ i (dv d) = setS (M i) ρ i (.val (.d d)) ρ[i]? := by
  unfold setC setS
  cases M i <;> cases ρ[i]? with
  | none => rfl
  | some s => cases s <;> rfl
theorem x_setC2 {i : Nat} {os : List Ow} : setC M ρ i (.bw (.l os)) = setS (M i) ρ i (.bor (.l os)) ρ[i]? := by
  unfold setC setS
  cases M i <;> cases ρ[i]? with
  | none => rfl
  | some s => cases s <;> rfl
theorem x_setS0 {i : Nat} {s : Sl} : setS false ρ i s (some .no) = some (ρ.set i s) := id rfl
theorem x_setS1 {i : Nat} {s : Sl} {o : Ow} : setS false ρ i s (some (.val o)) = some (ρ.set i s) := id rfl
theorem x_setS2 {i : Nat} {s : Sl} {o : Ow} : setS false ρ i s (some (.bor o)) = some (ρ.set i s) := id rfl
theorem x_tc1 {i : Nat} {x : Vl} : setTC M ρ (.n i) (.one x) = setC M ρ i x := id rfl
theorem x_tc2 {is : List Nat} {xs : List Vl} : setTC M ρ (.t is) (.many xs) = setAllC M ρ is xs := id rfl
theorem x_tc3 {is : List Nat} {xs : List D} : setTC M ρ (.t is) (.one (dv (.tup xs))) = setAllC M ρ is (xs.map dv) := id rfl
theorem x_tc4 {is : List Nat} {xs : List D} : setTC M ρ (.t is) (.one (dv (.lst xs))) = setAllC M ρ is (xs.map dv) := id rfl
theorem x_sa0 : setAllC M ρ [] [] = some ρ := id rfl
theorem x_sa1 {i : Nat} {is : List Nat} {x : Vl} {xs : List Vl} : setAllC M ρ (i :: is) (x :: xs) = (setC M ρ i x).bind fun ρ' => setAllC M ρ' is xs := id rfl
theorem x_pi1 {i : Nat} {x : Vl} : putI ρ (.n i) (.one x) = putC ρ i x := id rfl
theorem x_pi2 {is : List Nat} {xs : List Vl} : putI ρ (.t is) (.many xs) = putAll ρ is xs := id rfl
theorem x_pi3 {is : List Nat} {xs : List D} : putI ρ (.t is) (.one (dv (.tup xs))) = putAll ρ is (xs.map dv) := id rfl
theorem x_pi4 {is : List Nat} {xs : List D} : putI ρ (.t is) (.one (dv (.lst xs))) = putAll ρ is (xs.map dv) := id rfl
theorem x_wipe0 : wipeS ρ [] = ρ := id rfl
theorem x_wipe1 {i : Nat} {is : List Nat} : wipeS ρ (i :: is) = wipeS (ρ.set i .no) is := id rfl
theorem x_slots1 {i : Nat} : (Tg.n i).slots = [i] := id rfl
theorem x_slots2 {is : List Nat} : (Tg.t is).slots = is := id rfl
theorem x_toDs0 : Ow.toDs [] = [] := id rfl
theorem x_toDs1 {o : Ow} {os : List Ow} : Ow.toDs (o :: os) = o.toD :: Ow.toDs os := id rfl
theorem x_toD1 {d : D} : (Ow.d d).toD = d := id rfl
theorem x_toD2 {os : List Ow} : (Ow.l os).toD = .lst (Ow.toDs os) := id rfl
theorem x_bwd {o : Ow} : (Vl.ow o).isBw = false := id rfl
theorem x_bwb {o : Ow} : (Vl.bw o).isBw = true := id rfl
theorem x_Mof {i : Nat} : Mof ms i = ms.contains i := id rfl
theorem x_ct0 {i : Nat} : ([] : List Nat).contains i = false := id rfl
theorem x_ct1 {i j : Nat} {l : List Nat} : (j :: l).contains i = (i == j || l.contains i) := List.contains_cons
theorem x_end1 {ars : List Ar} {o : Ow} : endF ars (.rt o ρ) = finF ars o ρ := id rfl
theorem x_end2 {ars : List Ar} : endF ars (.nx ρ) = finF ars (.d .non) ρ := id rfl
theorem x_end3 {ars : List Ar} {c : Nat} : endF ars (.exc c ρ) = .exc c := id rfl
def finO (o : Ow) : Option (List Ow) → FR
  | some os => .ok o os
  | none => .bad
theorem x_finF {ars : List Ar} {o : Ow} : finF ars o ρ = finO o (outsE 0 ars ρ) := by unfold finF finO; cases outsE 0 ars ρ <;> rfl
theorem x_finO {o : Ow} {os : List Ow} : finO o (some os) = .ok o os := id rfl
theorem x_outs0 {i : Nat} : outsE i [] ρ = some [] := id rfl
theorem x_outs1 {i : Nat} {x : Vl} {r : List Ar} : outsE i (.v x :: r) ρ = outsE (i + 1) r ρ := id rfl
def outS (r : Option (List Ow)) : Option Sl → Option (List Ow)
  | some (.ref o) => r.map (o :: ·)
  | _ => none
theorem x_outs2 {i : Nat} {o : Ow} {r : List Ar} : outsE i (.r o :: r) ρ = outS (outsE (i + 1) r ρ) ρ[i]? := by
  show (match ρ[i]? with | some (.ref o) => (outsE (i + 1) r ρ).map (o :: ·) | _ => none) = _
  unfold outS
  cases ρ[i]? with
  | none => rfl
  | some s => cases s <;> rfl
theorem x_outS {r : Option (List Ow)} {o : Ow} : outS r (some (.ref o)) = r.map (o :: ·) := id rfl
theorem x_slA1 {o : Ow} : slA (.v (.ow o)) = .val o := id rfl
theorem x_slA2 {o : Ow} : slA (.v (.bw o)) = .bor o := id rfl
theorem x_slA3 {o : Ow} : slA (.r o) = .ref o := id rfl
theorem x_omap1 {γ δ : Type} {f : γ → δ} {x : γ} : (some x).map f = some (f x) := id rfl
theorem x_obind1 {γ δ : Type} {f : γ → Option δ} {x : γ} : (some x).bind f = f x := id rfl
theorem x_get0 {γ : Type} {a : γ} {l : List γ} : (a :: l)[0]? = some a := id rfl
theorem x_get1 {γ : Type} {a : γ} {l : List γ} {n : Nat} : (a :: l)[n + 1]? = l[n]? := id rfl
theorem x_st0 {γ : Type} {a b : γ} {l : List γ} : (a :: l).set 0 b = b :: l := id rfl
theorem x_st1 {γ : Type} {a b : γ} {l : List γ} {n : Nat} : (a :: l).set (n + 1) b = a :: l.set n b := id rfl
theorem x_at0 {γ : Type} {x : γ} {l : List γ} : atI (x :: l) 0 = some x := by
  unfold atI ixN
  rw [if_pos (by omega), if_pos (by simp only [List.length_cons]; omega)]; rfl
theorem x_at1 {γ : Type} {x y : γ} {l : List γ} : atI (x :: y :: l) 1 = some y := by
  unfold atI ixN
  rw [if_pos (by omega), if_pos (by simp only [List.length_cons]; omega)]; rfl
theorem x_at2 {γ : Type} {x y z : γ} {l : List γ} : atI (x :: y :: z :: l) 2 = some z := by
  unfold atI ixN
  rw [if_pos (by omega), if_pos (by simp only [List.length_cons]; omega)]; rfl
theorem x_ixN0 {n : Nat} : ixN (n + 1) 0 = some 0 := by unfold ixN; rw [if_pos (by omega), if_pos (by omega)]; rfl
theorem x_ixN1 {n : Nat} : ixN (n + 1 + 1) 1 = some 1 := by unfold ixN; rw [if_pos (by omega), if_pos (by omega)]; rfl
theorem x_pw1 : binV .pow (dv (.int 10)) (dv (.int 1)) = some (dv (.int 10)) := id rfl
theorem x_pw2 : binV .pow (dv (.int 10)) (dv (.int 2)) = some (dv (.int 100)) := id rfl
theorem x_pw3 : binV .pow (dv (.int 10)) (dv (.int 3)) = some (dv (.int 1000)) := id rfl
theorem x_pw4 : binV .pow (dv (.int 10)) (dv (.int 4)) = some (dv (.int 10000)) := id rfl
theorem x_pw5 : binV .pow (dv (.int 10)) (dv (.int 5)) = some (dv (.int 100000)) := id rfl
theorem x_pw6 : binV .pow (dv (.int 10)) (dv (.int 6)) = some (dv (.int 1000000)) := id rfl
theorem x_pw7 : binV .pow (dv (.int 10)) (dv (.int 7)) = some (dv (.int 10000000)) := id rfl
theorem x_pw8 : binV .pow (dv (.int 10)) (dv (.int 8)) = some (dv (.int 100000000)) := id rfl
theorem x_pw9 : binV .pow (dv (.int 10)) (dv (.int 9)) = some (dv (.int 1000000000)) := id rfl
theorem x_pw12 : binV .pow (dv (.int 10)) (dv (.int 12)) = some (dv (.int 1000000000000)) := id rfl
theorem x_pw18 : binV .pow (dv (.int 10)) (dv (.int 18)) = some (dv (.int 1000000000000000000)) := id rfl
theorem x_pw60 : binV .pow (dv (.int 10)) (dv (.int 60)) = some (dv (.int 1000000000000000000000000000000000000000000000000000000000000)) := id rfl
theorem x_sm0 : small 0 = true := id rfl
theorem x_sm1 : small 1 = true := id rfl
theorem x_sm2 : small 2 = true := id rfl
theorem x_sm3 : small 3 = true := id rfl
theorem x_sm4 : small 4 = true := id rfl
theorem x_sm5 : small 5 = true := id rfl
theorem x_sm6 : small 6 = true := id rfl
theorem x_cs {fns : Nat → Option IFn} {d f : Nat} {F : IFn} {ars : List Ar} (h : fns f = some F) : cs fns gv (d + 1) f ars = runF (cs fns gv d) gv F ars := by
  show (match fns f with | some F => runF (cs fns gv d) gv F ars | none => .bad) = _
  rw [h]
end
end WM

/-! WM: more rules; which defs a table has; fractions. -/
namespace WM
open PySem L2
/-- the table has this def -/
class HasF (fns : Nat → Option IFn) (i : Nat) (F : outParam IFn) : Prop where
  h : fns i = some F
section
variable {α β γ : Type} {C : CallS} {gv : Nat → Option D} {M : Nat → Bool} {ρ ρ' ρ1 : Env} {ms : List Nat}
/-! ### what is new in the evaluator -/
theorem x_kil {is : List Nat} {ss : ISs} : exs C gv (.kil is ss) ρ = exs C gv ss (wipeS ρ is) := by simp only [exs]
theorem x_rse {c : Nat} : ex C gv (.rse c) ρ = .exc c ρ := by simp only [ex]
def catchR (ie ik : Nat) : RS → RS
  | .exc c ρ => caught ie ik c ρ
  | r => r
theorem x_tryk {ie ik : Nat} {b : ISs} : ex C gv (.tryk ie ik b) ρ = catchR ie ik (exs C gv b ρ) := by
  simp only [ex]
  cases exs C gv b ρ <;> rfl
theorem x_catN {ie ik : Nat} : catchR ie ik (.nx ρ) = .nx ρ := id rfl
theorem x_catR {ie ik : Nat} {o : Ow} : catchR ie ik (.rt o ρ) = .rt o ρ := id rfl
theorem x_catE {ie ik c : Nat} : catchR ie ik (.exc c ρ) = caught ie ik c ρ := id rfl
def clsT : Nat → Str
  | 0 => "NoNumber+" | 1 => "NoMarket+" | 2 => "NoPrices+" | 3 => "Dear+" | 4 => "Unwished+" | 5 => "NoBuyer+" | 6 => "NoGood+" | 7 => "Nothing+" | 8 => "NoDealing+" | 9 => "NoText+" | 10 => "NoRow+"
  | _ => ""
theorem kText_of {c : Nat} (h : c < 11) : ∃ x, exNm c = some x ∧ kText x = clsT c := by
  have : ∀ c : Fin 11, ∃ x, exNm c.1 = some x ∧ kText x = clsT c.1 := by
    intro c
    match c with
    | ⟨0, _⟩ => exact ⟨_, rfl, (by decide +kernel : kText "NoNumber" = "NoNumber+")⟩
    | ⟨1, _⟩ => exact ⟨_, rfl, (by decide +kernel : kText "NoMarket" = "NoMarket+")⟩
    | ⟨2, _⟩ => exact ⟨_, rfl, (by decide +kernel : kText "NoPrices" = "NoPrices+")⟩
    | ⟨3, _⟩ => exact ⟨_, rfl, (by decide +kernel : kText "Dear" = "Dear+")⟩
    | ⟨4, _⟩ => exact ⟨_, rfl, (by decide +kernel : kText "Unwished" = "Unwished+")⟩
    | ⟨5, _⟩ => exact ⟨_, rfl, (by decide +kernel : kText "NoBuyer" = "NoBuyer+")⟩
    | ⟨6, _⟩ => exact ⟨_, rfl, (by decide +kernel : kText "NoGood" = "NoGood+")⟩
    | ⟨7, _⟩ => exact ⟨_, rfl, (by decide +kernel : kText "Nothing" = "Nothing+")⟩
    | ⟨8, _⟩ => exact ⟨_, rfl, (by decide +kernel : kText "NoDealing" = "NoDealing+")⟩
    | ⟨9, _⟩ => exact ⟨_, rfl, (by decide +kernel : kText "NoText" = "NoText+")⟩
    | ⟨10, _⟩ => exact ⟨_, rfl, (by decide +kernel : kText "NoRow" = "NoRow+")⟩
  exact this ⟨c, h⟩
theorem x_caught {ie ik c : Nat} (h : (c.blt 11) = true) (h1 : ρ[ie]? = some .no) (h2 : (ie == ik) = false) : caught ie ik c ρ = oS (putC ρ ik (dv (.str (clsT c)))) := by
  obtain ⟨x, e1, e2⟩ := kText_of (Nat.le_of_ble_eq_true h)
  have hne : ie ≠ ik := by simpa using h2
  unfold caught
  rw [e1, h1]
  dsimp only
  rw [if_neg hne, e2]
  cases putC ρ ik (dv (.str (clsT c))) <;> rfl
theorem x_ct_0 : clsT 0 = "NoNumber+" := id rfl
theorem x_ct_1 : clsT 1 = "NoMarket+" := id rfl
theorem x_ct_2 : clsT 2 = "NoPrices+" := id rfl
theorem x_ct_3 : clsT 3 = "Dear+" := id rfl
theorem x_ct_4 : clsT 4 = "Unwished+" := id rfl
theorem x_ct_5 : clsT 5 = "NoBuyer+" := id rfl
theorem x_ct_6 : clsT 6 = "NoGood+" := id rfl
theorem x_ct_7 : clsT 7 = "Nothing+" := id rfl
theorem x_ct_8 : clsT 8 = "NoDealing+" := id rfl
theorem x_ct_9 : clsT 9 = "NoText+" := id rfl
theorem x_ct_10 : clsT 10 = "NoRow+" := id rfl
theorem x_blt0 : Nat.blt 0 11 = true := id rfl
theorem x_blt1 : Nat.blt 1 11 = true := id rfl
theorem x_blt2 : Nat.blt 2 11 = true := id rfl
theorem x_blt3 : Nat.blt 3 11 = true := id rfl
theorem x_blt4 : Nat.blt 4 11 = true := id rfl
theorem x_blt5 : Nat.blt 5 11 = true := id rfl
theorem x_blt6 : Nat.blt 6 11 = true := id rfl
theorem x_blt7 : Nat.blt 7 11 = true := id rfl
theorem x_blt8 : Nat.blt 8 11 = true := id rfl
theorem x_blt9 : Nat.blt 9 11 = true := id rfl
theorem x_blt10 : Nat.blt 10 11 = true := id rfl
theorem x_isB {a b : Bool} : binV .isB (dv (.bl a)) (dv (.bl b)) = some (dv (.bl (decide (a = b)))) := id rfl
theorem x_ntB {a b : Bool} : binV .ntB (dv (.bl a)) (dv (.bl b)) = some (dv (.bl (!decide (a = b)))) := id rfl
def chO (f : Env → R Vl) (o1 o2 : BO) (ρ : Env) : Option Int → Option Int → R Vl
  | some i, some j => (match intBO o1 i j with
      | some (.bl true) => (f ρ).bind fun z ρ3 => R.of ((vInt z).bind fun k => (intBO o2 j k).map dv) ρ3
      | some (.bl false) => .ok (dv (.bl false)) ρ
      | _ => .bad)
  | _, _ => .bad
theorem x_chain {o1 o2 : BO} {a b c : IE} : ev C gv M (.chain o1 o2 a b c) ρ = (ev C gv M a ρ).bind fun x ρ1 => (ev C gv M b ρ1).bind fun y ρ2 => chO (ev C gv M c) o1 o2 ρ2 (vInt x) (vInt y) := by
  have main : ∀ (ρ2 : Env) (i j : Int), (match intBO o1 i j with
      | some (.bl true) => (ev C gv M c ρ2).bind fun z ρ3 => (match z with
        | .ow (.d (.int k)) => R.of ((intBO o2 j k).map dv) ρ3
        | _ => .bad)
      | some (.bl false) => .ok (dv (.bl false)) ρ2
      | _ => .bad) = chO (ev C gv M c) o1 o2 ρ2 (some i) (some j) := by
    intro ρ2 i j
    unfold chO
    dsimp only
    have key2 : (fun (z : Vl) (ρ3 : Env) => (match z with | .ow (.d (.int k)) => R.of ((intBO o2 j k).map dv) ρ3 | _ => R.bad)) = fun z ρ3 => R.of ((vInt z).bind fun k => (intBO o2 j k).map dv) ρ3 := by
      funext z ρ3
      cases z with
      | bw o => rfl
      | ow o => cases o with
        | l os => rfl
        | m _ _ => rfl
        | d y => cases y <;> rfl
    generalize intBO o1 i j = r
    cases r with
    | none => rfl
    | some d => cases d with
      | bl b => cases b with
        | true =>
          show (ev C gv M c ρ2).bind _ = (ev C gv M c ρ2).bind _
          exact congrArg (R.bind (ev C gv M c ρ2)) key2
        | false => rfl
      | _ => rfl
  simp only [ev]
  refine congrArg (R.bind (ev C gv M a ρ)) ?_
  funext x ρ1
  refine congrArg (R.bind (ev C gv M b ρ1)) ?_
  funext y ρ2
  cases x with
  | bw o => rfl
  | ow o => cases o with
    | l os => rfl
    | m _ _ => rfl
    | d x => cases x with
      | int i => cases y with
        | bw o => rfl
        | ow o => cases o with
          | l os => rfl
          | m _ _ => rfl
          | d y => cases y with
            | int j => exact main ρ2 i j
            | _ => rfl
      | _ => rfl
theorem x_chLE {f : Env → R Vl} {i j : Int} : chO f .le .le ρ (some i) (some j) = if i ≤ j then (f ρ).bind fun z ρ3 => R.of ((vInt z).bind fun k => some (dv (.bl (decide (j ≤ k))))) ρ3 else .ok (dv (.bl false)) ρ := by
  unfold chO intBO
  by_cases h : i ≤ j
  · simp only [h, decide_true, if_true]; first | done | rfl
  · simp only [h, decide_false, if_false]
theorem x_set2 {i l : Nat} {ix e : IE} : ex C gv (.set2 ms i ix l e) ρ = if (ownL ρ i).isNone then .bad else (evX C gv ms e ρ).thn fun x ρ1 => (evX C gv ms ix ρ1).thn fun y ρ2 => match x.own, vInt y, iAt ρ2 l, ownL ρ2 i with
    | some o, some a, some b, some os => oS (set2O ρ2 i o a b os)
    | _, _, _, _ => .bad := by
  simp only [ex]
  split
  · rfl
  · first
    | rfl
    | (congr 1; done)
    | (congr 1; funext x ρ1
       first
         | rfl
         | (congr 1; done)
         | (congr 1; funext y ρ2
            first
              | rfl
              | (cases x.own with
                 | none => rfl
                 | some o => cases vInt y with
                   | none => rfl
                   | some a => cases iAt ρ2 l with
                     | none => rfl
                     | some b => cases ownL ρ2 i with
                       | none => rfl
                       | some os =>
                         dsimp only
                         cases set2O ρ2 i o a b os <;> rfl)))
theorem x_col {i r g : Nat} {n : Int} : ex C gv (.col i r g n) ρ = if r < ρ.length then oS (colS (ρ.set r .no) i g n) else .bad := by
  simp only [ex]
  split
  · cases colS (ρ.set r .no) i g n <;> rfl
  · rfl
theorem x_colt {i r g : Nat} {a b : Int} : ex C gv (.colt i r g a b) ρ = if r < ρ.length then oS (coltS (ρ.set r .no) i g (.tup [.int a, .int b])) else .bad := by
  simp only [ex]
  split
  · cases coltS (ρ.set r .no) i g (.tup [.int a, .int b]) <;> rfl
  · rfl
theorem x_coltS {i g : Nat} {b : Int} {d : D} {os os' : List Ow} (h1 : ownL ρ i = some os) (h2 : iAt ρ g = some b) (h3 : colD b d os = some os') : coltS ρ i g d = backL ρ i os' := by
  unfold coltS
  rw [h1]
  show (iAt ρ g).bind _ = _
  rw [h2]
  show (colD b d os).bind _ = _
  rw [h3]; rfl
def app2S (C : CallS) (gv : Nat → Option D) (ms : List Nat) (i j k : Nat) (e : IE) (ss : ISs) (ρ : Env) : Option Sl → Option Sl → RS
  | some (.val (.l os)), some (.val (.l _)) => if (ownL (ρ.set i .no) k).isNone || !small os.length then .bad else (evX C gv ms e (ρ.set i .no)).thn fun x ρ2 => (oS (app2O i j k os x ρ2)).thn (exs C gv ss)
  | _, _ => .bad
theorem x_app2 {i j k : Nat} {e : IE} {ss : ISs} : exs C gv (.app2 ms i j k e ss) ρ = app2S C gv ms i j k e ss ρ ρ[i]? ρ[j]? := by
  simp only [exs]
  generalize ρ[i]? = a
  generalize ρ[j]? = b
  have key : ∀ os : List Ow, ((if ((ownL (ρ.set i .no) k).isNone || !small os.length) = true then RS.bad else (evX C gv ms e (ρ.set i .no)).thn fun x ρ2 => match app2O i j k os x ρ2 with | some ρ3 => exs C gv ss ρ3 | none => RS.bad) = if ((ownL (ρ.set i .no) k).isNone || !small os.length) = true then RS.bad else (evX C gv ms e (ρ.set i .no)).thn fun x ρ2 => (oS (app2O i j k os x ρ2)).thn (exs C gv ss)) := fun os => by
    split
    · rfl
    · congr 1
      funext x ρ2
      cases app2O i j k os x ρ2 <;> rfl
  cases a with
  | none => rfl
  | some s1 => cases s1 with
    | val o1 => cases o1 with
      | l os => cases b with
        | none => rfl
        | some s2 => cases s2 with
          | val o2 => cases o2 with
            | l ps => exact key os
            | d _ => rfl
            | m _ _ => rfl
          | _ => rfl
      | d _ => rfl
      | m _ _ => rfl
    | _ => rfl
theorem x_app2S {i j k : Nat} {e : IE} {ss : ISs} {os ps : List Ow} : app2S C gv ms i j k e ss ρ (some (.val (.l os))) (some (.val (.l ps))) = if (ownL (ρ.set i .no) k).isNone || !small os.length then .bad else (evX C gv ms e (ρ.set i .no)).thn fun x ρ2 => (oS (app2O i j k os x ρ2)).thn (exs C gv ss) := id rfl
theorem x_colS {i g : Nat} {n b : Int} {os os' : List Ow} (h1 : ownL ρ i = some os) (h2 : iAt ρ g = some b) (h3 : colO b n os = some os') : colS ρ i g n = backL ρ i os' := by
  unfold colS
  rw [h1]
  show (iAt ρ g).bind _ = _
  rw [h2]
  show (colO b n os).bind _ = _
  rw [h3]; rfl
def iAtS : Option Sl → Option Int
  | some (.val (.d (.int b))) => some b
  | _ => none
theorem x_iAt {l : Nat} : iAt ρ l = iAtS ρ[l]? := by
  unfold iAt iAtS
  split <;> simp_all
theorem x_iAtS {b : Int} : iAtS (some (.val (.d (.int b)))) = some b := id rfl
theorem x_set2O {i : Nat} {o : Ow} {a b : Int} {os ps : List Ow} {a' b' : Nat} (h1 : ixN os.length a = some a') (h2 : os[a']? = some (.l ps)) (h3 : ixN ps.length b = some b') : set2O ρ i o a b os = backL ρ i (os.set a' (.l (ps.set b' o))) := by
  unfold set2O
  rw [h1]
  show (subL os a').bind _ = _
  have : subL os a' = some ps := by unfold subL; rw [h2]
  rw [this]
  show (ixN ps.length b).bind _ = _
  rw [h3]; rfl
theorem x_sl {a : IE} {lo hi : IO} : ev C gv M (.sl a lo hi) ρ = (ev C gv M a ρ).bind fun x ρ1 => (evO C gv M lo ρ1).bind fun l ρ2 => (evO C gv M hi ρ2).bind fun h ρ3 => R.of (slV x l h) ρ3 := by simp only [ev]
theorem x_oNo : evO C gv M .no ρ = .ok none ρ := by simp only [evO]
def soO (ρ : Env) : Option Int → R (Option Int)
  | some i => .ok (some i) ρ
  | none => .bad
theorem x_oSo {e : IE} : evO C gv M (.so e) ρ = (ev C gv M e ρ).bind fun x ρ1 => soO ρ1 (vInt x) := by
  simp only [evO]
  refine congrArg (R.bind (ev C gv M e ρ)) ?_
  funext x ρ1
  cases x with
  | bw o => rfl
  | ow o => cases o with
    | l os => rfl
    | m _ _ => rfl
    | d x => cases x <;> rfl
theorem x_soO {i : Int} : soO ρ (some i) = .ok (some i) ρ := id rfl
theorem x_slT {xs : List D} {lo hi : Option Int} : slV (dv (.tup xs)) lo hi = some (dv (.tup (cutD xs lo hi))) := id rfl
theorem x_slO {os : List Ow} {lo hi : Option Int} : slV (.ow (.l os)) lo hi = some (.ow (.l ((cutD (Ow.toDs os) lo hi).map Ow.d))) := id rfl
theorem x_slL {xs : List D} {lo hi : Option Int} : slV (dv (.lst xs)) lo hi = some (.ow (.l ((cutD xs lo hi).map Ow.d))) := id rfl
theorem x_g {k : Nat} {x : D} (h : gv k = some x) : ev C gv M (.g k) ρ = .ok (dv x) ρ := by
  simp only [ev]; rw [h]; rfl
theorem x_sorted {ns : List Int} {x : Vl} (h : x.look = .lst (ns.map D.int)) (hl : ns.length < 64) : unV .sorted x = some (.ow (.l ((ns.mergeSort (fun a b => decide (a ≤ b))).map fun i => .d (.int i)))) := by
  show ((x.look.lst?.bind D.ints?).bind fun ns => if ns.length < 64 then some (Vl.ow (Ow.l ((ns.mergeSort (fun a b => decide (a ≤ b))).map fun i => Ow.d (D.int i)))) else none) = _
  rw [h]; show ((D.ints? (ns.map D.int)).bind _) = _; rw [ints?_map]; show (if _ then _ else _) = _; rw [if_pos hl]
theorem x_zipT {xs ys : List D} : zipV M (dv (.tup xs)) (dv (.tup ys)) = some (zipI (xs.map dv) (ys.map dv)) := by
  unfold zipV; rw [x_imT, x_imT]; rfl
theorem x_zipL {xs ys : List D} : zipV M (dv (.lst xs)) (dv (.lst ys)) = some (zipI (xs.map dv) (ys.map dv)) := by
  unfold zipV; rw [x_imL, x_imL]; rfl
theorem x_lrng {a : IE} : ev C gv M (.lrng a) ρ = (ev C gv M a ρ).bind fun x ρ1 => match x with
    | .ow (.d (.int n)) => if decide (0 ≤ n) && decide (n ≤ 1000) then .ok (.ow (.l ((List.range n.toNat).map fun (k : Nat) => .d (.int k)))) ρ1 else .bad
    | _ => .bad := by first | (simp only [ev]; done) | (simp only [ev]; rfl)
theorem x_sset {a : IE} : ev C gv M (.sset a) ρ = (ev C gv M a ρ).bind fun x ρ1 => match tupI x.look with
    | some ns => if ns.length < 64 then .ok (.ow (.l ((sortU ns).map fun i => .d (.int i)))) ρ1 else .bad
    | none => .bad := by first | (simp only [ev]; done) | (simp only [ev]; rfl)
/-! ### texts -/
theorem x_scat {a b : Str} (h : small (a.length + b.length) = true) : binV .scat (dv (.str a)) (dv (.str b)) = some (dv (.str (a ++ b))) := by
  show (if _ then _ else _) = _
  rw [if_pos h]
theorem x_srep0 {a : Str} (h : small a.length = true) : binV .srep (dv (.str a)) (dv (.int 0)) = some (dv (.str Str.empty)) := by
  show (if _ then _ else _) = _
  rw [if_pos (by rw [h]; rfl)]; rfl
theorem x_srep1 {a : Str} (h : small a.length = true) : binV .srep (dv (.str a)) (dv (.int 1)) = some (dv (.str a)) := by
  show (if _ then _ else _) = _
  rw [if_pos (by rw [h]; rfl)]; rfl
theorem x_strI {i : Int} (h : i.natAbs.log2 < 1920) : unV .str (dv (.int i)) = some (dv (.str (toString i))) := by
  show (if _ then _ else _) = _
  rw [if_pos h]
theorem x_intS {a : Str} {n : Int} (h : a.length ≤ 640) (h2 : PySem.intText? a = some n) : unV .int (dv (.str a)) = some (dv (.int n)) := by
  show (if _ then _ else _) = _
  rw [if_pos h, h2]; rfl
theorem x_ixStr {z : Str} {i : Int} (h : small z.length = true) : ixV (dv (.str z)) i = (atI z.cps.toList i).map fun c => dv (.str ⟨#[c]⟩) := by
  show (if _ then _ else _) = _
  rw [if_pos h]
theorem x_slStr {z : Str} {lo hi : Option Int} (h : small z.length = true) : slV (dv (.str z)) lo hi = some (dv (.str (L2.cutS z lo hi))) := by
  show (if _ then _ else _) = _
  rw [if_pos h]
theorem x_inS {c : Nat} {z : Str} : binV .isIn (dv (.str ⟨#[c]⟩)) (dv (.str z)) = some (dv (.bl (decide (c ∈ z.cps.toList)))) := id rfl
theorem x_ninS {c : Nat} {z : Str} : binV .notIn (dv (.str ⟨#[c]⟩)) (dv (.str z)) = some (dv (.bl (!decide (c ∈ z.cps.toList)))) := id rfl
theorem x_split {a b : IE} : ev C gv M (.split a b) ρ = (ev C gv M a ρ).bind fun x ρ1 => match x with
    | .ow (.d (.str t)) => (ev C gv M b ρ1).bind fun y ρ2 => R.of (splitV (dv (.str t)) y) ρ2
    | _ => .bad := by first | (simp only [ev]; done) | (simp only [ev]; rfl)
theorem x_join {a b : IE} : ev C gv M (.join a b) ρ = (ev C gv M a ρ).bind fun x ρ1 => match x with
    | .ow (.d (.str t)) => (ev C gv M b ρ1).bind fun y ρ2 => R.of (joinV (dv (.str t)) y) ρ2
    | _ => .bad := by first | (simp only [ev]; done) | (simp only [ev]; rfl)
theorem x_srev {a : IE} : ev C gv M (.srev a) ρ = (ev C gv M a ρ).bind fun x ρ1 => match x with
    | .ow (.d (.str t)) => if small t.length then .ok (dv (.str (revS t))) ρ1 else .bad
    | _ => .bad := by first | (simp only [ev]; done) | (simp only [ev]; rfl)
theorem x_lrev {a : IE} : ev C gv M (.lrev a) ρ = (ev C gv M a ρ).bind fun x ρ1 => R.of (lrevV x) ρ1 := by first | (simp only [ev]; done) | (simp only [ev]; rfl)
theorem x_lrevO {os : List Ow} : lrevV (.ow (.l os)) = some (.ow (.l ((Ow.toDs os).reverse.map Ow.d))) := id rfl
theorem x_itS {a : IE} : evI C gv M (.s a) ρ = (ev C gv M a ρ).bind fun x ρ1 => match x with
    | .ow (.d (.str z)) => if small z.length then .ok (signI z) ρ1 else .bad
    | _ => .bad := by first | (simp only [evI]; done) | (simp only [evI]; rfl)
/-! ### dicts -/
theorem x_dgetB {ks : List (Int × Int)} {ds : List D} {a b : Int} : binV .dget (.bw (.m ks ds)) (dv (.tup [.int a, .int b])) = (valK ks ds a b).map dv := id rfl
theorem x_dgetW {ks : List (Int × Int)} {ds : List D} {a b : Int} : binV .dget (.ow (.m ks ds)) (dv (.tup [.int a, .int b])) = (valK ks ds a b).map dv := id rfl
theorem x_dinB {ks : List (Int × Int)} {ds : List D} {a b : Int} : binV .isIn (dv (.tup [.int a, .int b])) (.bw (.m ks ds)) = some (dv (.bl (valK ks ds a b).isSome)) := id rfl
theorem x_dinW {ks : List (Int × Int)} {ds : List D} {a b : Int} : binV .isIn (dv (.tup [.int a, .int b])) (.ow (.m ks ds)) = some (dv (.bl (valK ks ds a b).isSome)) := id rfl
theorem x_frzL {os : List Ow} : unV .frz (.ow (.l os)) = some (dv (.lst (Ow.toDs os))) := id rfl
theorem x_frzD {d : D} : unV .frz (dv d) = some (dv d) := id rfl
theorem x_dset {i j : Nat} {e : IE} : ex C gv (.dset ms i j e) ρ = (evX C gv ms e ρ).thn fun x ρ1 => oS (dsetO i j x ρ1) := by
  simp only [ex]
  first
  | rfl
  | (congr 1; funext x ρ1
     cases dsetO i j x ρ1 <;> rfl)
theorem x_dput {i ja jb : Nat} {e : IE} : ex C gv (.dput ms i ja jb e) ρ = (evX C gv ms e ρ).thn fun x ρ1 => oS (dputO i ja jb x ρ1) := by
  simp only [ex]
  first
  | rfl
  | (congr 1; funext x ρ1
     cases dputO i ja jb x ρ1 <;> rfl)
def kSl : Option Sl → Option (Int × Int)
  | some (.val (.d (.tup [.int a, .int b]))) => some (a, b)
  | _ => none
theorem x_kAt {j : Nat} : kAt ρ j = kSl ρ[j]? := by
  unfold kAt kSl
  split <;> simp_all
def backN (ρ : Env) (i : Nat) (ks : List (Int × Int)) (ds : List D) : Option Sl → Option Env
  | some (.val (.m _ _)) => some (ρ.set i (.val (.m ks ds)))
  | some (.ref (.m _ _)) => some (ρ.set i (.ref (.m ks ds)))
  | _ => none
theorem x_backM {i : Nat} {ks : List (Int × Int)} {ds : List D} : backM ρ i ks ds = backN ρ i ks ds ρ[i]? := by
  unfold backM backN
  split <;> simp_all
def ownN : Option Sl → Option (List (Int × Int) × List D)
  | some (.val (.m ks ds)) => some (ks, ds)
  | some (.ref (.m ks ds)) => some (ks, ds)
  | _ => none
theorem x_ownM {i : Nat} : ownM ρ i = ownN ρ[i]? := by
  unfold ownM ownN
  split <;> simp_all
def dsetP (ρ : Env) (i : Nat) (d : D) (k : Option (Int × Int)) (s : Option Sl) : Option Env :=
  match k, ownN s with
  | some k, some m => if (valK m.1 m.2 k.1 k.2).isSome && small m.1.length then backN ρ i m.1 (setK m.1 m.2 k.1 k.2 d) s else none
  | _, _ => none
theorem x_dsetO {i j : Nat} {d : D} : dsetO i j (dv d) ρ = dsetP ρ i d (kSl ρ[j]?) ρ[i]? := by
  unfold dsetO dsetP
  rw [x_kAt, x_ownM]
  cases kSl ρ[j]? with
  | none => rfl
  | some k => cases h : ownN ρ[i]? with
    | none => rfl
    | some m =>
      dsimp only
      rw [x_backM]
theorem x_kSl {a b : Int} : kSl (some (.val (.d (.tup [.int a, .int b])))) = some (a, b) := id rfl
theorem x_dsetP1 {i : Nat} {d : D} {a b : Int} {ks : List (Int × Int)} {ds : List D} (h1 : (valK ks ds a b).isSome = true) (h2 : small ks.length = true) : dsetP ρ i d (some (a, b)) (some (.val (.m ks ds))) = some (ρ.set i (.val (.m ks (setK ks ds a b d)))) := by
  show (if _ then _ else _) = _
  rw [if_pos (by rw [h1, h2]; rfl)]; rfl
theorem x_dsetP2 {i : Nat} {d : D} {a b : Int} {ks : List (Int × Int)} {ds : List D} (h1 : (valK ks ds a b).isSome = true) (h2 : small ks.length = true) : dsetP ρ i d (some (a, b)) (some (.ref (.m ks ds))) = some (ρ.set i (.ref (.m ks (setK ks ds a b d)))) := by
  show (if _ then _ else _) = _
  rw [if_pos (by rw [h1, h2]; rfl)]; rfl
def dputP (ρ : Env) (i : Nat) (d : D) (a b : Option Int) (s : Option Sl) : Option Env :=
  match a, b, ownN s with
  | some a, some b, some m => if (valK m.1 m.2 a b).isNone && small m.1.length then backN ρ i (m.1 ++ [(a, b)]) (m.2 ++ [d]) s else none
  | _, _, _ => none
theorem x_dputO {i ja jb : Nat} {d : D} : dputO i ja jb (dv d) ρ = dputP ρ i d (iAt ρ ja) (iAt ρ jb) ρ[i]? := by
  unfold dputO dputP
  rw [x_ownM]
  cases iAt ρ ja with
  | none => rfl
  | some a => cases iAt ρ jb with
    | none => rfl
    | some b => cases h : ownN ρ[i]? with
      | none => rfl
      | some m =>
        dsimp only
        rw [x_backM]
theorem x_dputP1 {i : Nat} {d : D} {a b : Int} {ks : List (Int × Int)} {ds : List D} (h1 : (valK ks ds a b).isNone = true) (h2 : small ks.length = true) : dputP ρ i d (some a) (some b) (some (.val (.m ks ds))) = some (ρ.set i (.val (.m (ks ++ [(a, b)]) (ds ++ [d])))) := by
  show (if _ then _ else _) = _
  rw [if_pos (by rw [h1, h2]; rfl)]; rfl
theorem x_dputP2 {i : Nat} {d : D} {a b : Int} {ks : List (Int × Int)} {ds : List D} (h1 : (valK ks ds a b).isNone = true) (h2 : small ks.length = true) : dputP ρ i d (some a) (some b) (some (.ref (.m ks ds))) = some (ρ.set i (.ref (.m (ks ++ [(a, b)]) (ds ++ [d])))) := by
  show (if _ then _ else _) = _
  rw [if_pos (by rw [h1, h2]; rfl)]; rfl
def rng3O (c : Int) : Option Int → Option Int → Option (List Itm)
  | some i, some j => rngV i j c
  | _, _ => none
theorem x_rng3 {a b : IE} {c : Int} : evI C gv M (.rng3 a b c) ρ = (ev C gv M a ρ).bind fun x ρ1 => (ev C gv M b ρ1).bind fun y ρ2 => R.of (rng3O c (vInt x) (vInt y)) ρ2 := by
  simp only [evI]
  refine congrArg (R.bind (ev C gv M a ρ)) ?_
  funext x ρ1
  refine congrArg (R.bind (ev C gv M b ρ1)) ?_
  funext y ρ2
  cases x with
  | bw o => rfl
  | ow o => cases o with
    | l os => rfl
    | m _ _ => rfl
    | d x => cases x with
      | int i => cases y with
        | bw o => rfl
        | ow o => cases o with
          | l os => rfl
          | m _ _ => rfl
          | d y => cases y <;> rfl
      | _ => rfl
theorem x_rng3O {i j c : Int} : rng3O c (some i) (some j) = rngV i j c := id rfl
/-! ### walks at a statement -/
def ownSl : Sl → Bool
  | .val (.l _) => true
  | .ref (.l _) => true
  | .val (.m _ _) => true
  | .ref (.m _ _) => true
  | _ => false
theorem x_osl6 {ks : List (Int × Int)} {ds : List D} : ownSl (.val (.m ks ds)) = true := id rfl
theorem x_osl7 {ks : List (Int × Int)} {ds : List D} : ownSl (.ref (.m ks ds)) = true := id rfl
theorem x_osl0 : ownSl .no = false := id rfl
theorem x_osl1 {d : D} : ownSl (.val (.d d)) = false := id rfl
theorem x_osl2 {os : List Ow} : ownSl (.val (.l os)) = true := id rfl
theorem x_osl3 {os : List Ow} : ownSl (.ref (.l os)) = true := id rfl
theorem x_osl4 {o : Ow} : ownSl (.bor o) = false := id rfl
theorem x_osl5 {d : D} : ownSl (.ref (.d d)) = false := id rfl
def noOwnY (ms : List Nat) : Nat → Env → Bool
  | _, [] => true
  | k, s :: l => (ms.contains k || !ownSl s) && noOwnY ms (k + 1) l
theorem x_noy0 {k : Nat} : noOwnY ms k [] = true := id rfl
theorem x_noy1 {k : Nat} {s : Sl} {l : Env} : noOwnY ms k (s :: l) = ((ms.contains k || !ownSl s) && noOwnY ms (k + 1) l) := id rfl
theorem noOwnY_eq : ∀ (ρ : Env) (k : Nat), noOwnY ms k ρ = (List.range ρ.length).all fun i => ms.contains (i + k) || !(match ρ[i]? with | some s => ownSl s | none => false)
  | [], _ => rfl
  | s :: l, k => by
    rw [List.length_cons, List.range_succ_eq_map, List.all_cons, List.all_map]
    show ((ms.contains k || !ownSl s) && noOwnY ms (k + 1) l) = _
    rw [noOwnY_eq l (k + 1), Nat.zero_add]
    congr 1
    congr 1
    funext i
    show _ = (ms.contains (i + 1 + k) || !(match (s :: l)[i + 1]? with | some s => ownSl s | none => false))
    rw [show i + 1 + k = i + (k + 1) by omega]
    rfl
theorem noOwn_Y : noOwn (Mof ms) ρ = noOwnY ms 0 ρ := by
  rw [noOwnY_eq]
  unfold noOwn
  congr 1
  funext i
  show (Mof ms i || !ownAt ρ i) = (ms.contains (i + 0) || _)
  rw [Nat.add_zero]
  congr 2
  unfold ownAt
  cases ρ[i]? with
  | none => rfl
  | some s => cases s with
    | no => rfl
    | bor o => rfl
    | val o => cases o <;> rfl
    | ref o => cases o <;> rfl
def finJ (b : Bool) (xs : List Itm) (ρ : Env) : R (List Itm) := if b = true then .ok xs ρ else .bad
theorem x_finI2 {xs : List Itm} : finI ms ρ (.ok xs ρ1) = finJ (ms.contains 1000000 || noOwnY ms 0 ρ) xs (mergeX (Mof ms) ρ ρ1) := by
  unfold finI finJ
  rw [← noOwn_Y, show Mof ms noW = ms.contains 1000000 from rfl]
  cases ms.contains 1000000 <;> cases noOwn (Mof ms) ρ <;> rfl
theorem x_finJ {xs : List Itm} : finJ true xs ρ = .ok xs ρ := id rfl
def finK (b : Bool) (x : Vl) (ρ : Env) : R Vl := if b = true then .ok x ρ else .bad
theorem x_finB {o : Ow} : finX ms ρ (.ok (.bw o) ρ1) = finK (noOwnY ms 0 ρ) (.bw o) (mergeX (Mof ms) ρ ρ1) := by
  unfold finX finK
  rw [← noOwn_Y]
  cases noOwn (Mof ms) ρ <;> rfl
theorem x_finK {x : Vl} : finK true x ρ = .ok x ρ := id rfl
theorem x_allM {xs : List α} {p : α → Bool} : unV .all (.ow (.l (xs.map fun x => Ow.d (.bl (p x))))) = some (dv (.bl (xs.all p))) := by
  have e : (Vl.ow (.l (xs.map fun x => Ow.d (.bl (p x))))).look = .lst ((xs.map p).map D.bl) := by
    show D.lst (Ow.toDs _) = _
    rw [Ow.toDs_eq, List.map_map, List.map_map]; rfl
  rw [x_all e, List.all_map]; rfl
theorem x_anyM {xs : List α} {p : α → Bool} : unV .any (.ow (.l (xs.map fun x => Ow.d (.bl (p x))))) = some (dv (.bl (xs.any p))) := by
  have e : (Vl.ow (.l (xs.map fun x => Ow.d (.bl (p x))))).look = .lst ((xs.map p).map D.bl) := by
    show D.lst (Ow.toDs _) = _
    rw [Ow.toDs_eq, List.map_map, List.map_map]; rfl
  rw [x_any e, List.any_map]; rfl
theorem x_sumM {xs : List α} {f : α → Int} : unV .sum (.ow (.l (xs.map fun x => Ow.d (.int (f x))))) = some (dv (.int (xs.map f).sum)) := by
  have e : (Vl.ow (.l (xs.map fun x => Ow.d (.int (f x))))).look = .lst ((xs.map f).map D.int) := by
    show D.lst (Ow.toDs _) = _
    rw [Ow.toDs_eq, List.map_map, List.map_map]; rfl
  exact x_sum e
theorem dsI_id (xs : List D) : (xs.map dv).map Itm.one = xs.map fun y => Itm.one (dv y) := by rw [List.map_map]; rfl
theorem x_tupBM {xs : List α} {f : α → D} : unV .tuple (.bw (.l (xs.map fun x => Ow.d (f x)))) = some (dv (.tup (xs.map f))) := by
  have e : (xs.map fun x => Ow.d (f x)) = (xs.map f).map Ow.d := by rw [List.map_map]; rfl
  rw [e, x_tupB]
theorem imB_map {h : M noW = false} {xs : List α} {f : α → List Ow} : itemsM M (.bw (.l (xs.map fun x => Ow.l (f x)))) = some (xs.map fun x => Vl.bw (.l (f x))) := by
  rw [x_imB h, List.map_map]; rfl
/-! ### walks -/
/-- what is walked: items told by something -/
theorem rngI_map (lo : Int) (n : Nat) : rngI lo n = (List.range n).map fun (k : Nat) => Itm.one (dv (.int (lo + (k : Int)))) := rfl
theorem rngI0 (n : Nat) : rngI 0 n = (List.range n).map fun (k : Nat) => Itm.one (dv (.int (k : Int))) := by
  rw [rngI_map]
  refine List.map_congr_left fun k _ => ?_
  rw [Int.zero_add]
theorem dsI_map (f : α → D) (xs : List α) : ((xs.map f).map dv).map Itm.one = xs.map fun x => Itm.one (dv (f x)) := by
  rw [List.map_map, List.map_map]; rfl
theorem enumI_map (f : α → D) : ∀ (xs : List α) (k : Nat), enumI (k : Int) ((xs.map f).map dv) = (xs.zipIdx k).map fun p => Itm.many [dv (.int (p.2 : Int)), dv (f p.1)]
  | [], _ => rfl
  | x :: xs, k => by
    show Itm.many [dv (.int k), dv (f x)] :: enumI ((k : Int) + 1) ((xs.map f).map dv) = _
    rw [show (k : Int) + 1 = ((k + 1 : Nat) : Int) from rfl, enumI_map f xs (k + 1)]
    rfl
theorem enumI0 (f : α → D) (xs : List α) : enumI 0 ((xs.map f).map dv) = (xs.zipIdx).map fun p => Itm.many [dv (.int (p.2 : Int)), dv (f p.1)] := enumI_map f xs 0
theorem zipI_map (f : α → D) (g : β → D) : ∀ (xs : List α) (ys : List β), zipI ((xs.map f).map dv) ((ys.map g).map dv) = (xs.zip ys).map fun p => Itm.many [dv (f p.1), dv (g p.2)]
  | [], _ => rfl
  | _ :: _, [] => rfl
  | x :: xs, y :: ys => by
    show Itm.many [dv (f x), dv (g y)] :: zipI ((xs.map f).map dv) ((ys.map g).map dv) = _
    rw [zipI_map f g xs ys]; rfl
/-- a comprehension over told items -/
theorem lc_fm {t : Tg} {body : Env → R (Option Ow)} {xs : List α} {it : α → Itm} (g : α → Option Ow) (h : ∀ x ∈ xs, lcStep M t body ρ (it x) = some (g x, ρ)) (hl : xs.length ≤ 100000) : lcL M t body (xs.map it) ρ [] = .ok (xs.filterMap g) ρ := by
  have key : ∀ (ys : List α), (∀ x ∈ ys, x ∈ xs) → ∀ acc : List Ow, acc.length + ys.length ≤ 100000 → lcL M t body (ys.map it) ρ acc = .ok (acc ++ ys.filterMap g) ρ := by
    intro ys
    induction ys with
    | nil => intro _ acc _; simp [lcL]
    | cons y ys ih =>
      intro hm acc ha
      rw [List.map_cons, lcL_one (h y (hm y List.mem_cons_self)) (small_of (by simp at ha; omega)), ih (fun d hd => hm d (List.mem_cons_of_mem _ hd)) _ (by cases g y <;> simp at ha ⊢ <;> omega)]
      cases hg : g y <;> simp [hg]
  have := key xs (fun _ h => h) [] (by simpa using hl)
  simpa using this
theorem lc_map {t : Tg} {body : Env → R (Option Ow)} {xs : List α} {it : α → Itm} (g : α → Ow) (h : ∀ x ∈ xs, lcStep M t body ρ (it x) = some (some (g x), ρ)) (hl : xs.length ≤ 100000) : lcL M t body (xs.map it) ρ [] = .ok (xs.map g) ρ := by
  rw [lc_fm (fun x => some (g x)) h hl]
  simp
theorem lc_filter {t : Tg} {body : Env → R (Option Ow)} {xs : List α} {it : α → Itm} (p : α → Bool) (g : α → Ow) (h : ∀ x ∈ xs, lcStep M t body ρ (it x) = some (if p x = true then some (g x) else none, ρ)) (hl : xs.length ≤ 100000) : lcL M t body (xs.map it) ρ [] = .ok ((xs.filter p).map g) ρ := by
  rw [lc_fm (fun x => if p x = true then some (g x) else none) h hl]
  congr 1
  clear h hl
  induction xs with
  | nil => rfl
  | cons x xs ih => cases hp : p x <;> simp [hp, ih]
/-- .. that draws: the state goes through -/
theorem lc_draw {S : Type} {t : Tg} {body : Env → R (Option Ow)} {it : α → Itm} {P : γ → Prop} (en : S → Env) (f : γ → Ow) : ∀ (xs : List α) (s : S), xs.length ≤ 100000 → (∀ (s : S), ∀ x ∈ xs, ∃ (c : γ) (s' : S), P c ∧ lcStep M t body (en s) (it x) = some (some (f c), en s')) →
    ∃ (cs : List γ) (s' : S), cs.length = xs.length ∧ (∀ c ∈ cs, P c) ∧ lcL M t body (xs.map it) (en s) [] = .ok (cs.map f) (en s') := by
  intro xs s hl h
  have key : ∀ (ys : List α), (∀ x ∈ ys, x ∈ xs) → ∀ (s : S) (acc : List Ow), acc.length + ys.length ≤ 100000 → ∃ (cs : List γ) (s' : S), cs.length = ys.length ∧ (∀ c ∈ cs, P c) ∧ lcL M t body (ys.map it) (en s) acc = .ok (acc ++ cs.map f) (en s') := by
    intro ys
    induction ys with
    | nil => intro _ s acc _; exact ⟨[], s, rfl, fun _ h => (nomatch h), by simp [lcL]⟩
    | cons y ys ih =>
      intro hm s acc ha
      obtain ⟨c, s1, hc, e⟩ := h s y (hm y List.mem_cons_self)
      obtain ⟨cs, s2, h1, h2, h3⟩ := ih (fun d hd => hm d (List.mem_cons_of_mem _ hd)) s1 (acc ++ [f c]) (by simp at ha ⊢; omega)
      refine ⟨c :: cs, s2, by simp [h1], fun x hx => ?_, ?_⟩
      · rcases List.mem_cons.mp hx with rfl | hx
        · exact hc
        · exact h2 x hx
      · rw [List.map_cons, lcL_one e (small_of (by simp at ha; omega))]
        simpa using h3
  have := key xs (fun _ h => h) s [] (by simpa using hl)
  simpa using this
/-- a loop over told items: what each turn does to the state -/
theorem for_fold {S : Type} {t : Tg} {body : Env → RS} {it : α → Itm} (en : S → Env) (f : S → α → S) : ∀ (xs : List α) (s : S), (∀ (s : S), ∀ x ∈ xs, ∃ ρ1, putI (en s) t (it x) = some ρ1 ∧ body ρ1 = .nx (en (f s x))) →
    forL t body (xs.map it) (en s) = .nx (en (xs.foldl f s))
  | [], s, _ => rfl
  | x :: xs, s, h => by
    obtain ⟨ρ1, e1, e2⟩ := h s x List.mem_cons_self
    rw [List.map_cons]
    show (match putI (en s) t (it x) with | none => RS.bad | some ρ1 => (body ρ1).thn fun ρ2 => forL t body (xs.map it) ρ2) = _
    rw [e1]
    show (body ρ1).thn _ = _
    rw [e2]
    exact for_fold en f xs (f s x) fun s y hy => h s y (List.mem_cons_of_mem _ hy)
/-- .. with what stays true of the state -/
theorem for_foldI {S : Type} {t : Tg} {body : Env → RS} {it : α → Itm} (en : S → Env) (f : S → α → S) (I : S → List α → Prop) : ∀ (xs : List α) (s : S), I s xs → (∀ (s : S) (x : α) (ys : List α), I s (x :: ys) → I (f s x) ys ∧ ∃ ρ1, putI (en s) t (it x) = some ρ1 ∧ body ρ1 = .nx (en (f s x))) →
    forL t body (xs.map it) (en s) = .nx (en (xs.foldl f s)) ∧ I (xs.foldl f s) []
  | [], s, hi, _ => ⟨rfl, hi⟩
  | x :: xs, s, hi, h => by
    obtain ⟨hi', ρ1, e1, e2⟩ := h s x xs hi
    have ih := for_foldI en f I xs (f s x) hi' h
    refine ⟨?_, ih.2⟩
    rw [List.map_cons]
    show (match putI (en s) t (it x) with | none => RS.bad | some ρ1 => (body ρ1).thn fun ρ2 => forL t body (xs.map it) ρ2) = _
    rw [e1]
    show (body ρ1).thn _ = _
    rw [e2]
    exact ih.1
/-- .. what there is behind it, told by a property -/
theorem for_ex {S : Type} {t : Tg} {body : Env → RS} {it : α → Itm} (en : S → Env) (I : S → List α → Prop) : ∀ (xs : List α) (s : S), I s xs → (∀ (s : S) (x : α) (ys : List α), I s (x :: ys) → ∃ s' ρ1, I s' ys ∧ putI (en s) t (it x) = some ρ1 ∧ body ρ1 = .nx (en s')) →
    ∃ s', I s' [] ∧ forL t body (xs.map it) (en s) = .nx (en s')
  | [], s, hi, _ => ⟨s, hi, rfl⟩
  | x :: xs, s, hi, h => by
    obtain ⟨s1, ρ1, hi', e1, e2⟩ := h s x xs hi
    obtain ⟨s2, h2, e3⟩ := for_ex en I xs s1 hi' h
    refine ⟨s2, h2, ?_⟩
    rw [List.map_cons]
    show (match putI (en s) t (it x) with | none => RS.bad | some ρ1 => (body ρ1).thn fun ρ2 => forL t body (xs.map it) ρ2) = _
    rw [e1]
    show (body ρ1).thn _ = _
    rw [e2]
    exact e3
/-- a loop that appends -/
theorem for_app {t : Tg} {body : Env → RS} {it : α → Itm} {B : Nat} (en : List Ow → Env) (f : α → List Ow) : ∀ (xs : List α) (acc : List Ow), (∀ (acc : List Ow), ∀ x ∈ xs, acc.length + (f x).length ≤ B → ∃ ρ1, putI (en acc) t (it x) = some ρ1 ∧ body ρ1 = .nx (en (acc ++ f x))) → acc.length + (xs.flatMap f).length ≤ B →
    forL t body (xs.map it) (en acc) = .nx (en (acc ++ xs.flatMap f))
  | [], acc, _, _ => by simp [forL]
  | x :: xs, acc, h, hB => by
    rw [List.flatMap_cons, List.length_append] at hB
    obtain ⟨ρ1, e1, e2⟩ := h acc x List.mem_cons_self (by omega)
    rw [List.map_cons]
    show (match putI (en acc) t (it x) with | none => RS.bad | some ρ1 => (body ρ1).thn fun ρ2 => forL t body (xs.map it) ρ2) = _
    rw [e1]
    show (body ρ1).thn _ = _
    rw [e2]
    show forL t body (xs.map it) (en (acc ++ f x)) = _
    rw [for_app en f xs (acc ++ f x) (fun acc y hy => h acc y (List.mem_cons_of_mem _ hy)) (by rw [List.length_append]; omega), List.flatMap_cons, List.append_assoc]
theorem flat_if {xs : List α} {p : α → Bool} {g : α → γ} : (xs.flatMap fun x => if p x = true then [g x] else []) = (xs.filter p).map g := by
  induction xs with
  | nil => rfl
  | cons x xs ih => cases h : p x <;> simp [h, ih]
theorem zipIdx_range (xs : List α) (x0 : α) : xs.zipIdx = (List.range xs.length).map fun i => (xs.getD i x0, i) := by
  refine List.ext_getElem? fun i => ?_
  rw [List.getElem?_map, List.getElem?_zipIdx]
  by_cases hi : i < xs.length
  · rw [List.getElem?_range hi, List.getElem?_eq_getElem hi]
    simp [List.getD_eq_getElem?_getD, List.getElem?_eq_getElem hi]
  · rw [List.getElem?_eq_none (by omega), List.getElem?_eq_none (by simpa using hi)]; rfl
theorem enum_range (f : α → D) (xs : List α) (x0 : α) : enumI 0 ((xs.map f).map dv) = (List.range xs.length).map fun (i : Nat) => Itm.many [dv (.int (i : Int)), dv (f (xs.getD i x0))] := by
  rw [enumI0, zipIdx_range xs x0, List.map_map]; rfl
theorem items_range (f : α → D) (xs : List α) (x0 : α) : ((xs.map f).map dv).map Itm.one = (List.range xs.length).map fun (i : Nat) => Itm.one (dv (f (xs.getD i x0))) := by
  rw [dsI_map]
  have : xs = (List.range xs.length).map fun i => xs.getD i x0 := by
    refine List.ext_getElem? fun i => ?_
    rw [List.getElem?_map]
    by_cases hi : i < xs.length
    · rw [List.getElem?_range hi]
      simp [List.getD_eq_getElem?_getD, List.getElem?_eq_getElem hi]
    · rw [List.getElem?_eq_none (by omega), List.getElem?_eq_none (by simpa using hi)]; rfl
  conv => lhs; rw [this]
  rw [List.map_map]; rfl
/-- a loop over numbers, the state told by the number -/
theorem for_rng {t : Tg} {body : Env → RS} {it : Nat → Itm} (en : Nat → Env) (n : Nat) (h : ∀ j, j < n → ∃ ρ1, putI (en j) t (it j) = some ρ1 ∧ body ρ1 = .nx (en (j + 1))) : forL t body ((List.range n).map it) (en 0) = .nx (en n) := by
  have key : ∀ (m k : Nat), k + m = n → forL t body ((List.range' k m).map it) (en k) = .nx (en n) := by
    intro m
    induction m with
    | zero => intro k hk; rw [show k = n by omega]; rfl
    | succ m ih =>
      intro k hk
      obtain ⟨ρ1, e1, e2⟩ := h k (by omega)
      rw [List.range'_succ, List.map_cons]
      show (match putI (en k) t (it k) with | none => RS.bad | some ρ1 => (body ρ1).thn fun ρ2 => forL t body _ ρ2) = _
      rw [e1]
      show (body ρ1).thn _ = _
      rw [e2]
      exact ih (k + 1) (by omega)
  rw [List.range_eq_range']
  exact key n 0 (by omega)
/-- .. the state found on the way -/
theorem for_rngE {S : Type} {t : Tg} {body : Env → RS} {it : Nat → Itm} (en : S → Env) (I : Nat → S → Prop) (n : Nat) (s0 : S) (h0 : I 0 s0) (h : ∀ j s, j < n → I j s → ∃ s' ρ1, I (j + 1) s' ∧ putI (en s) t (it j) = some ρ1 ∧ body ρ1 = .nx (en s')) : ∃ s, I n s ∧ forL t body ((List.range n).map it) (en s0) = .nx (en s) := by
  have key : ∀ (m k : Nat) (s : S), k + m = n → I k s → ∃ s', I n s' ∧ forL t body ((List.range' k m).map it) (en s) = .nx (en s') := by
    intro m
    induction m with
    | zero => intro k s hk hi; rw [show k = n by omega] at hi; exact ⟨s, hi, rfl⟩
    | succ m ih =>
      intro k s hk hi
      obtain ⟨s1, ρ1, hi1, e1, e2⟩ := h k s (by omega) hi
      obtain ⟨s2, h2, e3⟩ := ih (k + 1) s1 (by omega) hi1
      refine ⟨s2, h2, ?_⟩
      rw [List.range'_succ, List.map_cons]
      show (match putI (en s) t (it k) with | none => RS.bad | some ρ1 => (body ρ1).thn fun ρ2 => forL t body _ ρ2) = _
      rw [e1]
      show (body ρ1).thn _ = _
      rw [e2]
      exact e3
  rw [List.range_eq_range']
  exact key n 0 s0 (by omega) h0
/-- a loop that looks for an item -/
theorem for_find {t : Tg} {body : Env → RS} {it : α → Itm} (p : α → Bool) (r : α → RS) : ∀ (xs : List α), (∀ x ∈ xs, ∃ ρ1, putI ρ t (it x) = some ρ1 ∧ body ρ1 = if p x = true then r x else .nx ρ) → (∀ x ∈ xs, p x = true → ∀ k, (r x).thn k = r x) →
    forL t body (xs.map it) ρ = match xs.find? p with | some x => r x | none => .nx ρ
  | [], _, _ => rfl
  | x :: xs, h, hr => by
    obtain ⟨ρ1, e1, e2⟩ := h x List.mem_cons_self
    rw [List.map_cons]
    show (match putI ρ t (it x) with | none => RS.bad | some ρ1 => (body ρ1).thn fun ρ2 => forL t body (xs.map it) ρ2) = _
    rw [e1]
    show (body ρ1).thn _ = _
    rw [e2]
    cases hp : p x with
    | true =>
      rw [if_pos rfl, List.find?_cons, hp, hr x List.mem_cons_self hp]
    | false =>
      rw [if_neg Bool.false_ne_true, List.find?_cons, hp]
      exact for_find p r xs (fun y hy => h y (List.mem_cons_of_mem _ hy)) fun y hy => hr y (List.mem_cons_of_mem _ hy)
theorem x_nc0 : ((0 : Nat) : Int) = 0 := id rfl
theorem x_nc1 : ((1 : Nat) : Int) = 1 := id rfl
theorem x_nc2 : ((2 : Nat) : Int) = 2 := id rfl
theorem x_nc3 : ((3 : Nat) : Int) = 3 := id rfl
theorem x_nc4 : ((4 : Nat) : Int) = 4 := id rfl
theorem x_nc5 : ((5 : Nat) : Int) = 5 := id rfl
theorem x_nc6 : ((6 : Nat) : Int) = 6 := id rfl
theorem x_nc7 : ((7 : Nat) : Int) = 7 := id rfl
theorem x_nc8 : ((8 : Nat) : Int) = 8 := id rfl
theorem x_nc9 : ((9 : Nat) : Int) = 9 := id rfl
theorem x_nc10 : ((10 : Nat) : Int) = 10 := id rfl
theorem x_nc11 : ((11 : Nat) : Int) = 11 := id rfl
theorem x_nc12 : ((12 : Nat) : Int) = 12 := id rfl
theorem thn_rt {o : Ow} (k : Env → RS) : (RS.rt o ρ).thn k = .rt o ρ := rfl
theorem toDs_map' (f : α → D) (xs : List α) : Ow.toDs (xs.map fun x => Ow.d (f x)) = xs.map f := by rw [Ow.toDs_eq, List.map_map]; rfl
/-! ### what core Lean has -/
theorem e_df (h : Decidable False) : @decide False h = false := decide_false h
theorem e_dt (h : Decidable True) : @decide True h = true := decide_true h
theorem e_z (n : Nat) : 0 + n = n := Nat.zero_add n
theorem e_ne {a b : α} : (a ≠ b) = ¬ (a = b) := rfl
theorem e_nf : (¬ False) = True := not_false_eq_true
theorem e_nt : (¬ True) = False := not_true_eq_false
theorem e_of (b : Bool) : (b || false) = b := Bool.or_false b
theorem e_fo (b : Bool) : (false || b) = b := Bool.false_or b
theorem e_ot (b : Bool) : (b || true) = true := Bool.or_true b
theorem e_to (b : Bool) : (true || b) = true := Bool.true_or b
theorem e_ft : (false = true) = False := Bool.false_eq_true
theorem e_bs [BEq α] [ReflBEq α] (a : α) : (a == a) = true := beq_self_eq_true a
theorem e_si {a b : α} : (some a = some b) = (a = b) := Option.some.injEq a b
theorem e_sn (a : α) : (some a).isNone = false := rfl
theorem e_tl (a : α) : (some a).toList = [a] := rfl
theorem e_tn : (none : Option α).toList = [] := rfl
theorem e_mc (f : α → β) (a : α) (l : List α) : (a :: l).map f = f a :: l.map f := rfl
theorem e_mn (f : α → β) : ([] : List α).map f = [] := rfl
theorem e_lc (a : α) (l : List α) : (a :: l).length = l.length + 1 := rfl
theorem e_ln : ([] : List α).length = 0 := rfl
theorem e_nbt : (!true) = false := rfl
theorem e_nbf : (!false) = true := rfl
theorem e_at (b : Bool) : (b && true) = b := Bool.and_true b
theorem e_ta (b : Bool) : (true && b) = b := Bool.true_and b
theorem e_fa (b : Bool) : (false && b) = false := Bool.false_and b
theorem e_af (b : Bool) : (b && false) = false := Bool.and_false b
theorem e_it (a b : α) : (if True then a else b) = a := if_pos trivial
theorem e_if (a b : α) : (if False then a else b) = b := if_neg id
theorem own_d (ds : List D) : Ow.toDs (ds.map Ow.d) = ds := toDs_map ds
end
end WM

/-! WM: a law's call from a heap in which nobody looks out for divisions of long numbers. -/
namespace WM
open PySem PySem.Spec PyProof.Rows L2
section
variable {P : Program} {w : World} {K : PySem.W.Frag} {mg mb : Str → Option Value} {CX : CXT} {k : Nat} {fa la : Addr} {fd : FuncData} {x : Str} {sp : Sp} {t : Shared} {us : List Value} {zs : List Int}
/-- what a law's call is to end in -/
def EndT (t : Shared) : Except Value Flow → Shared → Prop := fun r t' => r = .ok (.ret (.bool true)) ∧ OldK t.heap t'.heap ∧ t'.os = t.os ∧ AllBare t'.gens
def lsObj (us : List Value) : Obj := { cls := .type "list", data := .seq us.toArray }
theorem ns_away {h : Heap} {H : Hp} {c : Addr} {m : Str → Option Value} (hl : h.get? la = some (lsObj us)) (only : ∀ b, H b ≠ none → b = la) (q : h.Ns c m) : (hidT h H).Ns c m := by
  obtain ⟨o, es, ep, e, dd, rest⟩ := q
  refine ⟨o, es, ep, hidT_get e ?_, dd, rest⟩
  cases z : H c with
  | none => rfl
  | some y =>
    have z2 := only c (by rw [z]; exact nofun)
    rw [z2, hl] at e
    cases e
    cases dd
theorem seer_away {h : Heap} {H : Hp} (hl : h.get? la = some (lsObj us)) (only : ∀ b, H b ≠ none → b = la) (q : h.NoSeer) : (hidT h H).NoSeer := by
  obtain ⟨⟨mc, c1, c2, c3⟩, ⟨mm, d1, d2⟩, ⟨mi, e1, e2⟩, ⟨mn, bm, ob, f1, f2, f3, f4, f5⟩⟩ := q
  refine ⟨⟨mc, ns_away hl only c1, c2, c3⟩, ⟨mm, ns_away hl only d1, d2⟩, ⟨mi, ns_away hl only e1, e2⟩, ⟨mn, bm, ob, ns_away hl only f1, f2, hidT_get f3 ?_, f4, f5⟩⟩
  cases z : H bm with
  | none => rfl
  | some y =>
    have z2 := only bm (by rw [z]; exact nofun)
    rw [z2, hl] at f3
    cases f3
    cases f5
theorem limit_away {h : Heap} {H : Hp} (hl : h.get? la = some (lsObj us)) (only : ∀ b, H b ≠ none → b = la) (q : h.NoLimit) : (hidT h H).NoLimit := by
  obtain ⟨mc, c1, c2⟩ := q
  exact ⟨mc, ns_away hl only c1, c2⟩
/-- one choice of what is tracked -/
theorem call_by (kin : K.In t.heap) (gm : t.heap.Ns mainGlobals mg) (gb : t.heap.Ns builtinsNs mb) (gbb : ∀ y : Str, y ≠ "__name__" → mb y = bootBuiltins y) (gl : t.heap.NoLimit) (gs : t.heap.NoSeer) (gg : t.gens = #[])
    (hl : t.heap.get? la = some (lsObj us)) (gr : Room k callerA) (prom : ∀ base : Heap, K.In base → base.Ns mainGlobals mg → base.NoSeer → FnOk P w K mg base CX k fa fd [x] sp) (bnd : ∀ (s : Shared) (u : Value), BindsTo s fd ⟨[u], []⟩ [(x, u)])
    (noex : ∀ (H : Hp) (e : Value) (t' : Shared), CX [] H t (fun _ _ _ => False) e t' → False)
    {H : Hp} (hO : Only H) (hok : HOk P w H t.heap) (only : ∀ b, H b ≠ none → b = la) (out : H la ≠ none → K.lookup la = none) (asks : sp [.ref la] H (fun v _ => v = .bl true) fun _ _ _ => False) :
    codeAny (model P w) callerA (.call (.ref fa) ⟨[.ref la], []⟩) (EndT t) t := by
  have kb : K.In (hidT t.heap H) := fun c o e => by
    refine hidT_get (kin c o e) ?_
    cases z : H c with
    | none => rfl
    | some y =>
      have z2 := only c (by rw [z]; exact nofun)
      have z3 := out (by rw [← z2, z]; exact nofun)
      rw [z2, z3] at e
      cases e
  have ns := fun {c m} (q : t.heap.Ns c m) => ns_away (H := H) hl only q
  have md : Mod K mg (hidT t.heap H) := ⟨kb, ns gm, ⟨mb, ns gb, gbb⟩, limit_away hl only gl⟩
  have ev0 : Env0 P w K mg (hidT t.heap H) callerA [] t H := ⟨rfl, md, fun c o e => of_hidT e, Nat.le_of_eq (hidT_size _ _), trivial, fun c hc => (nomatch (show c ∈ ([] : List Addr) from hc)), hok, .of_eq gg⟩
  have run := (prom _ kb (ns gm) (seer_away hl only gs)).run callerA [] t H ⟨[.ref la], []⟩ [.ref la] [.ref la] _ _ gr ev0 (bnd t (.ref la)) (.cons rfl .nil) asks
  refine codeAny_mono run fun r t' q => ?_
  cases r with
  | error e => exact (noex H e t' q).elim
  | ok f =>
    cases f with
    | ret u =>
      obtain ⟨v, H', h1, h2, h3, h4, h5, h6⟩ := q
      have h6 : v = .bl true := h6
      subst h6
      have h5 : u = Value.bool true := h5
      subst h5
      refine ⟨rfl, OldK.of_keep fun c o e => ?_, h1, h2⟩
      cases z : H c with
      | none => exact h3.keep c o e z (fun m => (nomatch (show c ∈ ([] : List Addr) from m))) (fun m => (nomatch (show c ∈ ([] : List Addr) from m)))
      | some y =>
        rcases hO c with z2 | ⟨ob, xs, z2⟩
        · rw [z] at z2; cases z2
        · have a1 := (hok c _ z2).1
          have a2 := (h4 c _ (h3.frzs c ob _ z2)).1
          rw [e] at a1
          cases a1
          exact a2
    | next => exact False.elim q
    | brk => exact False.elim q
    | cont => exact False.elim q
theorem call_seer (kin : K.In t.heap) (gm : t.heap.Ns mainGlobals mg) (gb : t.heap.Ns builtinsNs mb) (gbb : ∀ y : Str, y ≠ "__name__" → mb y = bootBuiltins y) (gl : t.heap.NoLimit) (gs : t.heap.NoSeer) (gg : t.gens = #[])
    (hl : t.heap.get? la = some (lsObj us)) (hz : IntsAre us zs) (hn : zs.length ≤ sizeLine) (gr : Room k callerA) (prom : ∀ base : Heap, K.In base → base.Ns mainGlobals mg → base.NoSeer → FnOk P w K mg base CX k fa fd [x] sp) (bnd : ∀ (s : Shared) (u : Value), BindsTo s fd ⟨[u], []⟩ [(x, u)])
    (asks : ∀ H : Hp, SqL K H la (zs.map V.int) → sp [.ref la] H (fun v _ => v = .bl true) fun _ _ _ => False)
    (noex : ∀ (H : Hp) (e : Value) (t' : Shared), CX [] H t (fun _ _ _ => False) e t' → False) : codeAny (model P w) callerA (.call (.ref fa) ⟨[.ref la], []⟩) (EndT t) t := by
  have rv := vals_ints hz
  have ln := hz.length
  cases q : K.lookup la with
  | some o =>
    have e := kin la o q
    rw [hl] at e
    cases e
    have sq : SqL K (fun _ => none) la (zs.map V.int) := .inr ⟨lsObj us, us.toArray, _, q, rfl, rfl, rfl, by rw [List.size_toArray, ln]; exact hn, by simpa using rv⟩
    exact call_by kin gm gb gbb gl gs gg hl gr prom bnd noex (H := fun _ => none) (fun _ => .inl rfl) (fun c u z => (nomatch (show (none : Option HO) = some u from z))) (fun c z => absurd rfl z) (fun z => absurd rfl z) (asks _ sq)
  | none =>
    have at_ : ∀ c y, (if c = la then some (HO.frz (lsObj us) (.lst (zs.map V.int))) else none) = some y → c = la ∧ y = HO.frz (lsObj us) (.lst (zs.map V.int)) := fun c y z => by
      by_cases cc : c = la
      · rw [if_pos cc] at z; exact ⟨cc, (Option.some.inj z).symm⟩
      · rw [if_neg cc] at z; cases z
    have sq : SqL K (fun c => if c = la then some (HO.frz (lsObj us) (.lst (zs.map V.int))) else none) la (zs.map V.int) := .inl (.inr ⟨lsObj us, if_pos rfl⟩)
    refine call_by kin gm gb gbb gl gs gg hl gr prom bnd noex (H := fun c => if c = la then some (HO.frz (lsObj us) (.lst (zs.map V.int))) else none) (fun c => ?_) (fun c u z => ?_) (fun c z => ?_) (fun _ => q) (asks _ sq)
    · by_cases cc : c = la
      · exact .inr ⟨_, _, if_pos cc⟩
      · exact .inl (if_neg cc)
    · obtain ⟨rfl, rfl⟩ := at_ c u z
      exact ⟨hl, by rw [List.length_map]; exact hn, us, _, rv, hl⟩
    · by_cases cc : c = la
      · exact cc
      · exact absurd (if_neg cc) z
end
theorem walk_seer {l : PySem.W.OpenLaw} {n k : Nat} {q : Program} {loose : List Str} {XP : (Str → Option Value) → Heap → Prop} {YP : World → Heap → Prop} {dr : DefRec} {K : Params → PySem.W.Frag} {CX : World → CXT} {sp : World → Sp} {x : Str}
    (most : l.most = some n) (line : n ≤ sizeLine) (nod : dr.params.defaults = []) (room : Room k callerA) (inq : importsNone q = true) (kin : ∀ (w : World) (h : Heap), YP w h → (K w.params).In h)
    (prom : ∀ (w : World) (mg : Str → Option Value) (fa : Addr) (h : Heap), (K w.params).In h → h.Ns mainGlobals mg → mg dr.name = some (.ref fa) → ∃ fd : FuncData, (∀ (s : Shared) (u : Value), BindsTo s fd ⟨[u], []⟩ [(x, u)]) ∧ ∀ base : Heap, (K w.params).In base → base.Ns mainGlobals mg → base.NoSeer → FnOk l.prog w (K w.params) mg base (CX w) k fa fd [x] (sp w))
    (asks : ∀ (w : World) (H : Hp) (a : Addr) (ns : List Int), ns.length ≤ n → SqL (K w.params) H a (ns.map V.int) → sp w [.ref a] H (fun v _ => v = .bl true) fun _ _ _ => False)
    (noex : ∀ (w : World) (H : Hp) (s : Shared) (e : Value) (s' : Shared), CX w [] H s (fun _ _ _ => False) e s' → False) : PySem.W.WalkO q loose XP YP l.row.toRowW dr [] (fun f vs => PySem.call f vs) := by
  refine Att.attach_call most nod fun w _ t mg mb fa _ _ _ _ la us zs G Y _ _ _ hmg hl hz hle hg => ?_
  have ki := kin w _ Y
  obtain ⟨fd, b1, b2⟩ := prom w mg fa _ ki G.T.g hmg
  exact call_seer ki G.T.g G.T.b G.T.builtins G.T.nolimit (G.T.seer inq) hg hl hz (Nat.le_trans hle line) room b2 b1 (fun H => asks w H la zs hle) fun H e t' => noex w H t e t'
end WM

local macro_rules | `(tactic| simp_arith [$xs,*]) => `(tactic| simp (config := { maxDischargeDepth := 6 }) only [WM.x_bind_ok, WM.x_bind_exc, WM.x_thn_ok, WM.x_thn_exc, WM.x_nx, WM.x_rt, WM.x_ex, WM.x_of, WM.x_oS, WM.x_merge, WM.x_mergeX, WM.x_mL0, WM.x_mL1, WM.x_mY0, WM.x_mY1, WM.x_unb0, WM.x_unb1, WM.x_unb2, WM.x_unb3, WM.x_exs0, WM.x_exs1, WM.x_exs2, WM.x_frz1, WM.x_frz2, WM.x_evX, WM.x_fin1, WM.x_fin2, WM.x_fin3, WM.x_set, WM.x_par, WM.x_ev2, WM.x_fin2a, WM.x_fin2b, WM.x_set1, WM.x_setO, WM.x_app, WM.x_appO, WM.x_ext, WM.x_aug, WM.x_augS, WM.x_augO, WM.x_iff, WM.x_tst, WM.x_forr, WM.x_evIX, WM.x_finI, WM.x_whl, WM.x_ret, WM.x_retO, WM.x_exp, WM.x_putC, WM.x_put0, WM.x_put1, WM.x_put2, WM.x_slOf1, WM.x_slOf2, WM.x_slOf3, WM.x_putT1, WM.x_putT2, WM.x_putT3, WM.x_putA0, WM.x_putA1, WM.x_frzv1, WM.x_frzv2, WM.x_own1, WM.x_own2, WM.x_vInt, WM.x_ownL, WM.x_ownS1, WM.x_ownS2, WM.x_backL, WM.x_backS1, WM.x_backS2, WM.x_c, WM.x_v, WM.x_v1, WM.x_v2, WM.x_v3, WM.x_v4, WM.x_v5, WM.x_mv, WM.x_mv1, WM.x_bin, WM.x_un, WM.x_and, WM.x_or, WM.x_andV, WM.x_orV, WM.x_tup, WM.x_lst, WM.x_tupO, WM.x_lstO, WM.x_dat1, WM.x_dat2, WM.x_mapM, WM.x_mapO0, WM.x_mapO1, WM.x_evs0, WM.x_evs1, WM.x_call, WM.x_evA0, WM.x_evA1, WM.x_evA2, WM.x_refA1, WM.x_refA2, WM.x_callR, WM.x_callA, WM.x_callO, WM.x_callOe, WM.x_putO1, WM.x_putO2, WM.x_getA0, WM.x_getA1, WM.x_getA2, WM.x_getS1, WM.x_getS2, WM.x_agR0, WM.x_agR1, WM.x_agR2, WM.x_nd0, WM.x_nd1, WM.x_pA0, WM.x_pA1, WM.x_putP1, WM.x_putP2, WM.x_add, WM.x_sub, WM.x_band, WM.x_lt, WM.x_le, WM.x_gt, WM.x_ge, WM.x_mul, WM.x_mod, WM.x_fdiv, WM.x_eqI, WM.x_neI, WM.x_max, WM.x_min, WM.x_maxV, WM.x_minV, WM.x_isa, WM.x_look1, WM.x_look2, WM.x_look3, WM.x_ix, WM.x_ixT, WM.x_ixL, WM.x_ixS, WM.x_ixO, WM.x_ixB, WM.x_lend1, WM.x_lend2, WM.x_lenT, WM.x_lenL, WM.x_lenS, WM.x_lenO, WM.x_lenB, WM.x_not, WM.x_neg, WM.x_abs, WM.x_intI, WM.x_intB, WM.x_isN, WM.x_notN, WM.x_tupO', WM.x_tupL, WM.x_tupT, WM.x_tupB, WM.x_sumT, WM.x_lc, WM.x_rng1, WM.x_rngO, WM.x_rng2, WM.x_rng2O, WM.x_itE, WM.x_itN, WM.x_itZ, WM.x_imT, WM.x_imL, WM.x_imO, WM.x_imB, WM.x_lcB0, WM.x_lcB1, WM.x_lcT, WM.x_ownR, WM.x_step, WM.x_lcR, WM.x_setC, WM.x_setC2, WM.x_setS0, WM.x_setS1, WM.x_setS2, WM.x_tc1, WM.x_tc2, WM.x_tc3, WM.x_tc4, WM.x_sa0, WM.x_sa1, WM.x_pi1, WM.x_pi2, WM.x_pi3, WM.x_pi4, WM.x_wipe0, WM.x_wipe1, WM.x_slots1, WM.x_slots2, WM.x_toDs0, WM.x_toDs1, WM.x_toD1, WM.x_toD2, WM.x_bwd, WM.x_bwb, WM.x_Mof, WM.x_ct0, WM.x_ct1, WM.x_end1, WM.x_end2, WM.x_end3, WM.x_finF, WM.x_finO, WM.x_outs0, WM.x_outs1, WM.x_outs2, WM.x_outS, WM.x_slA1, WM.x_slA2, WM.x_slA3, WM.x_omap1, WM.x_obind1, WM.x_get0, WM.x_get1, WM.x_st0, WM.x_st1, WM.x_at0, WM.x_at1, WM.x_at2, WM.x_ixN0, WM.x_ixN1, WM.x_pw1, WM.x_pw2, WM.x_pw3, WM.x_pw4, WM.x_pw5, WM.x_pw6, WM.x_pw7, WM.x_pw8, WM.x_pw9, WM.x_pw12, WM.x_pw18, WM.x_pw60, WM.x_sm0, WM.x_sm1, WM.x_sm2, WM.x_sm3, WM.x_sm4, WM.x_sm5, WM.x_sm6, WM.x_kil, WM.x_rse, WM.x_isB, WM.x_ntB, WM.x_chain, WM.x_chLE, WM.x_set2, WM.x_iAt, WM.x_iAtS, WM.x_sl, WM.x_oNo, WM.x_oSo, WM.x_soO, WM.x_slT, WM.x_slL, WM.x_slO, WM.x_zipT, WM.x_zipL, WM.x_lrng, WM.x_osl0, WM.x_osl1, WM.x_osl2, WM.x_osl3, WM.x_osl4, WM.x_osl5, WM.x_noy0, WM.x_noy1, WM.x_finI2, WM.x_finJ, WM.x_finB, WM.x_finK, WM.x_allM, WM.x_anyM, WM.x_sumM, WM.x_tupBM, WM.x_nc0, WM.x_nc1, WM.x_nc2, WM.x_nc3, WM.x_nc4, WM.x_nc5, WM.x_nc6, WM.x_nc7, WM.x_nc8, WM.x_nc9, WM.x_nc10, WM.x_nc11, WM.x_nc12, WM.e_df, WM.e_dt, WM.e_z, WM.e_ne, WM.e_nf, WM.e_nt, WM.e_of, WM.e_fo, WM.e_ot, WM.e_to, WM.e_ft, WM.e_bs, WM.e_si, WM.e_sn, WM.e_tl, WM.e_tn, WM.e_mc, WM.e_mn, WM.e_lc, WM.e_ln, WM.e_nbt, WM.e_nbf, WM.e_at, WM.e_ta, WM.e_fa, WM.e_af, WM.e_it, WM.e_if, WM.own_d, WM.x_tryk, WM.x_catN, WM.x_catR, WM.x_catE, WM.x_caught, WM.x_ct_0, WM.x_blt0, WM.x_ct_1, WM.x_blt1, WM.x_ct_2, WM.x_blt2, WM.x_ct_3, WM.x_blt3, WM.x_ct_4, WM.x_blt4, WM.x_ct_5, WM.x_blt5, WM.x_ct_6, WM.x_blt6, WM.x_ct_7, WM.x_blt7, WM.x_ct_8, WM.x_blt8, WM.x_ct_9, WM.x_blt9, WM.x_ct_10, WM.x_blt10, WM.x_col, WM.x_app2, WM.x_app2S, WM.x_v6, WM.x_v7, WM.x_v8, WM.x_mv2, WM.x_dnew, WM.x_dget, WM.x_frzE, WM.x_refA3, WM.x_refA4, WM.x_putO3, WM.x_getS3, WM.x_getS4, WM.x_osl6, WM.x_osl7, WM.x_dgetB, WM.x_dgetW, WM.x_dinB, WM.x_dinW, WM.x_frzL, WM.x_frzD, WM.x_dset, WM.x_dput, WM.x_dsetO, WM.x_kSl, WM.x_dsetP1, WM.x_dsetP2, WM.x_dputO, WM.x_dputP1, WM.x_dputP2, WM.x_rng3, WM.x_rng3O, WM.x_sset, WM.x_swp, WM.x_apop, WM.x_swpS, WM.x_apopS, WM.x_apopU, WM.x_apopT, WM.x_colt, WM.x_scat, WM.x_srep0, WM.x_srep1, WM.x_strI, WM.x_inS, WM.x_ninS, WM.x_split, WM.x_join, WM.x_srev, WM.x_itS, WM.x_lrev, WM.x_lrevO, Int.reduceBEq, Int.reduceToNat, Int.reduceLE, Int.reduceAdd, Int.reduceMul, Int.reduceSub, Int.reduceEq, Int.reduceLT, Nat.reduceAdd, Nat.reduceBEq, reduceIte, $xs,*])
namespace WMk
open PySem PySem.Spec PyProof.Rows L2 WM
def fuel : Nat := 2 ^ 20000
def b0_0 : ISs := (.cons (.par [] 0 1 (.v 1) (.bin .mod (.v 0) (.v 1)))
  .nil)
def f0 : IFn := ⟨"divisor", ["one", "other"], ["one", "other"],
  (.cons (.whl fuel [] (.bin .ne (.v 1) (.c (.int 0)))
  b0_0)
  (.cons (.ret [] (.un .abs (.v 0)))
  .nil))⟩
theorem r0 {fns : Nat → Option IFn} {gv : Nat → Option D} [h : HasF fns 0 f0] (d : Nat) (x0 x1 : Ar) : cs fns gv (d + 1) 0 [x0, x1] = endF [x0, x1] (exs (cs fns gv d) gv f0.body [slA x0, slA x1]) := by rw [x_cs h.h]; rfl
def c1_0 : IS := .iff [] (.bin .lt (.v 1) (.un .len (.v 0)))
  (.cons (.set [] true (.n 2) (.bin .mod (.ix (.v 0) (.v 1)) (.bin .pow (.c (.int 10)) (.c (.int 60)))))
  .nil)
  .nil
def c1_1 : IS := .iff [] (.bin .lt (.v 2) (.bin .pow (.c (.int 10)) (.c (.int 18))))
  (.cons (.ret [] (.lst (.cons (.c (.int 0)) (.cons (.v 3) .nil))))
  .nil)
  .nil
def f1 : IFn := ⟨"_law_bag", ["script", "k", "cell", "seed"], ["script", "k"],
  (.cons (.set [] true (.n 2) (.c (.int 0)))
  (.cons (c1_0)
  (.cons (.set [] true (.n 3) (.bin .add (.c (.int 1)) (.bin .mod (.bin .add (.bin .add (.bin .add (.bin .mul (.bin .mod (.v 2) (.c (.int 2147483629))) (.c (.int 16807))) (.bin .mul (.bin .mul (.c (.int 40009)) (.v 1)) (.v 1))) (.bin .mul (.c (.int 7919)) (.v 1))) (.c (.int 1009))) (.c (.int 2147483645)))))
  (.cons (c1_1)
  (.cons (.ret [] (.lst (.cons (.v 2) (.cons (.v 3) .nil))))
  .nil)))))⟩
theorem r1 {fns : Nat → Option IFn} {gv : Nat → Option D} [h : HasF fns 1 f1] (d : Nat) (x0 x1 : Ar) : cs fns gv (d + 1) 1 [x0, x1] = endF [x0, x1] (exs (cs fns gv d) gv f1.body [slA x0, slA x1, .no, .no]) := by rw [x_cs h.h]; rfl
def c2_0 : IS := .iff [] (.bin .gt (.ix (.v 0) (.c (.int 0))) (.c (.int 0)))
  (.cons (.set [] true (.n 2) (.bin .mod (.ix (.v 0) (.c (.int 0))) (.v 1)))
  (.cons (.set1 [] 0 (.c (.int 0)) (.bin .fdiv (.ix (.v 0) (.c (.int 0))) (.v 1)))
  (.cons (.ret [0] (.v 2))
  .nil)))
  .nil
def f2 : IFn := ⟨"_law_take", ["bag", "many", "found"], ["bag", "many"],
  (.cons (c2_0)
  (.cons (.set1 [] 0 (.c (.int 1)) (.bin .mod (.bin .mul (.ix (.v 0) (.c (.int 1))) (.c (.int 48271))) (.c (.int 2147483647))))
  (.cons (.ret [] (.bin .mod (.bin .fdiv (.bin .mod (.bin .mul (.bin .fdiv (.ix (.v 0) (.c (.int 1))) (.c (.int 13))) (.bin .add (.bin .mod (.ix (.v 0) (.c (.int 1))) (.c (.int 32749))) (.c (.int 17)))) (.c (.int 2147483629))) (.c (.int 32))) (.v 1)))
  .nil)))⟩
theorem r2 {fns : Nat → Option IFn} {gv : Nat → Option D} [h : HasF fns 2 f2] (d : Nat) (x0 x1 : Ar) : cs fns gv (d + 1) 2 [x0, x1] = endF [x0, x1] (exs (cs fns gv d) gv f2.body [slA x0, slA x1, .no]) := by rw [x_cs h.h]; rfl
def b3_0 : ISs := (.cons (.par [] 2 3 (.v 3) (.bin .mod (.v 2) (.v 3)))
  .nil)
def f3 : IFn := ⟨"_law_frac", ["top", "bottom", "one", "other", "by"], ["top", "bottom"],
  (.cons (.par [] 2 3 (.v 0) (.v 1))
  (.cons (.whl fuel [] (.bin .ne (.v 3) (.c (.int 0)))
  b3_0)
  (.cons (.set [] true (.n 4) (.bin .mul (.un .abs (.v 2)) (.bin .sub (.c (.int 1)) (.bin .mul (.c (.int 2)) (.un .int (.bin .lt (.v 1) (.c (.int 0))))))))
  (.cons (.ret [] (.tup (.cons (.bin .fdiv (.v 0) (.v 4)) (.cons (.bin .fdiv (.v 1) (.v 4)) .nil))))
  .nil))))⟩
theorem r3 {fns : Nat → Option IFn} {gv : Nat → Option D} [h : HasF fns 3 f3] (d : Nat) (x0 x1 : Ar) : cs fns gv (d + 1) 3 [x0, x1] = endF [x0, x1] (exs (cs fns gv d) gv f3.body [slA x0, slA x1, .no, .no, .no]) := by rw [x_cs h.h]; rfl
def c4_0 : IS := .iff [] (.or (.un .not (.isa .tuple (.v 0))) (.bin .ne (.un .len (.v 0)) (.c (.int 2))))
  (.cons (.ret [] (.c (.bl false)))
  .nil)
  .nil
def c4_1 : IS := .iff [] (.bin .ne (.lc (.n 1) (.e (.v 0)) true (.or (.un .not (.isa .int (.v 1))) (.isa .bool (.v 1))) (.v 1)) (.lst .nil))
  (.cons (.ret [] (.c (.bl false)))
  .nil)
  .nil
def f4 : IFn := ⟨"_law_is_fraction", ["thing", "one"], ["thing"],
  (.cons (c4_0)
  (.cons (c4_1)
  (.cons (.ret [] (.and (.bin .gt (.ix (.v 0) (.c (.int 1))) (.c (.int 0))) (.bin .eq (.v 0) (.call 3 (.val (.ix (.v 0) (.c (.int 0))) (.val (.ix (.v 0) (.c (.int 1))) .nil))))))
  .nil)))⟩
theorem r4 {fns : Nat → Option IFn} {gv : Nat → Option D} [h : HasF fns 4 f4] (d : Nat) (x0 : Ar) : cs fns gv (d + 1) 4 [x0] = endF [x0] (exs (cs fns gv d) gv f4.body [slA x0, .no]) := by rw [x_cs h.h]; rfl
def f5 : IFn := ⟨"_law_whole_number", ["bag", "some", "number"], ["bag"],
  (.cons (.set [0] true (.n 1) (.lst (.cons (.call 2 (.ref 0 (.val (.c (.int 13)) .nil))) (.cons (.call 2 (.ref 0 (.val (.bin .pow (.c (.int 10)) (.c (.int 7))) .nil))) (.cons (.call 2 (.ref 0 (.val (.bin .pow (.c (.int 10)) (.c (.int 30))) .nil))) (.cons (.bin .shl (.c (.int 1)) (.call 2 (.ref 0 (.val (.c (.int 60)) .nil)))) .nil))))))
  (.cons (.set [0] true (.n 2) (.ix (.v 1) (.call 2 (.ref 0 (.val (.c (.int 4)) .nil)))))
  (.cons (.ret [0] (.bin .mul (.v 2) (.bin .sub (.c (.int 1)) (.bin .mul (.c (.int 2)) (.call 2 (.ref 0 (.val (.c (.int 2)) .nil)))))))
  .nil)))⟩
theorem r5 {fns : Nat → Option IFn} {gv : Nat → Option D} [h : HasF fns 5 f5] (d : Nat) (x0 : Ar) : cs fns gv (d + 1) 5 [x0] = endF [x0] (exs (cs fns gv d) gv f5.body [slA x0, .no, .no]) := by rw [x_cs h.h]; rfl
def f12 : IFn := ⟨"is_whole", ["thing"], ["thing"],
  (.cons (.ret [] (.and (.isa .int (.v 0)) (.un .not (.isa .bool (.v 0)))))
  .nil)⟩
theorem r12 {fns : Nat → Option IFn} {gv : Nat → Option D} [h : HasF fns 12 f12] (d : Nat) (x0 : Ar) : cs fns gv (d + 1) 12 [x0] = endF [x0] (exs (cs fns gv d) gv f12.body [slA x0]) := by rw [x_cs h.h]; rfl
def c13_0 : IS := .iff [] (.or (.un .not (.isa .tuple (.v 0))) (.or (.bin .ne (.un .len (.v 0)) (.c (.int 2))) (.or (.un .not (.call 12 (.val (.ix (.v 0) (.c (.int 0))) .nil))) (.un .not (.call 12 (.val (.ix (.v 0) (.c (.int 1))) .nil))))))
  (.cons (.ret [] (.c (.bl false)))
  .nil)
  .nil
def f13 : IFn := ⟨"is_fraction", ["thing"], ["thing"],
  (.cons (c13_0)
  (.cons (.ret [] (.and (.bin .ge (.ix (.v 0) (.c (.int 1))) (.c (.int 1))) (.bin .eq (.call 0 (.val (.ix (.v 0) (.c (.int 0))) (.val (.ix (.v 0) (.c (.int 1))) .nil))) (.c (.int 1)))))
  .nil))⟩
theorem r13 {fns : Nat → Option IFn} {gv : Nat → Option D} [h : HasF fns 13 f13] (d : Nat) (x0 : Ar) : cs fns gv (d + 1) 13 [x0] = endF [x0] (exs (cs fns gv d) gv f13.body [slA x0]) := by rw [x_cs h.h]; rfl
def c28_0 : IS := .iff [0] (.bin .eq (.v 1) (.c (.int 0)))
  (.cons (.ret [0] (.tup (.cons (.bin .add (.c (.int 1)) (.call 2 (.ref 0 (.val (.c (.int 4)) .nil)))) (.cons (.c (.int 1)) .nil))))
  .nil)
  .nil
def c28_1 : IS := .iff [0] (.bin .eq (.v 1) (.c (.int 1)))
  (.cons (.ret [0] (.tup (.cons (.bin .add (.c (.int 1)) (.call 2 (.ref 0 (.val (.bin .pow (.c (.int 10)) (.c (.int 6))) .nil)))) (.cons (.c (.int 1)) .nil))))
  .nil)
  .nil
def c28_2 : IS := .iff [0] (.bin .eq (.v 1) (.c (.int 2)))
  (.cons (.ret [0] (.call 3 (.val (.bin .add (.c (.int 1)) (.call 2 (.ref 0 (.val (.bin .pow (.c (.int 10)) (.c (.int 6))) .nil)))) (.val (.bin .add (.c (.int 1)) (.call 2 (.ref 0 (.val (.bin .pow (.c (.int 10)) (.c (.int 6))) .nil)))) .nil))))
  .nil)
  .nil
def f28 : IFn := ⟨"_law_purse", ["bag", "way"], ["bag"],
  (.cons (.set [0] true (.n 1) (.call 2 (.ref 0 (.val (.c (.int 5)) .nil))))
  (.cons (c28_0)
  (.cons (c28_1)
  (.cons (c28_2)
  (.cons (.ret [0] (.call 3 (.val (.bin .add (.c (.int 1)) (.call 2 (.ref 0 (.val (.c (.int 60)) .nil)))) (.val (.bin .add (.c (.int 1)) (.call 2 (.ref 0 (.val (.c (.int 9)) .nil)))) .nil))))
  .nil)))))⟩
theorem r28 {fns : Nat → Option IFn} {gv : Nat → Option D} [h : HasF fns 28 f28] (d : Nat) (x0 : Ar) : cs fns gv (d + 1) 28 [x0] = endF [x0] (exs (cs fns gv d) gv f28.body [slA x0, .no]) := by rw [x_cs h.h]; rfl
def f29 : IFn := ⟨"_law_wishes", ["bag", "goods", "most", "row", "at", "k"], ["bag", "goods"],
  (.cons (.set [0, 3] true (.n 2) (.ix (.lst (.cons (.c (.int 3)) (.cons (.c (.int 101)) (.cons (.c (.int 2)) (.cons (.c (.int 10)) (.cons (.c (.int 101)) .nil)))))) (.call 2 (.ref 0 (.val (.c (.int 5)) .nil)))))
  (.cons (.set [0, 3] false (.n 3) (.lc (.n 5) (.rng1 (.v 1)) false (.c (.bl true)) (.call 2 (.ref 0 (.val (.v 2) .nil)))))
  (.cons (.set [0, 3] true (.n 4) (.call 2 (.ref 0 (.val (.v 1) .nil))))
  (.cons (.set1 [0] 3 (.v 4) (.max2 (.c (.int 1)) (.ix (.v 3) (.v 4))))
  (.cons (.ret [0] (.un .tuple (.v 3)))
  .nil)))))⟩
theorem r29 {fns : Nat → Option IFn} {gv : Nat → Option D} [h : HasF fns 29 f29] (d : Nat) (x0 x1 : Ar) : cs fns gv (d + 1) 29 [x0, x1] = endF [x0, x1] (exs (cs fns gv d) gv f29.body [slA x0, slA x1, .no, .no, .no, .no]) := by rw [x_cs h.h]; rfl
def f34 : IFn := ⟨"_law_market", ["bag", "goods", "buyers", "most", "amounts", "purses", "wishes", "k"], ["bag"],
  (.cons (.set [0] true (.n 1) (.bin .add (.c (.int 1)) (.call 2 (.ref 0 (.val (.ix (.lst (.cons (.c (.int 3)) (.cons (.c (.int 6)) .nil))) (.call 2 (.ref 0 (.val (.c (.int 2)) .nil)))) .nil)))))
  (.cons (.set [0] true (.n 2) (.bin .add (.c (.int 1)) (.call 2 (.ref 0 (.val (.ix (.lst (.cons (.c (.int 3)) (.cons (.c (.int 6)) .nil))) (.call 2 (.ref 0 (.val (.c (.int 2)) .nil)))) .nil)))))
  (.cons (.set [0] true (.n 3) (.ix (.lst (.cons (.c (.int 1)) (.cons (.c (.int 9)) (.cons (.c (.int 60)) .nil)))) (.call 2 (.ref 0 (.val (.c (.int 3)) .nil)))))
  (.cons (.set [0] true (.n 4) (.un .tuple (.lc (.n 7) (.rng1 (.v 1)) false (.c (.bl true)) (.bin .add (.c (.int 1)) (.call 2 (.ref 0 (.val (.v 3) .nil)))))))
  (.cons (.set [0] true (.n 5) (.un .tuple (.lc (.n 7) (.rng1 (.v 2)) false (.c (.bl true)) (.call 28 (.ref 0 .nil)))))
  (.cons (.set [0] true (.n 6) (.un .tuple (.lc (.n 7) (.rng1 (.v 2)) false (.c (.bl true)) (.call 29 (.ref 0 (.val (.v 1) .nil))))))
  (.cons (.ret [0] (.tup (.cons (.v 4) (.cons (.v 5) (.cons (.v 6) .nil)))))
  .nil)))))))⟩
theorem r34 {fns : Nat → Option IFn} {gv : Nat → Option D} [h : HasF fns 34 f34] (d : Nat) (x0 : Ar) : cs fns gv (d + 1) 34 [x0] = endF [x0] (exs (cs fns gv d) gv f34.body [slA x0, .no, .no, .no, .no, .no, .no, .no]) := by rw [x_cs h.h]; rfl
def f163 : IFn := ⟨"is_within", ["thing", "least", "most"], ["thing", "least", "most"],
  (.cons (.ret [] (.and (.call 12 (.val (.v 0) .nil)) (.chain .le .le (.v 1) (.v 0) (.v 2))))
  .nil)⟩
theorem r163 {fns : Nat → Option IFn} {gv : Nat → Option D} [h : HasF fns 163 f163] (d : Nat) (x0 x1 x2 : Ar) : cs fns gv (d + 1) 163 [x0, x1, x2] = endF [x0, x1, x2] (exs (cs fns gv d) gv f163.body [slA x0, slA x1, slA x2]) := by rw [x_cs h.h]; rfl
def c164_0 : IS := .iff [] (.or (.un .not (.isa .tuple (.v 0))) (.bin .ne (.un .len (.v 0)) (.v 1)))
  (.cons (.ret [] (.c (.bl false)))
  .nil)
  .nil
def f164 : IFn := ⟨"is_row", ["thing", "many", "least", "most", "one"], ["thing", "many", "least", "most"],
  (.cons (c164_0)
  (.cons (.ret [] (.un .all (.lc (.n 4) (.e (.v 0)) false (.c (.bl true)) (.call 163 (.val (.v 4) (.val (.v 2) (.val (.v 3) .nil)))))))
  .nil))⟩
theorem r164 {fns : Nat → Option IFn} {gv : Nat → Option D} [h : HasF fns 164 f164] (d : Nat) (x0 x1 x2 x3 : Ar) : cs fns gv (d + 1) 164 [x0, x1, x2, x3] = endF [x0, x1, x2, x3] (exs (cs fns gv d) gv f164.body [slA x0, slA x1, slA x2, slA x3, .no]) := by rw [x_cs h.h]; rfl
def f165 : IFn := ⟨"is_count", ["thing"], ["thing"],
  (.cons (.ret [] (.and (.isa .tuple (.v 0)) (.chain .le .le (.c (.int 1)) (.un .len (.v 0)) (.g 2))))
  .nil)⟩
theorem r165 {fns : Nat → Option IFn} {gv : Nat → Option D} [h : HasF fns 165 f165] (d : Nat) (x0 : Ar) : cs fns gv (d + 1) 165 [x0] = endF [x0] (exs (cs fns gv d) gv f165.body [slA x0]) := by rw [x_cs h.h]; rfl
def f166 : IFn := ⟨"is_purse", ["thing"], ["thing"],
  (.cons (.ret [] (.and (.call 13 (.val (.v 0) .nil)) (.and (.chain .le .le (.c (.int 1)) (.ix (.v 0) (.c (.int 0))) (.g 5)) (.bin .le (.ix (.v 0) (.c (.int 1))) (.g 5)))))
  .nil)⟩
theorem r166 {fns : Nat → Option IFn} {gv : Nat → Option D} [h : HasF fns 166 f166] (d : Nat) (x0 : Ar) : cs fns gv (d + 1) 166 [x0] = endF [x0] (exs (cs fns gv d) gv f166.body [slA x0]) := by rw [x_cs h.h]; rfl
def c167_0 : IS := .iff [] (.or (.un .not (.isa .tuple (.v 0))) (.bin .ne (.un .len (.v 0)) (.v 1)))
  (.cons (.ret [] (.c (.bl false)))
  .nil)
  .nil
def f167 : IFn := ⟨"are_wishes", ["thing", "many", "goods", "row"], ["thing", "many", "goods"],
  (.cons (c167_0)
  (.cons (.ret [] (.un .all (.lc (.n 3) (.e (.v 0)) false (.c (.bl true)) (.call 164 (.val (.v 3) (.val (.v 2) (.val (.c (.int 0)) (.val (.g 4) .nil))))))))
  .nil))⟩
theorem r167 {fns : Nat → Option IFn} {gv : Nat → Option D} [h : HasF fns 167 f167] (d : Nat) (x0 x1 x2 : Ar) : cs fns gv (d + 1) 167 [x0, x1, x2] = endF [x0, x1, x2] (exs (cs fns gv d) gv f167.body [slA x0, slA x1, slA x2, .no]) := by rw [x_cs h.h]; rfl
def c168_0 : IS := .iff [] (.or (.un .not (.isa .tuple (.v 0))) (.or (.bin .ne (.un .len (.v 0)) (.c (.int 3))) (.or (.un .not (.call 165 (.val (.ix (.v 0) (.c (.int 0))) .nil))) (.un .not (.call 165 (.val (.ix (.v 0) (.c (.int 1))) .nil))))))
  (.cons (.ret [] (.c (.bl false)))
  .nil)
  .nil
def c168_1 : IS := .iff [] (.or (.un .not (.call 164 (.val (.ix (.v 0) (.c (.int 0))) (.val (.un .len (.ix (.v 0) (.c (.int 0)))) (.val (.c (.int 1)) (.val (.g 3) .nil)))))) (.un .not (.un .all (.lc (.n 1) (.e (.ix (.v 0) (.c (.int 1)))) false (.c (.bl true)) (.call 166 (.val (.v 1) .nil))))))
  (.cons (.ret [] (.c (.bl false)))
  .nil)
  .nil
def f168 : IFn := ⟨"is_market", ["thing", "purse"], ["thing"],
  (.cons (c168_0)
  (.cons (c168_1)
  (.cons (.ret [] (.call 167 (.val (.ix (.v 0) (.c (.int 2))) (.val (.un .len (.ix (.v 0) (.c (.int 1)))) (.val (.un .len (.ix (.v 0) (.c (.int 0)))) .nil)))))
  .nil)))⟩
theorem r168 {fns : Nat → Option IFn} {gv : Nat → Option D} [h : HasF fns 168 f168] (d : Nat) (x0 : Ar) : cs fns gv (d + 1) 168 [x0] = endF [x0] (exs (cs fns gv d) gv f168.body [slA x0, .no]) := by rw [x_cs h.h]; rfl
def c416_0 : IS := .iff [] (.bin .eq (.ix (.v 0) (.c (.int 1))) (.c (.int 1)))
  (.cons (.ret [] (.un .str (.ix (.v 0) (.c (.int 0)))))
  .nil)
  .nil
def f416 : IFn := ⟨"fraction_text", ["fraction"], ["fraction"],
  (.cons (c416_0)
  (.cons (.ret [] (.bin .scat (.bin .scat (.un .str (.ix (.v 0) (.c (.int 0)))) (.c (.str "/"))) (.un .str (.ix (.v 0) (.c (.int 1))))))
  .nil))⟩
theorem r416 {fns : Nat → Option IFn} {gv : Nat → Option D} [h : HasF fns 416 f416] (d : Nat) (x0 : Ar) : cs fns gv (d + 1) 416 [x0] = endF [x0] (exs (cs fns gv d) gv f416.body [slA x0]) := by rw [x_cs h.h]; rfl
def f419 : IFn := ⟨"_law_fraction_text", ["one"], ["one"],
  (.cons (.ret [] (.bin .scat (.un .str (.ix (.v 0) (.c (.int 0)))) (.bin .srep (.bin .scat (.c (.str "/")) (.un .str (.ix (.v 0) (.c (.int 1))))) (.un .int (.bin .ne (.ix (.v 0) (.c (.int 1))) (.c (.int 1)))))))
  .nil)⟩
theorem r419 {fns : Nat → Option IFn} {gv : Nat → Option D} [h : HasF fns 419 f419] (d : Nat) (x0 : Ar) : cs fns gv (d + 1) 419 [x0] = endF [x0] (exs (cs fns gv d) gv f419.body [slA x0]) := by rw [x_cs h.h]; rfl
def b421_0 : ISs := (.cons (.app [4] 4 (.join (.c (.str " ")) (.bin .cat (.lst (.cons (.c (.str "buyer")) (.cons (.call 416 (.val (.v 5) .nil)) .nil))) (.lc (.n 8) (.e (.v 6)) false (.c (.bl true)) (.un .str (.v 8))))))
  (.kil [5, 6]
  .nil))
def f421 : IFn := ⟨"market_text", ["market", "amounts", "purses", "wishes", "lines", "purse", "row", "pieces", "wish"], ["market"],
  (.cons (.set [4] true (.t [1, 2, 3]) (.v 0))
  (.cons (.set [4] false (.n 4) (.lst (.cons (.join (.c (.str " ")) (.bin .cat (.lst (.cons (.c (.str "amounts")) .nil)) (.lc (.n 7) (.e (.v 1)) false (.c (.bl true)) (.un .str (.v 7))))) .nil)))
  (.cons (.forr [4] (.t [5, 6]) (.zip (.v 2) (.v 3))
  b421_0)
  (.cons (.ret [] (.join (.c (.str "\n")) (.v 4)))
  .nil))))⟩
theorem r421 {fns : Nat → Option IFn} {gv : Nat → Option D} [h : HasF fns 421 f421] (d : Nat) (x0 : Ar) : cs fns gv (d + 1) 421 [x0] = endF [x0] (exs (cs fns gv d) gv f421.body [slA x0, .no, .no, .no, .no, .no, .no, .no, .no]) := by rw [x_cs h.h]; rfl
def c424_0 : IS := .iff [] (.or (.bin .eq (.v 0) (.c (.str ""))) (.or (.bin .gt (.un .len (.v 0)) (.v 1)) (.and (.bin .eq (.ix (.v 0) (.c (.int 0))) (.c (.str "0"))) (.bin .ne (.v 0) (.c (.str "0"))))))
  (.cons (.ret [] (.c .non))
  .nil)
  .nil
def c424_1 : IS := .iff [] (.bin .notIn (.v 2) (.g 7))
  (.cons (.ret [] (.c .non))
  .nil)
  .nil
def b424_0 : ISs := (.cons (c424_1)
  (.kil [2]
  .nil))
def f424 : IFn := ⟨"number_of", ["text", "most", "sign"], ["text", "most"],
  (.cons (c424_0)
  (.cons (.forr [] (.n 2) (.s (.v 0))
  b424_0)
  (.cons (.ret [] (.un .int (.v 0)))
  .nil)))⟩
theorem r424 {fns : Nat → Option IFn} {gv : Nat → Option D} [h : HasF fns 424 f424] (d : Nat) (x0 x1 : Ar) : cs fns gv (d + 1) 424 [x0, x1] = endF [x0, x1] (exs (cs fns gv d) gv f424.body [slA x0, slA x1, .no]) := by rw [x_cs h.h]; rfl
def c425_0 : IS := .iff [] (.bin .gt (.un .len (.v 2)) (.c (.int 2)))
  (.cons (.ret [] (.c .non))
  .nil)
  .nil
def c425_1 : IS := .iff [] (.bin .isIn (.c .non) (.v 3))
  (.cons (.ret [] (.c .non))
  .nil)
  .nil
def c425_2 : IS := .iff [] (.bin .eq (.un .len (.v 3)) (.c (.int 1)))
  (.cons (.ret [] (.tup (.cons (.ix (.v 3) (.c (.int 0))) (.cons (.c (.int 1)) .nil))))
  .nil)
  .nil
def c425_3 : IS := .iff [] (.or (.bin .lt (.ix (.v 3) (.c (.int 1))) (.c (.int 2))) (.bin .ne (.call 0 (.val (.ix (.v 3) (.c (.int 0))) (.val (.ix (.v 3) (.c (.int 1))) .nil))) (.c (.int 1))))
  (.cons (.ret [] (.c .non))
  .nil)
  .nil
def f425 : IFn := ⟨"fraction_of", ["text", "most", "parts", "numbers", "part"], ["text", "most"],
  (.cons (.set [] true (.n 2) (.split (.v 0) (.c (.str "/"))))
  (.cons (c425_0)
  (.cons (.set [] true (.n 3) (.lc (.n 4) (.e (.v 2)) false (.c (.bl true)) (.call 424 (.val (.v 4) (.val (.v 1) .nil)))))
  (.cons (c425_1)
  (.cons (c425_2)
  (.cons (c425_3)
  (.cons (.ret [] (.tup (.cons (.ix (.v 3) (.c (.int 0))) (.cons (.ix (.v 3) (.c (.int 1))) .nil))))
  .nil)))))))⟩
theorem r425 {fns : Nat → Option IFn} {gv : Nat → Option D} [h : HasF fns 425 f425] (d : Nat) (x0 x1 : Ar) : cs fns gv (d + 1) 425 [x0, x1] = endF [x0, x1] (exs (cs fns gv d) gv f425.body [slA x0, slA x1, .no, .no, .no]) := by rw [x_cs h.h]; rfl
def c427_0 : IS := .iff [0] (.bin .eq (.v 4) (.c (.int 0)))
  (.cons (.ret [0] (.bin .scat (.sl (.v 1) .no (.so (.v 3))) (.sl (.v 1) (.so (.bin .add (.v 3) (.c (.int 1)))) .no)))
  .nil)
  .nil
def c427_1 : IS := .iff [0] (.bin .eq (.v 4) (.c (.int 1)))
  (.cons (.ret [0] (.bin .scat (.sl (.v 1) .no (.so (.bin .add (.v 3) (.c (.int 1))))) (.sl (.v 1) (.so (.v 3)) .no)))
  .nil)
  .nil
def c427_2 : IS := .iff [0] (.bin .eq (.v 4) (.c (.int 2)))
  (.cons (.ret [0] (.bin .scat (.bin .scat (.sl (.v 1) .no (.so (.v 3))) (.v 2)) (.sl (.v 1) (.so (.v 3)) .no)))
  .nil)
  .nil
def c427_3 : IS := .iff [0] (.bin .eq (.v 4) (.c (.int 3)))
  (.cons (.ret [0] (.bin .scat (.bin .scat (.sl (.v 1) .no (.so (.v 3))) (.srev (.sl (.v 1) (.so (.v 3)) (.so (.bin .add (.v 3) (.c (.int 2))))))) (.sl (.v 1) (.so (.bin .add (.v 3) (.c (.int 2)))) .no)))
  .nil)
  .nil
def f427 : IFn := ⟨"_law_moved_about", ["bag", "some", "new", "at", "way"], ["bag", "some", "new"],
  (.frz 2
  (.cons (.set [0] true (.n 3) (.call 2 (.ref 0 (.val (.bin .add (.un .len (.v 1)) (.c (.int 1))) .nil))))
  (.cons (.set [0] true (.n 4) (.call 2 (.ref 0 (.val (.c (.int 5)) .nil))))
  (.cons (c427_0)
  (.cons (c427_1)
  (.cons (c427_2)
  (.cons (c427_3)
  (.cons (.ret [0] (.bin .scat (.bin .scat (.sl (.v 1) .no (.so (.v 3))) (.v 2)) (.sl (.v 1) (.so (.bin .add (.v 3) (.c (.int 1)))) .no)))
  .nil))))))))⟩
theorem r427 {fns : Nat → Option IFn} {gv : Nat → Option D} [h : HasF fns 427 f427] (d : Nat) (x0 x1 x2 : Ar) : cs fns gv (d + 1) 427 [x0, x1, x2] = endF [x0, x1, x2] (exs (cs fns gv d) gv f427.body [slA x0, slA x1, slA x2, .no, .no]) := by rw [x_cs h.h]; rfl
def c433_0 : IS := .iff [] (.un .not (.isa .str (.v 0)))
  (.cons (.rse 9)
  .nil)
  .nil
def c433_1 : IS := .iff [] (.or (.bin .ne (.ix (.ix (.v 1) (.c (.int 0))) (.c (.int 0))) (.c (.str "amounts"))) (.un .not (.un .all (.lc (.n 6) (.e (.sl (.v 1) (.so (.c (.int 1))) .no)) false (.c (.bl true)) (.and (.bin .gt (.un .len (.v 6)) (.c (.int 1))) (.bin .eq (.ix (.v 6) (.c (.int 0))) (.c (.str "buyer"))))))))
  (.cons (.rse 9)
  .nil)
  .nil
def c433_2 : IS := .iff [] (.un .not (.call 168 (.val (.v 5) .nil)))
  (.cons (.rse 9)
  .nil)
  .nil
def f433 : IFn := ⟨"read_market", ["text", "lines", "amounts", "purses", "wishes", "market", "line", "word"], ["text"],
  (.cons (c433_0)
  (.cons (.set [] true (.n 1) (.lc (.n 6) (.e (.split (.v 0) (.c (.str "\n")))) false (.c (.bl true)) (.split (.v 6) (.c (.str " ")))))
  (.cons (c433_1)
  (.cons (.set [] true (.n 2) (.un .tuple (.lc (.n 7) (.e (.sl (.ix (.v 1) (.c (.int 0))) (.so (.c (.int 1))) .no)) false (.c (.bl true)) (.call 424 (.val (.v 7) (.val (.g 8) .nil))))))
  (.cons (.set [] true (.n 3) (.un .tuple (.lc (.n 6) (.e (.sl (.v 1) (.so (.c (.int 1))) .no)) false (.c (.bl true)) (.call 425 (.val (.ix (.v 6) (.c (.int 1))) (.val (.g 8) .nil))))))
  (.cons (.set [] true (.n 4) (.un .tuple (.lc (.n 6) (.e (.sl (.v 1) (.so (.c (.int 1))) .no)) false (.c (.bl true)) (.un .tuple (.lc (.n 7) (.e (.sl (.v 6) (.so (.c (.int 2))) .no)) false (.c (.bl true)) (.call 424 (.val (.v 7) (.val (.g 8) .nil))))))))
  (.cons (.set [] true (.n 5) (.tup (.cons (.v 2) (.cons (.v 3) (.cons (.v 4) .nil)))))
  (.cons (c433_2)
  (.cons (.ret [] (.v 5))
  .nil)))))))))⟩
theorem r433 {fns : Nat → Option IFn} {gv : Nat → Option D} [h : HasF fns 433 f433] (d : Nat) (x0 : Ar) : cs fns gv (d + 1) 433 [x0] = endF [x0] (exs (cs fns gv d) gv f433.body [slA x0, .no, .no, .no, .no, .no, .no, .no]) := by rw [x_cs h.h]; rfl
def b434_0 : ISs := (.cons (.set [1] true (.n 3) (.bin .cat (.lst (.cons (.c (.str "buyer")) (.cons (.call 419 (.val (.ix (.ix (.v 0) (.c (.int 1))) (.v 2)) .nil)) .nil))) (.lc (.n 5) (.e (.ix (.ix (.v 0) (.c (.int 2))) (.v 2))) false (.c (.bl true)) (.un .str (.v 5)))))
  (.cons (.app [1] 1 (.join (.c (.str " ")) (.v 3)))
  (.kil [2, 3]
  .nil)))
def f434 : IFn := ⟨"_law_text", ["market", "lines", "buyer", "words", "pieces", "wish"], ["market"],
  (.cons (.set [1] false (.n 1) (.lst (.cons (.join (.c (.str " ")) (.bin .cat (.lst (.cons (.c (.str "amounts")) .nil)) (.lc (.n 4) (.e (.ix (.v 0) (.c (.int 0)))) false (.c (.bl true)) (.un .str (.v 4))))) .nil)))
  (.cons (.forr [1] (.n 2) (.rng1 (.un .len (.ix (.v 0) (.c (.int 1)))))
  b434_0)
  (.cons (.ret [] (.join (.c (.str "\n")) (.v 1)))
  .nil)))⟩
theorem r434 {fns : Nat → Option IFn} {gv : Nat → Option D} [h : HasF fns 434 f434] (d : Nat) (x0 : Ar) : cs fns gv (d + 1) 434 [x0] = endF [x0] (exs (cs fns gv d) gv f434.body [slA x0, .no, .no, .no, .no, .no]) := by rw [x_cs h.h]; rfl
def f437 : IFn := ⟨"_law_read", ["text", "kind", "told", "e"], ["text"],
  (.cons (.set [] true (.n 1) (.c (.str "")))
  (.cons (.set [] true (.n 2) (.c .non))
  (.cons (.tryk 3 1
  (.cons (.set [] true (.n 2) (.call 433 (.val (.v 0) .nil)))
  .nil))
  (.cons (.ret [] (.lst (.cons (.v 1) (.cons (.v 2) .nil))))
  .nil))))⟩
theorem r437 {fns : Nat → Option IFn} {gv : Nat → Option D} [h : HasF fns 437 f437] (d : Nat) (x0 : Ar) : cs fns gv (d + 1) 437 [x0] = endF [x0] (exs (cs fns gv d) gv f437.body [slA x0, .no, .no, .no]) := by rw [x_cs h.h]; rfl
def c441_0 : IS := .iff [0] (.bin .eq (.v 4) (.c (.int 0)))
  (.cons (.ret [0] (.bin .cat (.sl (.v 1) .no (.so (.v 3))) (.sl (.v 1) (.so (.bin .add (.v 3) (.c (.int 1)))) .no)))
  .nil)
  .nil
def c441_1 : IS := .iff [0] (.bin .eq (.v 4) (.c (.int 1)))
  (.cons (.ret [0] (.bin .cat (.sl (.v 1) .no (.so (.bin .add (.v 3) (.c (.int 1))))) (.sl (.v 1) (.so (.v 3)) .no)))
  .nil)
  .nil
def c441_2 : IS := .iff [0] (.bin .eq (.v 4) (.c (.int 2)))
  (.cons (.ret [0] (.bin .cat (.bin .cat (.sl (.v 1) .no (.so (.v 3))) (.v 2)) (.sl (.v 1) (.so (.v 3)) .no)))
  .nil)
  .nil
def c441_3 : IS := .iff [0] (.bin .eq (.v 4) (.c (.int 3)))
  (.cons (.ret [0] (.bin .cat (.bin .cat (.sl (.v 1) .no (.so (.v 3))) (.lrev (.sl (.v 1) (.so (.v 3)) (.so (.bin .add (.v 3) (.c (.int 2))))))) (.sl (.v 1) (.so (.bin .add (.v 3) (.c (.int 2)))) .no)))
  .nil)
  .nil
def f441 : IFn := ⟨"_law_moved_about", ["bag", "some", "new", "at", "way"], ["bag", "some", "new"],
  (.frz 2
  (.cons (.set [0] true (.n 3) (.call 2 (.ref 0 (.val (.bin .add (.un .len (.v 1)) (.c (.int 1))) .nil))))
  (.cons (.set [0] true (.n 4) (.call 2 (.ref 0 (.val (.c (.int 5)) .nil))))
  (.cons (c441_0)
  (.cons (c441_1)
  (.cons (c441_2)
  (.cons (c441_3)
  (.cons (.ret [0] (.bin .cat (.bin .cat (.sl (.v 1) .no (.so (.v 3))) (.v 2)) (.sl (.v 1) (.so (.bin .add (.v 3) (.c (.int 1)))) .no)))
  .nil))))))))⟩
theorem r441 {fns : Nat → Option IFn} {gv : Nat → Option D} [h : HasF fns 441 f441] (d : Nat) (x0 x1 x2 : Ar) : cs fns gv (d + 1) 441 [x0, x1, x2] = endF [x0, x1, x2] (exs (cs fns gv d) gv f441.body [slA x0, slA x1, slA x2, .no, .no]) := by rw [x_cs h.h]; rfl
def c442_0 : IS := .iff [0] (.bin .eq (.v 3) (.c (.int 0)))
  (.cons (.ret [0] (.call 427 (.ref 0 (.val (.v 1) (.val (.ix (.lst (.cons (.ix (.v 2) (.call 2 (.ref 0 (.val (.un .len (.v 2)) .nil)))) (.cons (.c (.str " ")) (.cons (.c (.str "\n")) (.cons (.c (.str "0")) .nil))))) (.call 2 (.ref 0 (.val (.c (.int 4)) .nil)))) .nil)))))
  .nil)
  .nil
def c442_1 : IS := .iff [0] (.bin .eq (.v 3) (.c (.int 1)))
  (.cons (.set [0] true (.n 4) (.split (.v 1) (.c (.str " "))))
  (.cons (.set [0] true (.n 5) (.lst (.cons (.c (.str "")) (.cons (.c (.str "0")) (.cons (.c (.str "1")) (.cons (.c (.str "61")) (.cons (.c (.str "101")) (.cons (.c (.str "1/2")) (.cons (.c (.str "2/4")) (.cons (.c (.str "amounts")) (.cons (.c (.str "buyer")) (.cons (.c (.str "1000001")) (.cons (.c (.str "1/1000001")) (.cons (.c (.str "\nbuyer")) .nil))))))))))))))
  (.cons (.ret [0] (.join (.c (.str " ")) (.call 441 (.ref 0 (.val (.v 4) (.val (.lst (.cons (.ix (.v 5) (.call 2 (.ref 0 (.val (.c (.int 12)) .nil)))) .nil)) .nil))))))
  .nil)))
  .nil
def f442 : IFn := ⟨"_law_spoilt", ["bag", "text", "signs", "way", "words", "some", "lines"], ["bag", "text"],
  (.cons (.set [0] true (.n 2) (.c (.str " !\"#$&'()*+,-./0123456789:;<=>?@ABCDEFGHIJKLMNOPQRSTUVWXYZ[\\]^_`")))
  (.cons (.set [0] true (.n 2) (.bin .scat (.v 2) (.c (.str "abcdefghijklmnopqrstuvwxyz{|}~\n"))))
  (.cons (.set [0] true (.n 3) (.call 2 (.ref 0 (.val (.c (.int 3)) .nil))))
  (.cons (c442_0)
  (.cons (c442_1)
  (.cons (.set [0] true (.n 6) (.split (.v 1) (.c (.str "\n"))))
  (.cons (.ret [0] (.join (.c (.str "\n")) (.call 441 (.ref 0 (.val (.v 6) (.val (.lst (.cons (.ix (.lst (.cons (.c (.str "")) (.cons (.c (.str "buyer 1")) (.cons (.c (.str "amounts 1")) (.cons (.ix (.v 6) (.un .neg (.c (.int 1)))) .nil))))) (.call 2 (.ref 0 (.val (.c (.int 4)) .nil)))) .nil)) .nil))))))
  .nil)))))))⟩
theorem r442 {fns : Nat → Option IFn} {gv : Nat → Option D} [h : HasF fns 442 f442] (d : Nat) (x0 x1 : Ar) : cs fns gv (d + 1) 442 [x0, x1] = endF [x0, x1] (exs (cs fns gv d) gv f442.body [slA x0, slA x1, .no, .no, .no, .no, .no]) := by rw [x_cs h.h]; rfl
def c445_0 : IS := .iff [] (.or (.bin .eq (.v 0) (.c (.str ""))) (.or (.bin .gt (.un .len (.v 0)) (.c (.int 9))) (.bin .ne (.lc (.n 1) (.s (.v 0)) true (.bin .notIn (.v 1) (.c (.str "0123456789"))) (.v 1)) (.lst .nil))))
  (.cons (.ret [] (.c .non))
  .nil)
  .nil
def c445_1 : IS := .iff [] (.and (.bin .eq (.ix (.v 0) (.c (.int 0))) (.c (.str "0"))) (.bin .ne (.v 0) (.c (.str "0"))))
  (.cons (.ret [] (.c .non))
  .nil)
  .nil
def f445 : IFn := ⟨"_law_number", ["word", "sign"], ["word"],
  (.cons (c445_0)
  (.cons (c445_1)
  (.cons (.ret [] (.un .int (.v 0)))
  .nil)))⟩
theorem r445 {fns : Nat → Option IFn} {gv : Nat → Option D} [h : HasF fns 445 f445] (d : Nat) (x0 : Ar) : cs fns gv (d + 1) 445 [x0] = endF [x0] (exs (cs fns gv d) gv f445.body [slA x0, .no]) := by rw [x_cs h.h]; rfl
def c446_0 : IS := .iff [] (.or (.bin .gt (.un .len (.v 1)) (.c (.int 2))) (.bin .isIn (.c .non) (.v 1)))
  (.cons (.ret [] (.c .non))
  .nil)
  .nil
def c446_1 : IS := .iff [] (.bin .eq (.un .len (.v 1)) (.c (.int 1)))
  (.cons (.ret [] (.tup (.cons (.ix (.v 1) (.c (.int 0))) (.cons (.c (.int 1)) .nil))))
  .nil)
  .nil
def c446_2 : IS := .iff [] (.or (.bin .lt (.ix (.v 1) (.c (.int 1))) (.c (.int 2))) (.bin .ne (.call 3 (.val (.ix (.v 1) (.c (.int 0))) (.val (.ix (.v 1) (.c (.int 1))) .nil))) (.tup (.cons (.ix (.v 1) (.c (.int 0))) (.cons (.ix (.v 1) (.c (.int 1))) .nil)))))
  (.cons (.ret [] (.c .non))
  .nil)
  .nil
def f446 : IFn := ⟨"_law_fraction_of", ["word", "parts", "part"], ["word"],
  (.cons (.set [] true (.n 1) (.lc (.n 2) (.e (.split (.v 0) (.c (.str "/")))) false (.c (.bl true)) (.call 445 (.val (.v 2) .nil))))
  (.cons (c446_0)
  (.cons (c446_1)
  (.cons (c446_2)
  (.cons (.ret [] (.tup (.cons (.ix (.v 1) (.c (.int 0))) (.cons (.ix (.v 1) (.c (.int 1))) .nil))))
  .nil)))))⟩
theorem r446 {fns : Nat → Option IFn} {gv : Nat → Option D} [h : HasF fns 446 f446] (d : Nat) (x0 : Ar) : cs fns gv (d + 1) 446 [x0] = endF [x0] (exs (cs fns gv d) gv f446.body [slA x0, .no, .no]) := by rw [x_cs h.h]; rfl
def c447_0 : IS := .iff [] (.or (.bin .ne (.ix (.ix (.v 1) (.c (.int 0))) (.c (.int 0))) (.c (.str "amounts"))) (.bin .ne (.lc (.n 6) (.e (.sl (.v 1) (.so (.c (.int 1))) .no)) true (.or (.bin .ne (.ix (.v 6) (.c (.int 0))) (.c (.str "buyer"))) (.bin .lt (.un .len (.v 6)) (.c (.int 2)))) (.v 6)) (.lst .nil)))
  (.cons (.ret [] (.c .non))
  .nil)
  .nil
def c447_1 : IS := .iff [] (.or (.bin .isIn (.c .non) (.v 3)) (.un .not (.call 168 (.val (.v 5) .nil))))
  (.cons (.ret [] (.c .non))
  .nil)
  .nil
def f447 : IFn := ⟨"_law_due", ["text", "lines", "amounts", "purses", "wishes", "market", "line", "word"], ["text"],
  (.cons (.set [] true (.n 1) (.lc (.n 6) (.e (.split (.v 0) (.c (.str "\n")))) false (.c (.bl true)) (.split (.v 6) (.c (.str " ")))))
  (.cons (c447_0)
  (.cons (.set [] true (.n 2) (.un .tuple (.lc (.n 7) (.e (.sl (.ix (.v 1) (.c (.int 0))) (.so (.c (.int 1))) .no)) false (.c (.bl true)) (.call 445 (.val (.v 7) .nil)))))
  (.cons (.set [] true (.n 3) (.un .tuple (.lc (.n 6) (.e (.sl (.v 1) (.so (.c (.int 1))) .no)) false (.c (.bl true)) (.call 446 (.val (.ix (.v 6) (.c (.int 1))) .nil)))))
  (.cons (.set [] true (.n 4) (.un .tuple (.lc (.n 6) (.e (.sl (.v 1) (.so (.c (.int 1))) .no)) false (.c (.bl true)) (.un .tuple (.lc (.n 7) (.e (.sl (.v 6) (.so (.c (.int 2))) .no)) false (.c (.bl true)) (.call 445 (.val (.v 7) .nil)))))))
  (.cons (.set [] true (.n 5) (.tup (.cons (.v 2) (.cons (.v 3) (.cons (.v 4) .nil)))))
  (.cons (c447_1)
  (.cons (.ret [] (.v 5))
  .nil))))))))⟩
theorem r447 {fns : Nat → Option IFn} {gv : Nat → Option D} [h : HasF fns 447 f447] (d : Nat) (x0 : Ar) : cs fns gv (d + 1) 447 [x0] = endF [x0] (exs (cs fns gv d) gv f447.body [slA x0, .no, .no, .no, .no, .no, .no, .no]) := by rw [x_cs h.h]; rfl
def c448_0 : IS := .iff [2] (.or (.bin .ne (.call 421 (.val (.v 3) .nil)) (.v 4)) (.bin .ne (.call 437 (.val (.v 4) .nil)) (.lst (.cons (.c (.str "")) (.cons (.v 3) .nil)))))
  (.cons (.ret [2] (.c (.bl false)))
  .nil)
  .nil
def c448_1 : IS := .iff [2] (.bin .ne (.call 437 (.val (.v 4) .nil)) (.ix (.lst (.cons (.lst (.cons (.c (.str "")) (.cons (.v 6) .nil))) (.cons (.lst (.cons (.c (.str "NoText+")) (.cons (.c .non) .nil))) .nil))) (.un .int (.un .isN (.v 6)))))
  (.cons (.ret [2] (.c (.bl false)))
  .nil)
  .nil
def b448_0 : ISs := (.cons (.set [2] true (.n 4) (.call 442 (.ref 2 (.val (.v 4) .nil))))
  (.cons (.set [2] true (.n 6) (.call 447 (.val (.v 4) .nil)))
  (.cons (c448_1)
  (.kil [5, 6]
  .nil))))
def c448_2 : IS := .iff [2] (.bin .ne (.call 437 (.val (.v 7) .nil)) (.lst (.cons (.c (.str "NoText+")) (.cons (.c .non) .nil))))
  (.cons (.ret [2] (.c (.bl false)))
  .nil)
  .nil
def b448_1 : ISs := (.cons (c448_2)
  (.kil [7]
  .nil))
def b448_2 : ISs := (.cons (.set [2] false (.n 2) (.call 1 (.val (.v 0) (.val (.v 1) .nil))))
  (.cons (.set [2] true (.n 3) (.call 34 (.ref 2 .nil)))
  (.cons (.set [2] true (.n 4) (.call 434 (.val (.v 3) .nil)))
  (.cons (c448_0)
  (.cons (.forr [2] (.n 5) (.rng1 (.c (.int 2)))
  b448_0)
  (.cons (.forr [2] (.n 7) (.e (.lst (.cons (.c .non) (.cons (.c (.int 5)) (.cons (.v 3) (.cons (.c (.str "")) (.cons (.lst (.cons (.v 4) .nil)) .nil)))))))
  b448_1)
  (.kil [1, 2, 3, 4]
  .nil)))))))
def f448 : IFn := ⟨"law", ["script", "k", "bag", "market", "text", "turn", "due", "thing"], ["script"],
  (.cons (.forr [2] (.n 1) (.rng1 (.bin .add (.min2 (.un .len (.v 0)) (.c (.int 30))) (.c (.int 2))))
  b448_2)
  (.cons (.ret [2] (.c (.bl true)))
  .nil))⟩
theorem r448 {fns : Nat → Option IFn} {gv : Nat → Option D} [h : HasF fns 448 f448] (d : Nat) (x0 : Ar) : cs fns gv (d + 1) 448 [x0] = endF [x0] (exs (cs fns gv d) gv f448.body [slA x0, .no, .no, .no, .no, .no, .no, .no]) := by rw [x_cs h.h]; rfl
def fns : Nat → Option IFn
  | 12 => some f12
  | 0 => some f0
  | 13 => some f13
  | 163 => some f163
  | 164 => some f164
  | 165 => some f165
  | 166 => some f166
  | 167 => some f167
  | 168 => some f168
  | 424 => some f424
  | 425 => some f425
  | 416 => some f416
  | 421 => some f421
  | 433 => some f433
  | 1 => some f1
  | 2 => some f2
  | 3 => some f3
  | 28 => some f28
  | 29 => some f29
  | 34 => some f34
  | 419 => some f419
  | 434 => some f434
  | 445 => some f445
  | 446 => some f446
  | 427 => some f427
  | 441 => some f441
  | 447 => some f447
  | 437 => some f437
  | 442 => some f442
  | 448 => some f448
  | _ => none
instance : HasF fns 12 f12 := ⟨rfl⟩
instance : HasF fns 0 f0 := ⟨rfl⟩
instance : HasF fns 13 f13 := ⟨rfl⟩
instance : HasF fns 163 f163 := ⟨rfl⟩
instance : HasF fns 164 f164 := ⟨rfl⟩
instance : HasF fns 165 f165 := ⟨rfl⟩
instance : HasF fns 166 f166 := ⟨rfl⟩
instance : HasF fns 167 f167 := ⟨rfl⟩
instance : HasF fns 168 f168 := ⟨rfl⟩
instance : HasF fns 424 f424 := ⟨rfl⟩
instance : HasF fns 425 f425 := ⟨rfl⟩
instance : HasF fns 416 f416 := ⟨rfl⟩
instance : HasF fns 421 f421 := ⟨rfl⟩
instance : HasF fns 433 f433 := ⟨rfl⟩
instance : HasF fns 1 f1 := ⟨rfl⟩
instance : HasF fns 2 f2 := ⟨rfl⟩
instance : HasF fns 3 f3 := ⟨rfl⟩
instance : HasF fns 28 f28 := ⟨rfl⟩
instance : HasF fns 29 f29 := ⟨rfl⟩
instance : HasF fns 34 f34 := ⟨rfl⟩
instance : HasF fns 419 f419 := ⟨rfl⟩
instance : HasF fns 434 f434 := ⟨rfl⟩
instance : HasF fns 445 f445 := ⟨rfl⟩
instance : HasF fns 446 f446 := ⟨rfl⟩
instance : HasF fns 427 f427 := ⟨rfl⟩
instance : HasF fns 441 f441 := ⟨rfl⟩
instance : HasF fns 447 f447 := ⟨rfl⟩
instance : HasF fns 437 f437 := ⟨rfl⟩
instance : HasF fns 442 f442 := ⟨rfl⟩
instance : HasF fns 448 f448 := ⟨rfl⟩
def gv : Nat → Option D
  | 2 => some (.int 6)
  | 3 => some (.int 60)
  | 4 => some (.int 100)
  | 5 => some (.int 1000000)
  | 7 => some (.str "0123456789")
  | 8 => some (.int 9)
  | _ => none
def gl : Nat → Str
  | 2 => "MOST"
  | 3 => "MOST_PIECES"
  | 4 => "MOST_WISH"
  | 5 => "MOST_PURSE"
  | 7 => "FIGURES"
  | 8 => "MOST_FIGURES"
  | _ => ""
def en : Nat → Option Str
  | 0 => some "NoNumber"
  | 1 => some "NoMarket"
  | 2 => some "NoPrices"
  | 3 => some "Dear"
  | 4 => some "Unwished"
  | 5 => some "NoBuyer"
  | 6 => some "NoGood"
  | 7 => some "Nothing"
  | 8 => some "NoDealing"
  | 9 => some "NoText"
  | 10 => some "NoRow"
  | _ => none
def nm : Nm := ⟨fun f => ((fns f).getD ⟨"", [], [], .nil⟩).name, fun f => (fns f).map fun F => F.ps.length, gl, en, true⟩
def topS (i : Nat) : Stmt := PySem.Challenge.pw_wishmart_k33_markets_as_texts.main.body.getD i (.Pass ⟨0, 0, 0, 0⟩)
abbrev s12 : Stmt := topS 14
theorem sc12 : FnScope f12.N f12.ps (defScope s12) := scope_by (by decide +kernel)
theorem ok12 : okSs nm f12.N f12.body (defScope s12) (defBody s12) = true := by decide +kernel
abbrev s0 : Stmt := topS 15
theorem sc0 : FnScope f0.N f0.ps (defScope s0) := scope_by (by decide +kernel)
theorem ok0 : okSs nm f0.N f0.body (defScope s0) (defBody s0) = true := by decide +kernel
abbrev s13 : Stmt := topS 16
theorem sc13 : FnScope f13.N f13.ps (defScope s13) := scope_by (by decide +kernel)
theorem ok13 : okSs nm f13.N f13.body (defScope s13) (defBody s13) = true := by decide +kernel
abbrev s163 : Stmt := topS 22
theorem sc163 : FnScope f163.N f163.ps (defScope s163) := scope_by (by decide +kernel)
theorem ok163 : okSs nm f163.N f163.body (defScope s163) (defBody s163) = true := by decide +kernel
abbrev s164 : Stmt := topS 23
theorem sc164 : FnScope f164.N f164.ps (defScope s164) := scope_by (by decide +kernel)
theorem ok164 : okSs nm f164.N f164.body (defScope s164) (defBody s164) = true := by decide +kernel
abbrev s165 : Stmt := topS 24
theorem sc165 : FnScope f165.N f165.ps (defScope s165) := scope_by (by decide +kernel)
theorem ok165 : okSs nm f165.N f165.body (defScope s165) (defBody s165) = true := by decide +kernel
abbrev s166 : Stmt := topS 25
theorem sc166 : FnScope f166.N f166.ps (defScope s166) := scope_by (by decide +kernel)
theorem ok166 : okSs nm f166.N f166.body (defScope s166) (defBody s166) = true := by decide +kernel
abbrev s167 : Stmt := topS 26
theorem sc167 : FnScope f167.N f167.ps (defScope s167) := scope_by (by decide +kernel)
theorem ok167 : okSs nm f167.N f167.body (defScope s167) (defBody s167) = true := by decide +kernel
abbrev s168 : Stmt := topS 27
theorem sc168 : FnScope f168.N f168.ps (defScope s168) := scope_by (by decide +kernel)
theorem ok168 : okSs nm f168.N f168.body (defScope s168) (defBody s168) = true := by decide +kernel
abbrev s424 : Stmt := topS 31
theorem sc424 : FnScope f424.N f424.ps (defScope s424) := scope_by (by decide +kernel)
theorem ok424 : okSs nm f424.N f424.body (defScope s424) (defBody s424) = true := by decide +kernel
abbrev s425 : Stmt := topS 32
theorem sc425 : FnScope f425.N f425.ps (defScope s425) := scope_by (by decide +kernel)
theorem ok425 : okSs nm f425.N f425.body (defScope s425) (defBody s425) = true := by decide +kernel
abbrev s416 : Stmt := topS 33
theorem sc416 : FnScope f416.N f416.ps (defScope s416) := scope_by (by decide +kernel)
theorem ok416 : okSs nm f416.N f416.body (defScope s416) (defBody s416) = true := by decide +kernel
abbrev s421 : Stmt := topS 34
theorem sc421 : FnScope f421.N f421.ps (defScope s421) := scope_by (by decide +kernel)
theorem ok421 : okSs nm f421.N f421.body (defScope s421) (defBody s421) = true := by decide +kernel
abbrev s433 : Stmt := topS 35
theorem sc433 : FnScope f433.N f433.ps (defScope s433) := scope_by (by decide +kernel)
theorem ok433 : okSs nm f433.N f433.body (defScope s433) (defBody s433) = true := by decide +kernel
abbrev s1 : Stmt := topS 37
theorem sc1 : FnScope f1.N f1.ps (defScope s1) := scope_by (by decide +kernel)
theorem ok1 : okSs nm f1.N f1.body (defScope s1) (defBody s1) = true := by decide +kernel
abbrev s2 : Stmt := topS 38
theorem sc2 : FnScope f2.N f2.ps (defScope s2) := scope_by (by decide +kernel)
theorem ok2 : okSs nm f2.N f2.body (defScope s2) (defBody s2) = true := by decide +kernel
abbrev s3 : Stmt := topS 39
theorem sc3 : FnScope f3.N f3.ps (defScope s3) := scope_by (by decide +kernel)
theorem ok3 : okSs nm f3.N f3.body (defScope s3) (defBody s3) = true := by decide +kernel
abbrev s28 : Stmt := topS 40
theorem sc28 : FnScope f28.N f28.ps (defScope s28) := scope_by (by decide +kernel)
theorem ok28 : okSs nm f28.N f28.body (defScope s28) (defBody s28) = true := by decide +kernel
abbrev s29 : Stmt := topS 41
theorem sc29 : FnScope f29.N f29.ps (defScope s29) := scope_by (by decide +kernel)
theorem ok29 : okSs nm f29.N f29.body (defScope s29) (defBody s29) = true := by decide +kernel
abbrev s34 : Stmt := topS 42
theorem sc34 : FnScope f34.N f34.ps (defScope s34) := scope_by (by decide +kernel)
theorem ok34 : okSs nm f34.N f34.body (defScope s34) (defBody s34) = true := by decide +kernel
abbrev s419 : Stmt := topS 44
theorem sc419 : FnScope f419.N f419.ps (defScope s419) := scope_by (by decide +kernel)
theorem ok419 : okSs nm f419.N f419.body (defScope s419) (defBody s419) = true := by decide +kernel
abbrev s434 : Stmt := topS 45
theorem sc434 : FnScope f434.N f434.ps (defScope s434) := scope_by (by decide +kernel)
theorem ok434 : okSs nm f434.N f434.body (defScope s434) (defBody s434) = true := by decide +kernel
abbrev s445 : Stmt := topS 46
theorem sc445 : FnScope f445.N f445.ps (defScope s445) := scope_by (by decide +kernel)
theorem ok445 : okSs nm f445.N f445.body (defScope s445) (defBody s445) = true := by decide +kernel
abbrev s446 : Stmt := topS 47
theorem sc446 : FnScope f446.N f446.ps (defScope s446) := scope_by (by decide +kernel)
theorem ok446 : okSs nm f446.N f446.body (defScope s446) (defBody s446) = true := by decide +kernel
abbrev s427 : Stmt := topS 48
theorem sc427 : FnScope f427.N f427.ps (defScope s427) := scope_by (by decide +kernel)
theorem ok427 : okSs nm f427.N f427.body (defScope s427) (defBody s427) = true := by decide +kernel
abbrev s441 : Stmt := topS 48
theorem sc441 : FnScope f441.N f441.ps (defScope s441) := scope_by (by decide +kernel)
theorem ok441 : okSs nm f441.N f441.body (defScope s441) (defBody s441) = true := by decide +kernel
abbrev s447 : Stmt := topS 49
theorem sc447 : FnScope f447.N f447.ps (defScope s447) := scope_by (by decide +kernel)
theorem ok447 : okSs nm f447.N f447.body (defScope s447) (defBody s447) = true := by decide +kernel
abbrev s437 : Stmt := topS 50
theorem sc437 : FnScope f437.N f437.ps (defScope s437) := scope_by (by decide +kernel)
theorem ok437 : okSs nm f437.N f437.body (defScope s437) (defBody s437) = true := by decide +kernel
abbrev s442 : Stmt := topS 51
theorem sc442 : FnScope f442.N f442.ps (defScope s442) := scope_by (by decide +kernel)
theorem ok442 : okSs nm f442.N f442.body (defScope s442) (defBody s442) = true := by decide +kernel
abbrev s448 : Stmt := topS 52
theorem sc448 : FnScope f448.N f448.ps (defScope s448) := scope_by (by decide +kernel)
theorem ok448 : okSs nm f448.N f448.body (defScope s448) (defBody s448) = true := by decide +kernel
abbrev sK : Stmt := topS 43
def kQ (i : Nat) : Pos := ([⟨153, 4, 153, 8⟩, ⟨153, 12, 153, 22⟩, ⟨153, 23, 153, 24⟩, ⟨153, 26, 153, 30⟩, ⟨153, 12, 153, 31⟩, ⟨153, 33, 153, 43⟩, ⟨153, 44, 153, 45⟩, ⟨153, 47, 153, 54⟩, ⟨153, 33, 153, 55⟩, ⟨153, 57, 153, 67⟩, ⟨153, 68, 153, 69⟩, ⟨153, 71, 153, 80⟩, ⟨153, 57, 153, 81⟩, ⟨153, 83, 153, 93⟩, ⟨153, 94, 153, 95⟩, ⟨153, 97, 153, 103⟩, ⟨153, 83, 153, 104⟩, ⟨153, 11, 153, 105⟩, ⟨153, 4, 153, 105⟩, ⟨154, 4, 154, 8⟩, ⟨154, 11, 154, 15⟩, ⟨154, 19, 154, 29⟩, ⟨154, 30, 154, 31⟩, ⟨154, 33, 154, 41⟩, ⟨154, 19, 154, 42⟩, ⟨154, 44, 154, 54⟩, ⟨154, 55, 154, 56⟩, ⟨154, 58, 154, 66⟩, ⟨154, 44, 154, 67⟩, ⟨154, 69, 154, 79⟩, ⟨154, 80, 154, 81⟩, ⟨154, 83, 154, 91⟩, ⟨154, 69, 154, 92⟩, ⟨154, 94, 154, 104⟩, ⟨154, 105, 154, 106⟩, ⟨154, 108, 154, 113⟩, ⟨154, 94, 154, 114⟩, ⟨154, 18, 154, 115⟩, ⟨154, 11, 154, 115⟩, ⟨154, 4, 154, 115⟩, ⟨155, 4, 155, 8⟩, ⟨155, 11, 155, 15⟩, ⟨155, 19, 155, 29⟩, ⟨155, 30, 155, 31⟩, ⟨155, 33, 155, 39⟩, ⟨155, 19, 155, 40⟩, ⟨155, 42, 155, 52⟩, ⟨155, 53, 155, 54⟩, ⟨155, 56, 155, 63⟩, ⟨155, 42, 155, 64⟩, ⟨155, 66, 155, 76⟩, ⟨155, 77, 155, 78⟩, ⟨155, 80, 155, 88⟩, ⟨155, 66, 155, 89⟩, ⟨155, 91, 155, 101⟩, ⟨155, 102, 155, 103⟩, ⟨155, 105, 155, 115⟩, ⟨155, 91, 155, 116⟩, ⟨155, 18, 155, 117⟩, ⟨155, 11, 155, 117⟩, ⟨155, 4, 155, 117⟩, ⟨156, 4, 156, 9⟩, ⟨156, 13, 156, 19⟩, ⟨156, 21, 156, 30⟩, ⟨156, 32, 156, 43⟩, ⟨156, 45, 156, 53⟩, ⟨156, 55, 156, 65⟩, ⟨156, 67, 156, 77⟩, ⟨156, 79, 156, 89⟩, ⟨156, 91, 156, 98⟩, ⟨156, 12, 156, 99⟩, ⟨156, 4, 156, 99⟩, ⟨157, 4, 157, 9⟩, ⟨157, 12, 157, 17⟩, ⟨157, 21, 157, 29⟩, ⟨157, 31, 157, 40⟩, ⟨157, 42, 157, 52⟩, ⟨157, 54, 157, 57⟩, ⟨157, 20, 157, 58⟩, ⟨157, 12, 157, 58⟩, ⟨157, 4, 157, 58⟩, ⟨158, 11, 158, 13⟩, ⟨158, 11, 158, 18⟩, ⟨158, 20, 158, 25⟩, ⟨158, 26, 158, 27⟩, ⟨158, 20, 158, 28⟩, ⟨158, 33, 158, 34⟩, ⟨158, 38, 158, 43⟩, ⟨158, 44, 158, 46⟩, ⟨158, 38, 158, 47⟩, ⟨158, 51, 158, 55⟩, ⟨158, 56, 158, 57⟩, ⟨158, 51, 158, 58⟩, ⟨158, 19, 158, 59⟩, ⟨158, 11, 158, 60⟩, ⟨158, 4, 158, 60⟩] : List Pos).getD i ⟨0, 0, 0, 0⟩
theorem kSc_eq : defScope sK = kSc := rfl
theorem kB_eq : defBody sK = kBody kQ := rfl
def dep : Nat := 20
theorem all_mk {l : PySem.W.OpenLaw} {w : World} {K : PySem.W.Frag} {h : Heap} {mg : Str → Option Value} {fa : Addr} (lt : ∀ ns : List Int, ns.length ≤ 63 → cs fns gv dep 448 [.v (.ow (.d (.scr ns)))] = .ok (.d (.bl true)) []) (tr0 : l.prog.given.tree = none) (X : K.In h) (G : h.Ns mainGlobals mg) (hfa : mg "law" = some (.ref fa))
    {g12 : Addr} {od12 an12 : Option Addr} {sl12 : Array (Option Value)} {oc12 kV12 dc12 pm12 cd12 ct12 : Value}
    (a12 : PySem.W.nsIn K mainGlobals f12.name = some (some (.ref g12))) (l12 : K.lookup g12 = some ⟨oc12, od12, .func (PySem.W.fnOf f12.name f12.name (defArgs s12) (defBody s12) (defScope s12) .none kV12 dc12 pm12 an12 cd12 ct12), sl12⟩) (c12 : PySem.W.codeIn K cd12 f12.name = true) (k12 : PySem.W.keepIn K (.ref g12) = true)
    {g0 : Addr} {od0 an0 : Option Addr} {sl0 : Array (Option Value)} {oc0 kV0 dc0 pm0 cd0 ct0 : Value}
    (a0 : PySem.W.nsIn K mainGlobals f0.name = some (some (.ref g0))) (l0 : K.lookup g0 = some ⟨oc0, od0, .func (PySem.W.fnOf f0.name f0.name (defArgs s0) (defBody s0) (defScope s0) .none kV0 dc0 pm0 an0 cd0 ct0), sl0⟩) (c0 : PySem.W.codeIn K cd0 f0.name = true) (k0 : PySem.W.keepIn K (.ref g0) = true)
    {g13 : Addr} {od13 an13 : Option Addr} {sl13 : Array (Option Value)} {oc13 kV13 dc13 pm13 cd13 ct13 : Value}
    (a13 : PySem.W.nsIn K mainGlobals f13.name = some (some (.ref g13))) (l13 : K.lookup g13 = some ⟨oc13, od13, .func (PySem.W.fnOf f13.name f13.name (defArgs s13) (defBody s13) (defScope s13) .none kV13 dc13 pm13 an13 cd13 ct13), sl13⟩) (c13 : PySem.W.codeIn K cd13 f13.name = true) (k13 : PySem.W.keepIn K (.ref g13) = true)
    {g163 : Addr} {od163 an163 : Option Addr} {sl163 : Array (Option Value)} {oc163 kV163 dc163 pm163 cd163 ct163 : Value}
    (a163 : PySem.W.nsIn K mainGlobals f163.name = some (some (.ref g163))) (l163 : K.lookup g163 = some ⟨oc163, od163, .func (PySem.W.fnOf f163.name f163.name (defArgs s163) (defBody s163) (defScope s163) .none kV163 dc163 pm163 an163 cd163 ct163), sl163⟩) (c163 : PySem.W.codeIn K cd163 f163.name = true) (k163 : PySem.W.keepIn K (.ref g163) = true)
    {g164 : Addr} {od164 an164 : Option Addr} {sl164 : Array (Option Value)} {oc164 kV164 dc164 pm164 cd164 ct164 : Value}
    (a164 : PySem.W.nsIn K mainGlobals f164.name = some (some (.ref g164))) (l164 : K.lookup g164 = some ⟨oc164, od164, .func (PySem.W.fnOf f164.name f164.name (defArgs s164) (defBody s164) (defScope s164) .none kV164 dc164 pm164 an164 cd164 ct164), sl164⟩) (c164 : PySem.W.codeIn K cd164 f164.name = true) (k164 : PySem.W.keepIn K (.ref g164) = true)
    {g165 : Addr} {od165 an165 : Option Addr} {sl165 : Array (Option Value)} {oc165 kV165 dc165 pm165 cd165 ct165 : Value}
    (a165 : PySem.W.nsIn K mainGlobals f165.name = some (some (.ref g165))) (l165 : K.lookup g165 = some ⟨oc165, od165, .func (PySem.W.fnOf f165.name f165.name (defArgs s165) (defBody s165) (defScope s165) .none kV165 dc165 pm165 an165 cd165 ct165), sl165⟩) (c165 : PySem.W.codeIn K cd165 f165.name = true) (k165 : PySem.W.keepIn K (.ref g165) = true)
    {g166 : Addr} {od166 an166 : Option Addr} {sl166 : Array (Option Value)} {oc166 kV166 dc166 pm166 cd166 ct166 : Value}
    (a166 : PySem.W.nsIn K mainGlobals f166.name = some (some (.ref g166))) (l166 : K.lookup g166 = some ⟨oc166, od166, .func (PySem.W.fnOf f166.name f166.name (defArgs s166) (defBody s166) (defScope s166) .none kV166 dc166 pm166 an166 cd166 ct166), sl166⟩) (c166 : PySem.W.codeIn K cd166 f166.name = true) (k166 : PySem.W.keepIn K (.ref g166) = true)
    {g167 : Addr} {od167 an167 : Option Addr} {sl167 : Array (Option Value)} {oc167 kV167 dc167 pm167 cd167 ct167 : Value}
    (a167 : PySem.W.nsIn K mainGlobals f167.name = some (some (.ref g167))) (l167 : K.lookup g167 = some ⟨oc167, od167, .func (PySem.W.fnOf f167.name f167.name (defArgs s167) (defBody s167) (defScope s167) .none kV167 dc167 pm167 an167 cd167 ct167), sl167⟩) (c167 : PySem.W.codeIn K cd167 f167.name = true) (k167 : PySem.W.keepIn K (.ref g167) = true)
    {g168 : Addr} {od168 an168 : Option Addr} {sl168 : Array (Option Value)} {oc168 kV168 dc168 pm168 cd168 ct168 : Value}
    (a168 : PySem.W.nsIn K mainGlobals f168.name = some (some (.ref g168))) (l168 : K.lookup g168 = some ⟨oc168, od168, .func (PySem.W.fnOf f168.name f168.name (defArgs s168) (defBody s168) (defScope s168) .none kV168 dc168 pm168 an168 cd168 ct168), sl168⟩) (c168 : PySem.W.codeIn K cd168 f168.name = true) (k168 : PySem.W.keepIn K (.ref g168) = true)
    {g424 : Addr} {od424 an424 : Option Addr} {sl424 : Array (Option Value)} {oc424 kV424 dc424 pm424 cd424 ct424 : Value}
    (a424 : PySem.W.nsIn K mainGlobals f424.name = some (some (.ref g424))) (l424 : K.lookup g424 = some ⟨oc424, od424, .func (PySem.W.fnOf f424.name f424.name (defArgs s424) (defBody s424) (defScope s424) .none kV424 dc424 pm424 an424 cd424 ct424), sl424⟩) (c424 : PySem.W.codeIn K cd424 f424.name = true) (k424 : PySem.W.keepIn K (.ref g424) = true)
    {g425 : Addr} {od425 an425 : Option Addr} {sl425 : Array (Option Value)} {oc425 kV425 dc425 pm425 cd425 ct425 : Value}
    (a425 : PySem.W.nsIn K mainGlobals f425.name = some (some (.ref g425))) (l425 : K.lookup g425 = some ⟨oc425, od425, .func (PySem.W.fnOf f425.name f425.name (defArgs s425) (defBody s425) (defScope s425) .none kV425 dc425 pm425 an425 cd425 ct425), sl425⟩) (c425 : PySem.W.codeIn K cd425 f425.name = true) (k425 : PySem.W.keepIn K (.ref g425) = true)
    {g416 : Addr} {od416 an416 : Option Addr} {sl416 : Array (Option Value)} {oc416 kV416 dc416 pm416 cd416 ct416 : Value}
    (a416 : PySem.W.nsIn K mainGlobals f416.name = some (some (.ref g416))) (l416 : K.lookup g416 = some ⟨oc416, od416, .func (PySem.W.fnOf f416.name f416.name (defArgs s416) (defBody s416) (defScope s416) .none kV416 dc416 pm416 an416 cd416 ct416), sl416⟩) (c416 : PySem.W.codeIn K cd416 f416.name = true) (k416 : PySem.W.keepIn K (.ref g416) = true)
    {g421 : Addr} {od421 an421 : Option Addr} {sl421 : Array (Option Value)} {oc421 kV421 dc421 pm421 cd421 ct421 : Value}
    (a421 : PySem.W.nsIn K mainGlobals f421.name = some (some (.ref g421))) (l421 : K.lookup g421 = some ⟨oc421, od421, .func (PySem.W.fnOf f421.name f421.name (defArgs s421) (defBody s421) (defScope s421) .none kV421 dc421 pm421 an421 cd421 ct421), sl421⟩) (c421 : PySem.W.codeIn K cd421 f421.name = true) (k421 : PySem.W.keepIn K (.ref g421) = true)
    {g433 : Addr} {od433 an433 : Option Addr} {sl433 : Array (Option Value)} {oc433 kV433 dc433 pm433 cd433 ct433 : Value}
    (a433 : PySem.W.nsIn K mainGlobals f433.name = some (some (.ref g433))) (l433 : K.lookup g433 = some ⟨oc433, od433, .func (PySem.W.fnOf f433.name f433.name (defArgs s433) (defBody s433) (defScope s433) .none kV433 dc433 pm433 an433 cd433 ct433), sl433⟩) (c433 : PySem.W.codeIn K cd433 f433.name = true) (k433 : PySem.W.keepIn K (.ref g433) = true)
    {g1 : Addr} {od1 an1 : Option Addr} {sl1 : Array (Option Value)} {oc1 kV1 dc1 pm1 cd1 ct1 : Value}
    (a1 : PySem.W.nsIn K mainGlobals f1.name = some (some (.ref g1))) (l1 : K.lookup g1 = some ⟨oc1, od1, .func (PySem.W.fnOf f1.name f1.name (defArgs s1) (defBody s1) (defScope s1) .none kV1 dc1 pm1 an1 cd1 ct1), sl1⟩) (c1 : PySem.W.codeIn K cd1 f1.name = true) (k1 : PySem.W.keepIn K (.ref g1) = true)
    {g2 : Addr} {od2 an2 : Option Addr} {sl2 : Array (Option Value)} {oc2 kV2 dc2 pm2 cd2 ct2 : Value}
    (a2 : PySem.W.nsIn K mainGlobals f2.name = some (some (.ref g2))) (l2 : K.lookup g2 = some ⟨oc2, od2, .func (PySem.W.fnOf f2.name f2.name (defArgs s2) (defBody s2) (defScope s2) .none kV2 dc2 pm2 an2 cd2 ct2), sl2⟩) (c2 : PySem.W.codeIn K cd2 f2.name = true) (k2 : PySem.W.keepIn K (.ref g2) = true)
    {g3 : Addr} {od3 an3 : Option Addr} {sl3 : Array (Option Value)} {oc3 kV3 dc3 pm3 cd3 ct3 : Value}
    (a3 : PySem.W.nsIn K mainGlobals f3.name = some (some (.ref g3))) (l3 : K.lookup g3 = some ⟨oc3, od3, .func (PySem.W.fnOf f3.name f3.name (defArgs s3) (defBody s3) (defScope s3) .none kV3 dc3 pm3 an3 cd3 ct3), sl3⟩) (c3 : PySem.W.codeIn K cd3 f3.name = true) (k3 : PySem.W.keepIn K (.ref g3) = true)
    {g28 : Addr} {od28 an28 : Option Addr} {sl28 : Array (Option Value)} {oc28 kV28 dc28 pm28 cd28 ct28 : Value}
    (a28 : PySem.W.nsIn K mainGlobals f28.name = some (some (.ref g28))) (l28 : K.lookup g28 = some ⟨oc28, od28, .func (PySem.W.fnOf f28.name f28.name (defArgs s28) (defBody s28) (defScope s28) .none kV28 dc28 pm28 an28 cd28 ct28), sl28⟩) (c28 : PySem.W.codeIn K cd28 f28.name = true) (k28 : PySem.W.keepIn K (.ref g28) = true)
    {g29 : Addr} {od29 an29 : Option Addr} {sl29 : Array (Option Value)} {oc29 kV29 dc29 pm29 cd29 ct29 : Value}
    (a29 : PySem.W.nsIn K mainGlobals f29.name = some (some (.ref g29))) (l29 : K.lookup g29 = some ⟨oc29, od29, .func (PySem.W.fnOf f29.name f29.name (defArgs s29) (defBody s29) (defScope s29) .none kV29 dc29 pm29 an29 cd29 ct29), sl29⟩) (c29 : PySem.W.codeIn K cd29 f29.name = true) (k29 : PySem.W.keepIn K (.ref g29) = true)
    {g34 : Addr} {od34 an34 : Option Addr} {sl34 : Array (Option Value)} {oc34 kV34 dc34 pm34 cd34 ct34 : Value}
    (a34 : PySem.W.nsIn K mainGlobals f34.name = some (some (.ref g34))) (l34 : K.lookup g34 = some ⟨oc34, od34, .func (PySem.W.fnOf f34.name f34.name (defArgs s34) (defBody s34) (defScope s34) .none kV34 dc34 pm34 an34 cd34 ct34), sl34⟩) (c34 : PySem.W.codeIn K cd34 f34.name = true) (k34 : PySem.W.keepIn K (.ref g34) = true)
    {g419 : Addr} {od419 an419 : Option Addr} {sl419 : Array (Option Value)} {oc419 kV419 dc419 pm419 cd419 ct419 : Value}
    (a419 : PySem.W.nsIn K mainGlobals f419.name = some (some (.ref g419))) (l419 : K.lookup g419 = some ⟨oc419, od419, .func (PySem.W.fnOf f419.name f419.name (defArgs s419) (defBody s419) (defScope s419) .none kV419 dc419 pm419 an419 cd419 ct419), sl419⟩) (c419 : PySem.W.codeIn K cd419 f419.name = true) (k419 : PySem.W.keepIn K (.ref g419) = true)
    {g434 : Addr} {od434 an434 : Option Addr} {sl434 : Array (Option Value)} {oc434 kV434 dc434 pm434 cd434 ct434 : Value}
    (a434 : PySem.W.nsIn K mainGlobals f434.name = some (some (.ref g434))) (l434 : K.lookup g434 = some ⟨oc434, od434, .func (PySem.W.fnOf f434.name f434.name (defArgs s434) (defBody s434) (defScope s434) .none kV434 dc434 pm434 an434 cd434 ct434), sl434⟩) (c434 : PySem.W.codeIn K cd434 f434.name = true) (k434 : PySem.W.keepIn K (.ref g434) = true)
    {g445 : Addr} {od445 an445 : Option Addr} {sl445 : Array (Option Value)} {oc445 kV445 dc445 pm445 cd445 ct445 : Value}
    (a445 : PySem.W.nsIn K mainGlobals f445.name = some (some (.ref g445))) (l445 : K.lookup g445 = some ⟨oc445, od445, .func (PySem.W.fnOf f445.name f445.name (defArgs s445) (defBody s445) (defScope s445) .none kV445 dc445 pm445 an445 cd445 ct445), sl445⟩) (c445 : PySem.W.codeIn K cd445 f445.name = true) (k445 : PySem.W.keepIn K (.ref g445) = true)
    {g446 : Addr} {od446 an446 : Option Addr} {sl446 : Array (Option Value)} {oc446 kV446 dc446 pm446 cd446 ct446 : Value}
    (a446 : PySem.W.nsIn K mainGlobals f446.name = some (some (.ref g446))) (l446 : K.lookup g446 = some ⟨oc446, od446, .func (PySem.W.fnOf f446.name f446.name (defArgs s446) (defBody s446) (defScope s446) .none kV446 dc446 pm446 an446 cd446 ct446), sl446⟩) (c446 : PySem.W.codeIn K cd446 f446.name = true) (k446 : PySem.W.keepIn K (.ref g446) = true)
    {g427 : Addr} {od427 an427 : Option Addr} {sl427 : Array (Option Value)} {oc427 kV427 dc427 pm427 cd427 ct427 : Value}
    (a427 : PySem.W.nsIn K mainGlobals f427.name = some (some (.ref g427))) (l427 : K.lookup g427 = some ⟨oc427, od427, .func (PySem.W.fnOf f427.name f427.name (defArgs s427) (defBody s427) (defScope s427) .none kV427 dc427 pm427 an427 cd427 ct427), sl427⟩) (c427 : PySem.W.codeIn K cd427 f427.name = true) (k427 : PySem.W.keepIn K (.ref g427) = true)
    {g441 : Addr} {od441 an441 : Option Addr} {sl441 : Array (Option Value)} {oc441 kV441 dc441 pm441 cd441 ct441 : Value}
    (a441 : PySem.W.nsIn K mainGlobals f441.name = some (some (.ref g441))) (l441 : K.lookup g441 = some ⟨oc441, od441, .func (PySem.W.fnOf f441.name f441.name (defArgs s441) (defBody s441) (defScope s441) .none kV441 dc441 pm441 an441 cd441 ct441), sl441⟩) (c441 : PySem.W.codeIn K cd441 f441.name = true) (k441 : PySem.W.keepIn K (.ref g441) = true)
    {g447 : Addr} {od447 an447 : Option Addr} {sl447 : Array (Option Value)} {oc447 kV447 dc447 pm447 cd447 ct447 : Value}
    (a447 : PySem.W.nsIn K mainGlobals f447.name = some (some (.ref g447))) (l447 : K.lookup g447 = some ⟨oc447, od447, .func (PySem.W.fnOf f447.name f447.name (defArgs s447) (defBody s447) (defScope s447) .none kV447 dc447 pm447 an447 cd447 ct447), sl447⟩) (c447 : PySem.W.codeIn K cd447 f447.name = true) (k447 : PySem.W.keepIn K (.ref g447) = true)
    {g437 : Addr} {od437 an437 : Option Addr} {sl437 : Array (Option Value)} {oc437 kV437 dc437 pm437 cd437 ct437 : Value}
    (a437 : PySem.W.nsIn K mainGlobals f437.name = some (some (.ref g437))) (l437 : K.lookup g437 = some ⟨oc437, od437, .func (PySem.W.fnOf f437.name f437.name (defArgs s437) (defBody s437) (defScope s437) .none kV437 dc437 pm437 an437 cd437 ct437), sl437⟩) (c437 : PySem.W.codeIn K cd437 f437.name = true) (k437 : PySem.W.keepIn K (.ref g437) = true)
    {g442 : Addr} {od442 an442 : Option Addr} {sl442 : Array (Option Value)} {oc442 kV442 dc442 pm442 cd442 ct442 : Value}
    (a442 : PySem.W.nsIn K mainGlobals f442.name = some (some (.ref g442))) (l442 : K.lookup g442 = some ⟨oc442, od442, .func (PySem.W.fnOf f442.name f442.name (defArgs s442) (defBody s442) (defScope s442) .none kV442 dc442 pm442 an442 cd442 ct442), sl442⟩) (c442 : PySem.W.codeIn K cd442 f442.name = true) (k442 : PySem.W.keepIn K (.ref g442) = true)
    {g448 : Addr} {od448 an448 : Option Addr} {sl448 : Array (Option Value)} {oc448 kV448 dc448 pm448 cd448 ct448 : Value}
    (a448 : PySem.W.nsIn K mainGlobals f448.name = some (some (.ref g448))) (l448 : K.lookup g448 = some ⟨oc448, od448, .func (PySem.W.fnOf f448.name f448.name (defArgs s448) (defBody s448) (defScope s448) .none kV448 dc448 pm448 an448 cd448 ct448), sl448⟩) (c448 : PySem.W.codeIn K cd448 f448.name = true) (k448 : PySem.W.keepIn K (.ref g448) = true)
    (z0 : PySem.W.nsIn K mainGlobals "len" = some none)
    (z1 : PySem.W.nsIn K mainGlobals "abs" = some none)
    (z2 : PySem.W.nsIn K mainGlobals "tuple" = some none)
    (z3 : PySem.W.nsIn K mainGlobals "list" = some none)
    (z4 : PySem.W.nsIn K mainGlobals "sum" = some none)
    (z5 : PySem.W.nsIn K mainGlobals "any" = some none)
    (z6 : PySem.W.nsIn K mainGlobals "all" = some none)
    (z7 : PySem.W.nsIn K mainGlobals "int" = some none)
    (z8 : PySem.W.nsIn K mainGlobals "max" = some none)
    (z9 : PySem.W.nsIn K mainGlobals "min" = some none)
    (z10 : PySem.W.nsIn K mainGlobals "sorted" = some none)
    (z11 : PySem.W.nsIn K mainGlobals "isinstance" = some none)
    (z12 : PySem.W.nsIn K mainGlobals "range" = some none)
    (z13 : PySem.W.nsIn K mainGlobals "enumerate" = some none)
    (z14 : PySem.W.nsIn K mainGlobals "zip" = some none)
    (z15 : PySem.W.nsIn K mainGlobals "bool" = some none)
    (z16 : PySem.W.nsIn K mainGlobals "str" = some none)
    (z17 : PySem.W.nsIn K mainGlobals "set" = some none)
    {e0 : Addr} (ga0 : PySem.W.nsIn K mainGlobals "NoNumber" = some (some (.ref e0))) (gx0 : PySem.W.excIn K e0 [.type "ValueError", .type "Exception", .type "BaseException", .type "object"] "ValueError.__new__" = true) (gk0 : PySem.W.keepIn K (.ref e0) = true) (gb0 : PySem.W.subIn K (.ref e0) (.type "BaseException") = some true) (gt0 : PySem.W.typeIn K (.ref e0) = some (.type "type"))
    {e1 : Addr} (ga1 : PySem.W.nsIn K mainGlobals "NoMarket" = some (some (.ref e1))) (gx1 : PySem.W.excIn K e1 [.type "ValueError", .type "Exception", .type "BaseException", .type "object"] "ValueError.__new__" = true) (gk1 : PySem.W.keepIn K (.ref e1) = true) (gb1 : PySem.W.subIn K (.ref e1) (.type "BaseException") = some true) (gt1 : PySem.W.typeIn K (.ref e1) = some (.type "type"))
    {e2 : Addr} (ga2 : PySem.W.nsIn K mainGlobals "NoPrices" = some (some (.ref e2))) (gx2 : PySem.W.excIn K e2 [.type "ValueError", .type "Exception", .type "BaseException", .type "object"] "ValueError.__new__" = true) (gk2 : PySem.W.keepIn K (.ref e2) = true) (gb2 : PySem.W.subIn K (.ref e2) (.type "BaseException") = some true) (gt2 : PySem.W.typeIn K (.ref e2) = some (.type "type"))
    {e3 : Addr} (ga3 : PySem.W.nsIn K mainGlobals "Dear" = some (some (.ref e3))) (gx3 : PySem.W.excIn K e3 [.type "ValueError", .type "Exception", .type "BaseException", .type "object"] "ValueError.__new__" = true) (gk3 : PySem.W.keepIn K (.ref e3) = true) (gb3 : PySem.W.subIn K (.ref e3) (.type "BaseException") = some true) (gt3 : PySem.W.typeIn K (.ref e3) = some (.type "type"))
    {e4 : Addr} (ga4 : PySem.W.nsIn K mainGlobals "Unwished" = some (some (.ref e4))) (gx4 : PySem.W.excIn K e4 [.type "ValueError", .type "Exception", .type "BaseException", .type "object"] "ValueError.__new__" = true) (gk4 : PySem.W.keepIn K (.ref e4) = true) (gb4 : PySem.W.subIn K (.ref e4) (.type "BaseException") = some true) (gt4 : PySem.W.typeIn K (.ref e4) = some (.type "type"))
    {e5 : Addr} (ga5 : PySem.W.nsIn K mainGlobals "NoBuyer" = some (some (.ref e5))) (gx5 : PySem.W.excIn K e5 [.type "ValueError", .type "Exception", .type "BaseException", .type "object"] "ValueError.__new__" = true) (gk5 : PySem.W.keepIn K (.ref e5) = true) (gb5 : PySem.W.subIn K (.ref e5) (.type "BaseException") = some true) (gt5 : PySem.W.typeIn K (.ref e5) = some (.type "type"))
    {e6 : Addr} (ga6 : PySem.W.nsIn K mainGlobals "NoGood" = some (some (.ref e6))) (gx6 : PySem.W.excIn K e6 [.type "ValueError", .type "Exception", .type "BaseException", .type "object"] "ValueError.__new__" = true) (gk6 : PySem.W.keepIn K (.ref e6) = true) (gb6 : PySem.W.subIn K (.ref e6) (.type "BaseException") = some true) (gt6 : PySem.W.typeIn K (.ref e6) = some (.type "type"))
    {e7 : Addr} (ga7 : PySem.W.nsIn K mainGlobals "Nothing" = some (some (.ref e7))) (gx7 : PySem.W.excIn K e7 [.type "ValueError", .type "Exception", .type "BaseException", .type "object"] "ValueError.__new__" = true) (gk7 : PySem.W.keepIn K (.ref e7) = true) (gb7 : PySem.W.subIn K (.ref e7) (.type "BaseException") = some true) (gt7 : PySem.W.typeIn K (.ref e7) = some (.type "type"))
    {e8 : Addr} (ga8 : PySem.W.nsIn K mainGlobals "NoDealing" = some (some (.ref e8))) (gx8 : PySem.W.excIn K e8 [.type "ValueError", .type "Exception", .type "BaseException", .type "object"] "ValueError.__new__" = true) (gk8 : PySem.W.keepIn K (.ref e8) = true) (gb8 : PySem.W.subIn K (.ref e8) (.type "BaseException") = some true) (gt8 : PySem.W.typeIn K (.ref e8) = some (.type "type"))
    {e9 : Addr} (ga9 : PySem.W.nsIn K mainGlobals "NoText" = some (some (.ref e9))) (gx9 : PySem.W.excIn K e9 [.type "ValueError", .type "Exception", .type "BaseException", .type "object"] "ValueError.__new__" = true) (gk9 : PySem.W.keepIn K (.ref e9) = true) (gb9 : PySem.W.subIn K (.ref e9) (.type "BaseException") = some true) (gt9 : PySem.W.typeIn K (.ref e9) = some (.type "type"))
    {e10 : Addr} (ga10 : PySem.W.nsIn K mainGlobals "NoRow" = some (some (.ref e10))) (gx10 : PySem.W.excIn K e10 [.type "ValueError", .type "Exception", .type "BaseException", .type "object"] "ValueError.__new__" = true) (gk10 : PySem.W.keepIn K (.ref e10) = true) (gb10 : PySem.W.subIn K (.ref e10) (.type "BaseException") = some true) (gt10 : PySem.W.typeIn K (.ref e10) = some (.type "type"))
    {v2t : Tok} (v2 : PySem.W.nsIn K mainGlobals "MOST" = some (some (.int 6 v2t)))
    {v3t : Tok} (v3 : PySem.W.nsIn K mainGlobals "MOST_PIECES" = some (some (.int 60 v3t)))
    {v4t : Tok} (v4 : PySem.W.nsIn K mainGlobals "MOST_WISH" = some (some (.int 100 v4t)))
    {v5t : Tok} (v5 : PySem.W.nsIn K mainGlobals "MOST_PURSE" = some (some (.int 1000000 v5t)))
    {v7t : Tok} (v7 : PySem.W.nsIn K mainGlobals "FIGURES" = some (some (.str "0123456789" v7t)))
    {v8t : Tok} (v8 : PySem.W.nsIn K mainGlobals "MOST_FIGURES" = some (some (.int 9 v8t)))
    {gK B : Addr} {odK anK : Option Addr} {slK : Array (Option Value)} {ocK kVK dcK pmK cdK ctK : Value}
    (aK : PySem.W.nsIn K mainGlobals "_law_kinds" = some (some (.ref gK))) (lK : K.lookup gK = some ⟨ocK, odK, .func (PySem.W.fnOf "_law_kinds" "_law_kinds" (defArgs sK) (defBody sK) (defScope sK) .none kVK dcK pmK anK cdK ctK), slK⟩) (cK : PySem.W.codeIn K cdK "_law_kinds" = true) (kK : PySem.W.keepIn K (.ref gK) = true)
    (aB : PySem.W.nsIn K mainGlobals "MartError" = some (some (.ref B))) (vE : PySem.W.nsIn K mainGlobals "ValueError" = some none)
    (bB : PySem.W.subIn K (.ref B) (.type "BaseException") = some true) (dB : PySem.W.hasDictIn K B = true) (tB : PySem.W.typeIn K (.ref B) = some (.type "type"))
    (hnK : PySem.W.specialIn K (.builtin "object.__class__") "__get__" = some (some (.builtin "getset_descriptor.__get__"))) (htK : PySem.W.takesIn K (.builtin "object.__class__") = some true)
    (gg0 : PySem.W.findIn K (.ref e0) "__getattribute__" = some (some (.builtin "BaseException.__getattribute__"))) (gh0 : PySem.W.findIn K (.ref e0) "__getattr__" = some none) (gd0 : PySem.W.hasDictIn K e0 = true) (gc0 : PySem.W.findIn K (.ref e0) "__class__" = some (some (.builtin "object.__class__"))) (gm0 : PySem.W.mroIn K e0 (.type "object") = some true) (gv0 : PySem.W.kitOne K (.ref e0) (.type "ValueError") = some true) (gz0 : PySem.W.subIn K (.ref e0) (.ref B) = some true)
    (kt0_0 : PySem.W.kitOne K (.ref e0) (.ref e0) = some true)
    (kt0_1 : PySem.W.kitOne K (.ref e0) (.ref e1) = some false)
    (kt0_2 : PySem.W.kitOne K (.ref e0) (.ref e2) = some false)
    (kt0_3 : PySem.W.kitOne K (.ref e0) (.ref e3) = some false)
    (kt0_4 : PySem.W.kitOne K (.ref e0) (.ref e4) = some false)
    (kt0_5 : PySem.W.kitOne K (.ref e0) (.ref e5) = some false)
    (kt0_6 : PySem.W.kitOne K (.ref e0) (.ref e6) = some false)
    (kt0_7 : PySem.W.kitOne K (.ref e0) (.ref e7) = some false)
    (kt0_8 : PySem.W.kitOne K (.ref e0) (.ref e8) = some false)
    (kt0_9 : PySem.W.kitOne K (.ref e0) (.ref e9) = some false)
    (kt0_10 : PySem.W.kitOne K (.ref e0) (.ref e10) = some false)
    (gg1 : PySem.W.findIn K (.ref e1) "__getattribute__" = some (some (.builtin "BaseException.__getattribute__"))) (gh1 : PySem.W.findIn K (.ref e1) "__getattr__" = some none) (gd1 : PySem.W.hasDictIn K e1 = true) (gc1 : PySem.W.findIn K (.ref e1) "__class__" = some (some (.builtin "object.__class__"))) (gm1 : PySem.W.mroIn K e1 (.type "object") = some true) (gv1 : PySem.W.kitOne K (.ref e1) (.type "ValueError") = some true) (gz1 : PySem.W.subIn K (.ref e1) (.ref B) = some true)
    (kt1_0 : PySem.W.kitOne K (.ref e1) (.ref e0) = some false)
    (kt1_1 : PySem.W.kitOne K (.ref e1) (.ref e1) = some true)
    (kt1_2 : PySem.W.kitOne K (.ref e1) (.ref e2) = some false)
    (kt1_3 : PySem.W.kitOne K (.ref e1) (.ref e3) = some false)
    (kt1_4 : PySem.W.kitOne K (.ref e1) (.ref e4) = some false)
    (kt1_5 : PySem.W.kitOne K (.ref e1) (.ref e5) = some false)
    (kt1_6 : PySem.W.kitOne K (.ref e1) (.ref e6) = some false)
    (kt1_7 : PySem.W.kitOne K (.ref e1) (.ref e7) = some false)
    (kt1_8 : PySem.W.kitOne K (.ref e1) (.ref e8) = some false)
    (kt1_9 : PySem.W.kitOne K (.ref e1) (.ref e9) = some false)
    (kt1_10 : PySem.W.kitOne K (.ref e1) (.ref e10) = some false)
    (gg2 : PySem.W.findIn K (.ref e2) "__getattribute__" = some (some (.builtin "BaseException.__getattribute__"))) (gh2 : PySem.W.findIn K (.ref e2) "__getattr__" = some none) (gd2 : PySem.W.hasDictIn K e2 = true) (gc2 : PySem.W.findIn K (.ref e2) "__class__" = some (some (.builtin "object.__class__"))) (gm2 : PySem.W.mroIn K e2 (.type "object") = some true) (gv2 : PySem.W.kitOne K (.ref e2) (.type "ValueError") = some true) (gz2 : PySem.W.subIn K (.ref e2) (.ref B) = some true)
    (kt2_0 : PySem.W.kitOne K (.ref e2) (.ref e0) = some false)
    (kt2_1 : PySem.W.kitOne K (.ref e2) (.ref e1) = some false)
    (kt2_2 : PySem.W.kitOne K (.ref e2) (.ref e2) = some true)
    (kt2_3 : PySem.W.kitOne K (.ref e2) (.ref e3) = some false)
    (kt2_4 : PySem.W.kitOne K (.ref e2) (.ref e4) = some false)
    (kt2_5 : PySem.W.kitOne K (.ref e2) (.ref e5) = some false)
    (kt2_6 : PySem.W.kitOne K (.ref e2) (.ref e6) = some false)
    (kt2_7 : PySem.W.kitOne K (.ref e2) (.ref e7) = some false)
    (kt2_8 : PySem.W.kitOne K (.ref e2) (.ref e8) = some false)
    (kt2_9 : PySem.W.kitOne K (.ref e2) (.ref e9) = some false)
    (kt2_10 : PySem.W.kitOne K (.ref e2) (.ref e10) = some false)
    (gg3 : PySem.W.findIn K (.ref e3) "__getattribute__" = some (some (.builtin "BaseException.__getattribute__"))) (gh3 : PySem.W.findIn K (.ref e3) "__getattr__" = some none) (gd3 : PySem.W.hasDictIn K e3 = true) (gc3 : PySem.W.findIn K (.ref e3) "__class__" = some (some (.builtin "object.__class__"))) (gm3 : PySem.W.mroIn K e3 (.type "object") = some true) (gv3 : PySem.W.kitOne K (.ref e3) (.type "ValueError") = some true) (gz3 : PySem.W.subIn K (.ref e3) (.ref B) = some true)
    (kt3_0 : PySem.W.kitOne K (.ref e3) (.ref e0) = some false)
    (kt3_1 : PySem.W.kitOne K (.ref e3) (.ref e1) = some false)
    (kt3_2 : PySem.W.kitOne K (.ref e3) (.ref e2) = some false)
    (kt3_3 : PySem.W.kitOne K (.ref e3) (.ref e3) = some true)
    (kt3_4 : PySem.W.kitOne K (.ref e3) (.ref e4) = some false)
    (kt3_5 : PySem.W.kitOne K (.ref e3) (.ref e5) = some false)
    (kt3_6 : PySem.W.kitOne K (.ref e3) (.ref e6) = some false)
    (kt3_7 : PySem.W.kitOne K (.ref e3) (.ref e7) = some false)
    (kt3_8 : PySem.W.kitOne K (.ref e3) (.ref e8) = some false)
    (kt3_9 : PySem.W.kitOne K (.ref e3) (.ref e9) = some false)
    (kt3_10 : PySem.W.kitOne K (.ref e3) (.ref e10) = some false)
    (gg4 : PySem.W.findIn K (.ref e4) "__getattribute__" = some (some (.builtin "BaseException.__getattribute__"))) (gh4 : PySem.W.findIn K (.ref e4) "__getattr__" = some none) (gd4 : PySem.W.hasDictIn K e4 = true) (gc4 : PySem.W.findIn K (.ref e4) "__class__" = some (some (.builtin "object.__class__"))) (gm4 : PySem.W.mroIn K e4 (.type "object") = some true) (gv4 : PySem.W.kitOne K (.ref e4) (.type "ValueError") = some true) (gz4 : PySem.W.subIn K (.ref e4) (.ref B) = some true)
    (kt4_0 : PySem.W.kitOne K (.ref e4) (.ref e0) = some false)
    (kt4_1 : PySem.W.kitOne K (.ref e4) (.ref e1) = some false)
    (kt4_2 : PySem.W.kitOne K (.ref e4) (.ref e2) = some false)
    (kt4_3 : PySem.W.kitOne K (.ref e4) (.ref e3) = some false)
    (kt4_4 : PySem.W.kitOne K (.ref e4) (.ref e4) = some true)
    (kt4_5 : PySem.W.kitOne K (.ref e4) (.ref e5) = some false)
    (kt4_6 : PySem.W.kitOne K (.ref e4) (.ref e6) = some false)
    (kt4_7 : PySem.W.kitOne K (.ref e4) (.ref e7) = some false)
    (kt4_8 : PySem.W.kitOne K (.ref e4) (.ref e8) = some false)
    (kt4_9 : PySem.W.kitOne K (.ref e4) (.ref e9) = some false)
    (kt4_10 : PySem.W.kitOne K (.ref e4) (.ref e10) = some false)
    (gg5 : PySem.W.findIn K (.ref e5) "__getattribute__" = some (some (.builtin "BaseException.__getattribute__"))) (gh5 : PySem.W.findIn K (.ref e5) "__getattr__" = some none) (gd5 : PySem.W.hasDictIn K e5 = true) (gc5 : PySem.W.findIn K (.ref e5) "__class__" = some (some (.builtin "object.__class__"))) (gm5 : PySem.W.mroIn K e5 (.type "object") = some true) (gv5 : PySem.W.kitOne K (.ref e5) (.type "ValueError") = some true) (gz5 : PySem.W.subIn K (.ref e5) (.ref B) = some true)
    (kt5_0 : PySem.W.kitOne K (.ref e5) (.ref e0) = some false)
    (kt5_1 : PySem.W.kitOne K (.ref e5) (.ref e1) = some false)
    (kt5_2 : PySem.W.kitOne K (.ref e5) (.ref e2) = some false)
    (kt5_3 : PySem.W.kitOne K (.ref e5) (.ref e3) = some false)
    (kt5_4 : PySem.W.kitOne K (.ref e5) (.ref e4) = some false)
    (kt5_5 : PySem.W.kitOne K (.ref e5) (.ref e5) = some true)
    (kt5_6 : PySem.W.kitOne K (.ref e5) (.ref e6) = some false)
    (kt5_7 : PySem.W.kitOne K (.ref e5) (.ref e7) = some false)
    (kt5_8 : PySem.W.kitOne K (.ref e5) (.ref e8) = some false)
    (kt5_9 : PySem.W.kitOne K (.ref e5) (.ref e9) = some false)
    (kt5_10 : PySem.W.kitOne K (.ref e5) (.ref e10) = some false)
    (gg6 : PySem.W.findIn K (.ref e6) "__getattribute__" = some (some (.builtin "BaseException.__getattribute__"))) (gh6 : PySem.W.findIn K (.ref e6) "__getattr__" = some none) (gd6 : PySem.W.hasDictIn K e6 = true) (gc6 : PySem.W.findIn K (.ref e6) "__class__" = some (some (.builtin "object.__class__"))) (gm6 : PySem.W.mroIn K e6 (.type "object") = some true) (gv6 : PySem.W.kitOne K (.ref e6) (.type "ValueError") = some true) (gz6 : PySem.W.subIn K (.ref e6) (.ref B) = some true)
    (kt6_0 : PySem.W.kitOne K (.ref e6) (.ref e0) = some false)
    (kt6_1 : PySem.W.kitOne K (.ref e6) (.ref e1) = some false)
    (kt6_2 : PySem.W.kitOne K (.ref e6) (.ref e2) = some false)
    (kt6_3 : PySem.W.kitOne K (.ref e6) (.ref e3) = some false)
    (kt6_4 : PySem.W.kitOne K (.ref e6) (.ref e4) = some false)
    (kt6_5 : PySem.W.kitOne K (.ref e6) (.ref e5) = some false)
    (kt6_6 : PySem.W.kitOne K (.ref e6) (.ref e6) = some true)
    (kt6_7 : PySem.W.kitOne K (.ref e6) (.ref e7) = some false)
    (kt6_8 : PySem.W.kitOne K (.ref e6) (.ref e8) = some false)
    (kt6_9 : PySem.W.kitOne K (.ref e6) (.ref e9) = some false)
    (kt6_10 : PySem.W.kitOne K (.ref e6) (.ref e10) = some false)
    (gg7 : PySem.W.findIn K (.ref e7) "__getattribute__" = some (some (.builtin "BaseException.__getattribute__"))) (gh7 : PySem.W.findIn K (.ref e7) "__getattr__" = some none) (gd7 : PySem.W.hasDictIn K e7 = true) (gc7 : PySem.W.findIn K (.ref e7) "__class__" = some (some (.builtin "object.__class__"))) (gm7 : PySem.W.mroIn K e7 (.type "object") = some true) (gv7 : PySem.W.kitOne K (.ref e7) (.type "ValueError") = some true) (gz7 : PySem.W.subIn K (.ref e7) (.ref B) = some true)
    (kt7_0 : PySem.W.kitOne K (.ref e7) (.ref e0) = some false)
    (kt7_1 : PySem.W.kitOne K (.ref e7) (.ref e1) = some false)
    (kt7_2 : PySem.W.kitOne K (.ref e7) (.ref e2) = some false)
    (kt7_3 : PySem.W.kitOne K (.ref e7) (.ref e3) = some false)
    (kt7_4 : PySem.W.kitOne K (.ref e7) (.ref e4) = some false)
    (kt7_5 : PySem.W.kitOne K (.ref e7) (.ref e5) = some false)
    (kt7_6 : PySem.W.kitOne K (.ref e7) (.ref e6) = some false)
    (kt7_7 : PySem.W.kitOne K (.ref e7) (.ref e7) = some true)
    (kt7_8 : PySem.W.kitOne K (.ref e7) (.ref e8) = some false)
    (kt7_9 : PySem.W.kitOne K (.ref e7) (.ref e9) = some false)
    (kt7_10 : PySem.W.kitOne K (.ref e7) (.ref e10) = some false)
    (gg8 : PySem.W.findIn K (.ref e8) "__getattribute__" = some (some (.builtin "BaseException.__getattribute__"))) (gh8 : PySem.W.findIn K (.ref e8) "__getattr__" = some none) (gd8 : PySem.W.hasDictIn K e8 = true) (gc8 : PySem.W.findIn K (.ref e8) "__class__" = some (some (.builtin "object.__class__"))) (gm8 : PySem.W.mroIn K e8 (.type "object") = some true) (gv8 : PySem.W.kitOne K (.ref e8) (.type "ValueError") = some true) (gz8 : PySem.W.subIn K (.ref e8) (.ref B) = some true)
    (kt8_0 : PySem.W.kitOne K (.ref e8) (.ref e0) = some false)
    (kt8_1 : PySem.W.kitOne K (.ref e8) (.ref e1) = some false)
    (kt8_2 : PySem.W.kitOne K (.ref e8) (.ref e2) = some false)
    (kt8_3 : PySem.W.kitOne K (.ref e8) (.ref e3) = some false)
    (kt8_4 : PySem.W.kitOne K (.ref e8) (.ref e4) = some false)
    (kt8_5 : PySem.W.kitOne K (.ref e8) (.ref e5) = some false)
    (kt8_6 : PySem.W.kitOne K (.ref e8) (.ref e6) = some false)
    (kt8_7 : PySem.W.kitOne K (.ref e8) (.ref e7) = some false)
    (kt8_8 : PySem.W.kitOne K (.ref e8) (.ref e8) = some true)
    (kt8_9 : PySem.W.kitOne K (.ref e8) (.ref e9) = some false)
    (kt8_10 : PySem.W.kitOne K (.ref e8) (.ref e10) = some false)
    (gg9 : PySem.W.findIn K (.ref e9) "__getattribute__" = some (some (.builtin "BaseException.__getattribute__"))) (gh9 : PySem.W.findIn K (.ref e9) "__getattr__" = some none) (gd9 : PySem.W.hasDictIn K e9 = true) (gc9 : PySem.W.findIn K (.ref e9) "__class__" = some (some (.builtin "object.__class__"))) (gm9 : PySem.W.mroIn K e9 (.type "object") = some true) (gv9 : PySem.W.kitOne K (.ref e9) (.type "ValueError") = some true) (gz9 : PySem.W.subIn K (.ref e9) (.ref B) = some true)
    (kt9_0 : PySem.W.kitOne K (.ref e9) (.ref e0) = some false)
    (kt9_1 : PySem.W.kitOne K (.ref e9) (.ref e1) = some false)
    (kt9_2 : PySem.W.kitOne K (.ref e9) (.ref e2) = some false)
    (kt9_3 : PySem.W.kitOne K (.ref e9) (.ref e3) = some false)
    (kt9_4 : PySem.W.kitOne K (.ref e9) (.ref e4) = some false)
    (kt9_5 : PySem.W.kitOne K (.ref e9) (.ref e5) = some false)
    (kt9_6 : PySem.W.kitOne K (.ref e9) (.ref e6) = some false)
    (kt9_7 : PySem.W.kitOne K (.ref e9) (.ref e7) = some false)
    (kt9_8 : PySem.W.kitOne K (.ref e9) (.ref e8) = some false)
    (kt9_9 : PySem.W.kitOne K (.ref e9) (.ref e9) = some true)
    (kt9_10 : PySem.W.kitOne K (.ref e9) (.ref e10) = some false)
    (gg10 : PySem.W.findIn K (.ref e10) "__getattribute__" = some (some (.builtin "BaseException.__getattribute__"))) (gh10 : PySem.W.findIn K (.ref e10) "__getattr__" = some none) (gd10 : PySem.W.hasDictIn K e10 = true) (gc10 : PySem.W.findIn K (.ref e10) "__class__" = some (some (.builtin "object.__class__"))) (gm10 : PySem.W.mroIn K e10 (.type "object") = some true) (gv10 : PySem.W.kitOne K (.ref e10) (.type "ValueError") = some true) (gz10 : PySem.W.subIn K (.ref e10) (.ref B) = some true)
    (kt10_0 : PySem.W.kitOne K (.ref e10) (.ref e0) = some false)
    (kt10_1 : PySem.W.kitOne K (.ref e10) (.ref e1) = some false)
    (kt10_2 : PySem.W.kitOne K (.ref e10) (.ref e2) = some false)
    (kt10_3 : PySem.W.kitOne K (.ref e10) (.ref e3) = some false)
    (kt10_4 : PySem.W.kitOne K (.ref e10) (.ref e4) = some false)
    (kt10_5 : PySem.W.kitOne K (.ref e10) (.ref e5) = some false)
    (kt10_6 : PySem.W.kitOne K (.ref e10) (.ref e6) = some false)
    (kt10_7 : PySem.W.kitOne K (.ref e10) (.ref e7) = some false)
    (kt10_8 : PySem.W.kitOne K (.ref e10) (.ref e8) = some false)
    (kt10_9 : PySem.W.kitOne K (.ref e10) (.ref e9) = some false)
    (kt10_10 : PySem.W.kitOne K (.ref e10) (.ref e10) = some true)
    : ∃ fd : FuncData, (∀ (s : Shared) (v : Value), BindsTo s fd ⟨[v], []⟩ [("script", v)]) ∧ ∀ base : Heap, K.In base → base.Ns mainGlobals mg → base.NoSeer → FnOk l.prog w K mg base (L2N.CX l.prog w) (dep + 33) fa fd ["script"] (lawSp K) := by
  have e := hfa.symm.trans (PySem.W.mg_of X G a448)
  cases e
  have F12 := fun_mk (st := s12) l12 c12 k12
  have b12 := F12.binds (ps := f12.ps) fun _ _ _ _ _ _ us hl => match us, hl with | [_], _ => rfl
  have F0 := fun_mk (st := s0) l0 c0 k0
  have b0 := F0.binds (ps := f0.ps) fun _ _ _ _ _ _ us hl => match us, hl with | [_, _], _ => rfl
  have F13 := fun_mk (st := s13) l13 c13 k13
  have b13 := F13.binds (ps := f13.ps) fun _ _ _ _ _ _ us hl => match us, hl with | [_], _ => rfl
  have F163 := fun_mk (st := s163) l163 c163 k163
  have b163 := F163.binds (ps := f163.ps) fun _ _ _ _ _ _ us hl => match us, hl with | [_, _, _], _ => rfl
  have F164 := fun_mk (st := s164) l164 c164 k164
  have b164 := F164.binds (ps := f164.ps) fun _ _ _ _ _ _ us hl => match us, hl with | [_, _, _, _], _ => rfl
  have F165 := fun_mk (st := s165) l165 c165 k165
  have b165 := F165.binds (ps := f165.ps) fun _ _ _ _ _ _ us hl => match us, hl with | [_], _ => rfl
  have F166 := fun_mk (st := s166) l166 c166 k166
  have b166 := F166.binds (ps := f166.ps) fun _ _ _ _ _ _ us hl => match us, hl with | [_], _ => rfl
  have F167 := fun_mk (st := s167) l167 c167 k167
  have b167 := F167.binds (ps := f167.ps) fun _ _ _ _ _ _ us hl => match us, hl with | [_, _, _], _ => rfl
  have F168 := fun_mk (st := s168) l168 c168 k168
  have b168 := F168.binds (ps := f168.ps) fun _ _ _ _ _ _ us hl => match us, hl with | [_], _ => rfl
  have F424 := fun_mk (st := s424) l424 c424 k424
  have b424 := F424.binds (ps := f424.ps) fun _ _ _ _ _ _ us hl => match us, hl with | [_, _], _ => rfl
  have F425 := fun_mk (st := s425) l425 c425 k425
  have b425 := F425.binds (ps := f425.ps) fun _ _ _ _ _ _ us hl => match us, hl with | [_, _], _ => rfl
  have F416 := fun_mk (st := s416) l416 c416 k416
  have b416 := F416.binds (ps := f416.ps) fun _ _ _ _ _ _ us hl => match us, hl with | [_], _ => rfl
  have F421 := fun_mk (st := s421) l421 c421 k421
  have b421 := F421.binds (ps := f421.ps) fun _ _ _ _ _ _ us hl => match us, hl with | [_], _ => rfl
  have F433 := fun_mk (st := s433) l433 c433 k433
  have b433 := F433.binds (ps := f433.ps) fun _ _ _ _ _ _ us hl => match us, hl with | [_], _ => rfl
  have F1 := fun_mk (st := s1) l1 c1 k1
  have b1 := F1.binds (ps := f1.ps) fun _ _ _ _ _ _ us hl => match us, hl with | [_, _], _ => rfl
  have F2 := fun_mk (st := s2) l2 c2 k2
  have b2 := F2.binds (ps := f2.ps) fun _ _ _ _ _ _ us hl => match us, hl with | [_, _], _ => rfl
  have F3 := fun_mk (st := s3) l3 c3 k3
  have b3 := F3.binds (ps := f3.ps) fun _ _ _ _ _ _ us hl => match us, hl with | [_, _], _ => rfl
  have F28 := fun_mk (st := s28) l28 c28 k28
  have b28 := F28.binds (ps := f28.ps) fun _ _ _ _ _ _ us hl => match us, hl with | [_], _ => rfl
  have F29 := fun_mk (st := s29) l29 c29 k29
  have b29 := F29.binds (ps := f29.ps) fun _ _ _ _ _ _ us hl => match us, hl with | [_, _], _ => rfl
  have F34 := fun_mk (st := s34) l34 c34 k34
  have b34 := F34.binds (ps := f34.ps) fun _ _ _ _ _ _ us hl => match us, hl with | [_], _ => rfl
  have F419 := fun_mk (st := s419) l419 c419 k419
  have b419 := F419.binds (ps := f419.ps) fun _ _ _ _ _ _ us hl => match us, hl with | [_], _ => rfl
  have F434 := fun_mk (st := s434) l434 c434 k434
  have b434 := F434.binds (ps := f434.ps) fun _ _ _ _ _ _ us hl => match us, hl with | [_], _ => rfl
  have F445 := fun_mk (st := s445) l445 c445 k445
  have b445 := F445.binds (ps := f445.ps) fun _ _ _ _ _ _ us hl => match us, hl with | [_], _ => rfl
  have F446 := fun_mk (st := s446) l446 c446 k446
  have b446 := F446.binds (ps := f446.ps) fun _ _ _ _ _ _ us hl => match us, hl with | [_], _ => rfl
  have F427 := fun_mk (st := s427) l427 c427 k427
  have b427 := F427.binds (ps := f427.ps) fun _ _ _ _ _ _ us hl => match us, hl with | [_, _, _], _ => rfl
  have F441 := fun_mk (st := s441) l441 c441 k441
  have b441 := F441.binds (ps := f441.ps) fun _ _ _ _ _ _ us hl => match us, hl with | [_, _, _], _ => rfl
  have F447 := fun_mk (st := s447) l447 c447 k447
  have b447 := F447.binds (ps := f447.ps) fun _ _ _ _ _ _ us hl => match us, hl with | [_], _ => rfl
  have F437 := fun_mk (st := s437) l437 c437 k437
  have b437 := F437.binds (ps := f437.ps) fun _ _ _ _ _ _ us hl => match us, hl with | [_], _ => rfl
  have F442 := fun_mk (st := s442) l442 c442 k442
  have b442 := F442.binds (ps := f442.ps) fun _ _ _ _ _ _ us hl => match us, hl with | [_, _], _ => rfl
  have F448 := fun_mk (st := s448) l448 c448 k448
  have b448 := F448.binds (ps := f448.ps) fun _ _ _ _ _ _ us hl => match us, hl with | [_], _ => rfl
  have FK := fun_mk (st := sK) lK cK kK
  have bK := FK.binds (ps := ["e"]) fun _ _ _ _ _ _ us hl => match us, hl with | [_], _ => rfl
  have T : ∀ base : Heap, base.NoSeer → Tab (fun c => if c = 0 then .ref e0 else if c = 1 then .ref e1 else if c = 2 then .ref e2 else if c = 3 then .ref e3 else if c = 4 then .ref e4 else if c = 5 then .ref e5 else if c = 6 then .ref e6 else if c = 7 then .ref e7 else if c = 8 then .ref e8 else if c = 9 then .ref e9 else if c = 10 then .ref e10 else .none) l.prog w K mg base fns gv nm := by
    intro base sr
    refine ⟨fun f => ⟨rfl, rfl⟩, fun f F hf => ?_, fun k x hx => ?_, fun x hx => ?_, fun c x hx => ?_, fun hk => ?_, sr, tr0⟩
    · unfold fns at hf
      split at hf
      · cases hf; exact ⟨_, _, _, PySem.W.mg_of X G a12, F12, b12, sc12, by decide, ok12⟩
      · cases hf; exact ⟨_, _, _, PySem.W.mg_of X G a0, F0, b0, sc0, by decide, ok0⟩
      · cases hf; exact ⟨_, _, _, PySem.W.mg_of X G a13, F13, b13, sc13, by decide, ok13⟩
      · cases hf; exact ⟨_, _, _, PySem.W.mg_of X G a163, F163, b163, sc163, by decide, ok163⟩
      · cases hf; exact ⟨_, _, _, PySem.W.mg_of X G a164, F164, b164, sc164, by decide, ok164⟩
      · cases hf; exact ⟨_, _, _, PySem.W.mg_of X G a165, F165, b165, sc165, by decide, ok165⟩
      · cases hf; exact ⟨_, _, _, PySem.W.mg_of X G a166, F166, b166, sc166, by decide, ok166⟩
      · cases hf; exact ⟨_, _, _, PySem.W.mg_of X G a167, F167, b167, sc167, by decide, ok167⟩
      · cases hf; exact ⟨_, _, _, PySem.W.mg_of X G a168, F168, b168, sc168, by decide, ok168⟩
      · cases hf; exact ⟨_, _, _, PySem.W.mg_of X G a424, F424, b424, sc424, by decide, ok424⟩
      · cases hf; exact ⟨_, _, _, PySem.W.mg_of X G a425, F425, b425, sc425, by decide, ok425⟩
      · cases hf; exact ⟨_, _, _, PySem.W.mg_of X G a416, F416, b416, sc416, by decide, ok416⟩
      · cases hf; exact ⟨_, _, _, PySem.W.mg_of X G a421, F421, b421, sc421, by decide, ok421⟩
      · cases hf; exact ⟨_, _, _, PySem.W.mg_of X G a433, F433, b433, sc433, by decide, ok433⟩
      · cases hf; exact ⟨_, _, _, PySem.W.mg_of X G a1, F1, b1, sc1, by decide, ok1⟩
      · cases hf; exact ⟨_, _, _, PySem.W.mg_of X G a2, F2, b2, sc2, by decide, ok2⟩
      · cases hf; exact ⟨_, _, _, PySem.W.mg_of X G a3, F3, b3, sc3, by decide, ok3⟩
      · cases hf; exact ⟨_, _, _, PySem.W.mg_of X G a28, F28, b28, sc28, by decide, ok28⟩
      · cases hf; exact ⟨_, _, _, PySem.W.mg_of X G a29, F29, b29, sc29, by decide, ok29⟩
      · cases hf; exact ⟨_, _, _, PySem.W.mg_of X G a34, F34, b34, sc34, by decide, ok34⟩
      · cases hf; exact ⟨_, _, _, PySem.W.mg_of X G a419, F419, b419, sc419, by decide, ok419⟩
      · cases hf; exact ⟨_, _, _, PySem.W.mg_of X G a434, F434, b434, sc434, by decide, ok434⟩
      · cases hf; exact ⟨_, _, _, PySem.W.mg_of X G a445, F445, b445, sc445, by decide, ok445⟩
      · cases hf; exact ⟨_, _, _, PySem.W.mg_of X G a446, F446, b446, sc446, by decide, ok446⟩
      · cases hf; exact ⟨_, _, _, PySem.W.mg_of X G a427, F427, b427, sc427, by decide, ok427⟩
      · cases hf; exact ⟨_, _, _, PySem.W.mg_of X G a441, F441, b441, sc441, by decide, ok441⟩
      · cases hf; exact ⟨_, _, _, PySem.W.mg_of X G a447, F447, b447, sc447, by decide, ok447⟩
      · cases hf; exact ⟨_, _, _, PySem.W.mg_of X G a437, F437, b437, sc437, by decide, ok437⟩
      · cases hf; exact ⟨_, _, _, PySem.W.mg_of X G a442, F442, b442, sc442, by decide, ok442⟩
      · cases hf; exact ⟨_, _, _, PySem.W.mg_of X G a448, F448, b448, sc448, by decide, ok448⟩
      · cases hf
    · unfold gv at hx
      split at hx
      · cases hx; exact ⟨.int 6, _, PySem.W.mg_of X G v2, (show RelV (.int 6) _ from ⟨_, rfl⟩), fun _ => .int _⟩
      · cases hx; exact ⟨.int 60, _, PySem.W.mg_of X G v3, (show RelV (.int 60) _ from ⟨_, rfl⟩), fun _ => .int _⟩
      · cases hx; exact ⟨.int 100, _, PySem.W.mg_of X G v4, (show RelV (.int 100) _ from ⟨_, rfl⟩), fun _ => .int _⟩
      · cases hx; exact ⟨.int 1000000, _, PySem.W.mg_of X G v5, (show RelV (.int 1000000) _ from ⟨_, rfl⟩), fun _ => .int _⟩
      · cases hx; exact ⟨.str "0123456789", _, PySem.W.mg_of X G v7, (show RelV (.str "0123456789") _ from ⟨_, rfl⟩), fun _ => .str _⟩
      · cases hx; exact ⟨.int 9, _, PySem.W.mg_of X G v8, (show RelV (.int 9) _ from ⟨_, rfl⟩), fun _ => .int _⟩
      · cases hx
    · simp only [bnames, List.mem_cons, List.not_mem_nil, or_false] at hx
      rcases hx with rfl | rfl | rfl | rfl | rfl | rfl | rfl | rfl | rfl | rfl | rfl | rfl | rfl | rfl | rfl | rfl | rfl | rfl
      · exact PySem.W.mg_none_of X G z0
      · exact PySem.W.mg_none_of X G z1
      · exact PySem.W.mg_none_of X G z2
      · exact PySem.W.mg_none_of X G z3
      · exact PySem.W.mg_none_of X G z4
      · exact PySem.W.mg_none_of X G z5
      · exact PySem.W.mg_none_of X G z6
      · exact PySem.W.mg_none_of X G z7
      · exact PySem.W.mg_none_of X G z8
      · exact PySem.W.mg_none_of X G z9
      · exact PySem.W.mg_none_of X G z10
      · exact PySem.W.mg_none_of X G z11
      · exact PySem.W.mg_none_of X G z12
      · exact PySem.W.mg_none_of X G z13
      · exact PySem.W.mg_none_of X G z14
      · exact PySem.W.mg_none_of X G z15
      · exact PySem.W.mg_none_of X G z16
      · exact PySem.W.mg_none_of X G z17
    · have hx : en c = some x := hx
      unfold en at hx
      split at hx
      · cases hx; exact ⟨e0, rfl, PySem.W.mg_of X G ga0, gx0, gk0, gb0, gt0⟩
      · cases hx; exact ⟨e1, rfl, PySem.W.mg_of X G ga1, gx1, gk1, gb1, gt1⟩
      · cases hx; exact ⟨e2, rfl, PySem.W.mg_of X G ga2, gx2, gk2, gb2, gt2⟩
      · cases hx; exact ⟨e3, rfl, PySem.W.mg_of X G ga3, gx3, gk3, gb3, gt3⟩
      · cases hx; exact ⟨e4, rfl, PySem.W.mg_of X G ga4, gx4, gk4, gb4, gt4⟩
      · cases hx; exact ⟨e5, rfl, PySem.W.mg_of X G ga5, gx5, gk5, gb5, gt5⟩
      · cases hx; exact ⟨e6, rfl, PySem.W.mg_of X G ga6, gx6, gk6, gb6, gt6⟩
      · cases hx; exact ⟨e7, rfl, PySem.W.mg_of X G ga7, gx7, gk7, gb7, gt7⟩
      · cases hx; exact ⟨e8, rfl, PySem.W.mg_of X G ga8, gx8, gk8, gb8, gt8⟩
      · cases hx; exact ⟨e9, rfl, PySem.W.mg_of X G ga9, gx9, gk9, gb9, gt9⟩
      · cases hx; exact ⟨e10, rfl, PySem.W.mg_of X G ga10, gx10, gk10, gb10, gt10⟩
      · cases hx
    · refine ⟨⟨gK, _, PySem.W.mg_of X G aK, kK, bK, fun c x hx => ?_⟩, B, PySem.W.mg_of X G aB, fun c x hx => ?_⟩
      · match c, hx with
        | 0, h =>
          cases h
          refine kinds_fn FK kSc_eq kB_eq (by decide +kernel) ⟨gg0, gh0, gb0, gd0, gc0, hnK, htK, gm0⟩ (by decide) (fun y hy => ?_) ⟨PySem.W.mg_none_of X G vE, gv0⟩ ⟨PySem.W.mg_none_of X G z11, PySem.W.mg_none_of X G z12⟩
          simp only [kNames, List.mem_cons, List.not_mem_nil, or_false] at hy
          rcases hy with rfl | rfl | rfl | rfl | rfl | rfl | rfl | rfl | rfl | rfl | rfl
          · exact ⟨e3, PySem.W.mg_of X G ga3, kt0_3.trans (by decide)⟩
          · exact ⟨e5, PySem.W.mg_of X G ga5, kt0_5.trans (by decide)⟩
          · exact ⟨e8, PySem.W.mg_of X G ga8, kt0_8.trans (by decide)⟩
          · exact ⟨e6, PySem.W.mg_of X G ga6, kt0_6.trans (by decide)⟩
          · exact ⟨e1, PySem.W.mg_of X G ga1, kt0_1.trans (by decide)⟩
          · exact ⟨e0, PySem.W.mg_of X G ga0, kt0_0.trans (by decide)⟩
          · exact ⟨e2, PySem.W.mg_of X G ga2, kt0_2.trans (by decide)⟩
          · exact ⟨e10, PySem.W.mg_of X G ga10, kt0_10.trans (by decide)⟩
          · exact ⟨e9, PySem.W.mg_of X G ga9, kt0_9.trans (by decide)⟩
          · exact ⟨e7, PySem.W.mg_of X G ga7, kt0_7.trans (by decide)⟩
          · exact ⟨e4, PySem.W.mg_of X G ga4, kt0_4.trans (by decide)⟩
        | 1, h =>
          cases h
          refine kinds_fn FK kSc_eq kB_eq (by decide +kernel) ⟨gg1, gh1, gb1, gd1, gc1, hnK, htK, gm1⟩ (by decide) (fun y hy => ?_) ⟨PySem.W.mg_none_of X G vE, gv1⟩ ⟨PySem.W.mg_none_of X G z11, PySem.W.mg_none_of X G z12⟩
          simp only [kNames, List.mem_cons, List.not_mem_nil, or_false] at hy
          rcases hy with rfl | rfl | rfl | rfl | rfl | rfl | rfl | rfl | rfl | rfl | rfl
          · exact ⟨e3, PySem.W.mg_of X G ga3, kt1_3.trans (by decide)⟩
          · exact ⟨e5, PySem.W.mg_of X G ga5, kt1_5.trans (by decide)⟩
          · exact ⟨e8, PySem.W.mg_of X G ga8, kt1_8.trans (by decide)⟩
          · exact ⟨e6, PySem.W.mg_of X G ga6, kt1_6.trans (by decide)⟩
          · exact ⟨e1, PySem.W.mg_of X G ga1, kt1_1.trans (by decide)⟩
          · exact ⟨e0, PySem.W.mg_of X G ga0, kt1_0.trans (by decide)⟩
          · exact ⟨e2, PySem.W.mg_of X G ga2, kt1_2.trans (by decide)⟩
          · exact ⟨e10, PySem.W.mg_of X G ga10, kt1_10.trans (by decide)⟩
          · exact ⟨e9, PySem.W.mg_of X G ga9, kt1_9.trans (by decide)⟩
          · exact ⟨e7, PySem.W.mg_of X G ga7, kt1_7.trans (by decide)⟩
          · exact ⟨e4, PySem.W.mg_of X G ga4, kt1_4.trans (by decide)⟩
        | 2, h =>
          cases h
          refine kinds_fn FK kSc_eq kB_eq (by decide +kernel) ⟨gg2, gh2, gb2, gd2, gc2, hnK, htK, gm2⟩ (by decide) (fun y hy => ?_) ⟨PySem.W.mg_none_of X G vE, gv2⟩ ⟨PySem.W.mg_none_of X G z11, PySem.W.mg_none_of X G z12⟩
          simp only [kNames, List.mem_cons, List.not_mem_nil, or_false] at hy
          rcases hy with rfl | rfl | rfl | rfl | rfl | rfl | rfl | rfl | rfl | rfl | rfl
          · exact ⟨e3, PySem.W.mg_of X G ga3, kt2_3.trans (by decide)⟩
          · exact ⟨e5, PySem.W.mg_of X G ga5, kt2_5.trans (by decide)⟩
          · exact ⟨e8, PySem.W.mg_of X G ga8, kt2_8.trans (by decide)⟩
          · exact ⟨e6, PySem.W.mg_of X G ga6, kt2_6.trans (by decide)⟩
          · exact ⟨e1, PySem.W.mg_of X G ga1, kt2_1.trans (by decide)⟩
          · exact ⟨e0, PySem.W.mg_of X G ga0, kt2_0.trans (by decide)⟩
          · exact ⟨e2, PySem.W.mg_of X G ga2, kt2_2.trans (by decide)⟩
          · exact ⟨e10, PySem.W.mg_of X G ga10, kt2_10.trans (by decide)⟩
          · exact ⟨e9, PySem.W.mg_of X G ga9, kt2_9.trans (by decide)⟩
          · exact ⟨e7, PySem.W.mg_of X G ga7, kt2_7.trans (by decide)⟩
          · exact ⟨e4, PySem.W.mg_of X G ga4, kt2_4.trans (by decide)⟩
        | 3, h =>
          cases h
          refine kinds_fn FK kSc_eq kB_eq (by decide +kernel) ⟨gg3, gh3, gb3, gd3, gc3, hnK, htK, gm3⟩ (by decide) (fun y hy => ?_) ⟨PySem.W.mg_none_of X G vE, gv3⟩ ⟨PySem.W.mg_none_of X G z11, PySem.W.mg_none_of X G z12⟩
          simp only [kNames, List.mem_cons, List.not_mem_nil, or_false] at hy
          rcases hy with rfl | rfl | rfl | rfl | rfl | rfl | rfl | rfl | rfl | rfl | rfl
          · exact ⟨e3, PySem.W.mg_of X G ga3, kt3_3.trans (by decide)⟩
          · exact ⟨e5, PySem.W.mg_of X G ga5, kt3_5.trans (by decide)⟩
          · exact ⟨e8, PySem.W.mg_of X G ga8, kt3_8.trans (by decide)⟩
          · exact ⟨e6, PySem.W.mg_of X G ga6, kt3_6.trans (by decide)⟩
          · exact ⟨e1, PySem.W.mg_of X G ga1, kt3_1.trans (by decide)⟩
          · exact ⟨e0, PySem.W.mg_of X G ga0, kt3_0.trans (by decide)⟩
          · exact ⟨e2, PySem.W.mg_of X G ga2, kt3_2.trans (by decide)⟩
          · exact ⟨e10, PySem.W.mg_of X G ga10, kt3_10.trans (by decide)⟩
          · exact ⟨e9, PySem.W.mg_of X G ga9, kt3_9.trans (by decide)⟩
          · exact ⟨e7, PySem.W.mg_of X G ga7, kt3_7.trans (by decide)⟩
          · exact ⟨e4, PySem.W.mg_of X G ga4, kt3_4.trans (by decide)⟩
        | 4, h =>
          cases h
          refine kinds_fn FK kSc_eq kB_eq (by decide +kernel) ⟨gg4, gh4, gb4, gd4, gc4, hnK, htK, gm4⟩ (by decide) (fun y hy => ?_) ⟨PySem.W.mg_none_of X G vE, gv4⟩ ⟨PySem.W.mg_none_of X G z11, PySem.W.mg_none_of X G z12⟩
          simp only [kNames, List.mem_cons, List.not_mem_nil, or_false] at hy
          rcases hy with rfl | rfl | rfl | rfl | rfl | rfl | rfl | rfl | rfl | rfl | rfl
          · exact ⟨e3, PySem.W.mg_of X G ga3, kt4_3.trans (by decide)⟩
          · exact ⟨e5, PySem.W.mg_of X G ga5, kt4_5.trans (by decide)⟩
          · exact ⟨e8, PySem.W.mg_of X G ga8, kt4_8.trans (by decide)⟩
          · exact ⟨e6, PySem.W.mg_of X G ga6, kt4_6.trans (by decide)⟩
          · exact ⟨e1, PySem.W.mg_of X G ga1, kt4_1.trans (by decide)⟩
          · exact ⟨e0, PySem.W.mg_of X G ga0, kt4_0.trans (by decide)⟩
          · exact ⟨e2, PySem.W.mg_of X G ga2, kt4_2.trans (by decide)⟩
          · exact ⟨e10, PySem.W.mg_of X G ga10, kt4_10.trans (by decide)⟩
          · exact ⟨e9, PySem.W.mg_of X G ga9, kt4_9.trans (by decide)⟩
          · exact ⟨e7, PySem.W.mg_of X G ga7, kt4_7.trans (by decide)⟩
          · exact ⟨e4, PySem.W.mg_of X G ga4, kt4_4.trans (by decide)⟩
        | 5, h =>
          cases h
          refine kinds_fn FK kSc_eq kB_eq (by decide +kernel) ⟨gg5, gh5, gb5, gd5, gc5, hnK, htK, gm5⟩ (by decide) (fun y hy => ?_) ⟨PySem.W.mg_none_of X G vE, gv5⟩ ⟨PySem.W.mg_none_of X G z11, PySem.W.mg_none_of X G z12⟩
          simp only [kNames, List.mem_cons, List.not_mem_nil, or_false] at hy
          rcases hy with rfl | rfl | rfl | rfl | rfl | rfl | rfl | rfl | rfl | rfl | rfl
          · exact ⟨e3, PySem.W.mg_of X G ga3, kt5_3.trans (by decide)⟩
          · exact ⟨e5, PySem.W.mg_of X G ga5, kt5_5.trans (by decide)⟩
          · exact ⟨e8, PySem.W.mg_of X G ga8, kt5_8.trans (by decide)⟩
          · exact ⟨e6, PySem.W.mg_of X G ga6, kt5_6.trans (by decide)⟩
          · exact ⟨e1, PySem.W.mg_of X G ga1, kt5_1.trans (by decide)⟩
          · exact ⟨e0, PySem.W.mg_of X G ga0, kt5_0.trans (by decide)⟩
          · exact ⟨e2, PySem.W.mg_of X G ga2, kt5_2.trans (by decide)⟩
          · exact ⟨e10, PySem.W.mg_of X G ga10, kt5_10.trans (by decide)⟩
          · exact ⟨e9, PySem.W.mg_of X G ga9, kt5_9.trans (by decide)⟩
          · exact ⟨e7, PySem.W.mg_of X G ga7, kt5_7.trans (by decide)⟩
          · exact ⟨e4, PySem.W.mg_of X G ga4, kt5_4.trans (by decide)⟩
        | 6, h =>
          cases h
          refine kinds_fn FK kSc_eq kB_eq (by decide +kernel) ⟨gg6, gh6, gb6, gd6, gc6, hnK, htK, gm6⟩ (by decide) (fun y hy => ?_) ⟨PySem.W.mg_none_of X G vE, gv6⟩ ⟨PySem.W.mg_none_of X G z11, PySem.W.mg_none_of X G z12⟩
          simp only [kNames, List.mem_cons, List.not_mem_nil, or_false] at hy
          rcases hy with rfl | rfl | rfl | rfl | rfl | rfl | rfl | rfl | rfl | rfl | rfl
          · exact ⟨e3, PySem.W.mg_of X G ga3, kt6_3.trans (by decide)⟩
          · exact ⟨e5, PySem.W.mg_of X G ga5, kt6_5.trans (by decide)⟩
          · exact ⟨e8, PySem.W.mg_of X G ga8, kt6_8.trans (by decide)⟩
          · exact ⟨e6, PySem.W.mg_of X G ga6, kt6_6.trans (by decide)⟩
          · exact ⟨e1, PySem.W.mg_of X G ga1, kt6_1.trans (by decide)⟩
          · exact ⟨e0, PySem.W.mg_of X G ga0, kt6_0.trans (by decide)⟩
          · exact ⟨e2, PySem.W.mg_of X G ga2, kt6_2.trans (by decide)⟩
          · exact ⟨e10, PySem.W.mg_of X G ga10, kt6_10.trans (by decide)⟩
          · exact ⟨e9, PySem.W.mg_of X G ga9, kt6_9.trans (by decide)⟩
          · exact ⟨e7, PySem.W.mg_of X G ga7, kt6_7.trans (by decide)⟩
          · exact ⟨e4, PySem.W.mg_of X G ga4, kt6_4.trans (by decide)⟩
        | 7, h =>
          cases h
          refine kinds_fn FK kSc_eq kB_eq (by decide +kernel) ⟨gg7, gh7, gb7, gd7, gc7, hnK, htK, gm7⟩ (by decide) (fun y hy => ?_) ⟨PySem.W.mg_none_of X G vE, gv7⟩ ⟨PySem.W.mg_none_of X G z11, PySem.W.mg_none_of X G z12⟩
          simp only [kNames, List.mem_cons, List.not_mem_nil, or_false] at hy
          rcases hy with rfl | rfl | rfl | rfl | rfl | rfl | rfl | rfl | rfl | rfl | rfl
          · exact ⟨e3, PySem.W.mg_of X G ga3, kt7_3.trans (by decide)⟩
          · exact ⟨e5, PySem.W.mg_of X G ga5, kt7_5.trans (by decide)⟩
          · exact ⟨e8, PySem.W.mg_of X G ga8, kt7_8.trans (by decide)⟩
          · exact ⟨e6, PySem.W.mg_of X G ga6, kt7_6.trans (by decide)⟩
          · exact ⟨e1, PySem.W.mg_of X G ga1, kt7_1.trans (by decide)⟩
          · exact ⟨e0, PySem.W.mg_of X G ga0, kt7_0.trans (by decide)⟩
          · exact ⟨e2, PySem.W.mg_of X G ga2, kt7_2.trans (by decide)⟩
          · exact ⟨e10, PySem.W.mg_of X G ga10, kt7_10.trans (by decide)⟩
          · exact ⟨e9, PySem.W.mg_of X G ga9, kt7_9.trans (by decide)⟩
          · exact ⟨e7, PySem.W.mg_of X G ga7, kt7_7.trans (by decide)⟩
          · exact ⟨e4, PySem.W.mg_of X G ga4, kt7_4.trans (by decide)⟩
        | 8, h =>
          cases h
          refine kinds_fn FK kSc_eq kB_eq (by decide +kernel) ⟨gg8, gh8, gb8, gd8, gc8, hnK, htK, gm8⟩ (by decide) (fun y hy => ?_) ⟨PySem.W.mg_none_of X G vE, gv8⟩ ⟨PySem.W.mg_none_of X G z11, PySem.W.mg_none_of X G z12⟩
          simp only [kNames, List.mem_cons, List.not_mem_nil, or_false] at hy
          rcases hy with rfl | rfl | rfl | rfl | rfl | rfl | rfl | rfl | rfl | rfl | rfl
          · exact ⟨e3, PySem.W.mg_of X G ga3, kt8_3.trans (by decide)⟩
          · exact ⟨e5, PySem.W.mg_of X G ga5, kt8_5.trans (by decide)⟩
          · exact ⟨e8, PySem.W.mg_of X G ga8, kt8_8.trans (by decide)⟩
          · exact ⟨e6, PySem.W.mg_of X G ga6, kt8_6.trans (by decide)⟩
          · exact ⟨e1, PySem.W.mg_of X G ga1, kt8_1.trans (by decide)⟩
          · exact ⟨e0, PySem.W.mg_of X G ga0, kt8_0.trans (by decide)⟩
          · exact ⟨e2, PySem.W.mg_of X G ga2, kt8_2.trans (by decide)⟩
          · exact ⟨e10, PySem.W.mg_of X G ga10, kt8_10.trans (by decide)⟩
          · exact ⟨e9, PySem.W.mg_of X G ga9, kt8_9.trans (by decide)⟩
          · exact ⟨e7, PySem.W.mg_of X G ga7, kt8_7.trans (by decide)⟩
          · exact ⟨e4, PySem.W.mg_of X G ga4, kt8_4.trans (by decide)⟩
        | 9, h =>
          cases h
          refine kinds_fn FK kSc_eq kB_eq (by decide +kernel) ⟨gg9, gh9, gb9, gd9, gc9, hnK, htK, gm9⟩ (by decide) (fun y hy => ?_) ⟨PySem.W.mg_none_of X G vE, gv9⟩ ⟨PySem.W.mg_none_of X G z11, PySem.W.mg_none_of X G z12⟩
          simp only [kNames, List.mem_cons, List.not_mem_nil, or_false] at hy
          rcases hy with rfl | rfl | rfl | rfl | rfl | rfl | rfl | rfl | rfl | rfl | rfl
          · exact ⟨e3, PySem.W.mg_of X G ga3, kt9_3.trans (by decide)⟩
          · exact ⟨e5, PySem.W.mg_of X G ga5, kt9_5.trans (by decide)⟩
          · exact ⟨e8, PySem.W.mg_of X G ga8, kt9_8.trans (by decide)⟩
          · exact ⟨e6, PySem.W.mg_of X G ga6, kt9_6.trans (by decide)⟩
          · exact ⟨e1, PySem.W.mg_of X G ga1, kt9_1.trans (by decide)⟩
          · exact ⟨e0, PySem.W.mg_of X G ga0, kt9_0.trans (by decide)⟩
          · exact ⟨e2, PySem.W.mg_of X G ga2, kt9_2.trans (by decide)⟩
          · exact ⟨e10, PySem.W.mg_of X G ga10, kt9_10.trans (by decide)⟩
          · exact ⟨e9, PySem.W.mg_of X G ga9, kt9_9.trans (by decide)⟩
          · exact ⟨e7, PySem.W.mg_of X G ga7, kt9_7.trans (by decide)⟩
          · exact ⟨e4, PySem.W.mg_of X G ga4, kt9_4.trans (by decide)⟩
        | 10, h =>
          cases h
          refine kinds_fn FK kSc_eq kB_eq (by decide +kernel) ⟨gg10, gh10, gb10, gd10, gc10, hnK, htK, gm10⟩ (by decide) (fun y hy => ?_) ⟨PySem.W.mg_none_of X G vE, gv10⟩ ⟨PySem.W.mg_none_of X G z11, PySem.W.mg_none_of X G z12⟩
          simp only [kNames, List.mem_cons, List.not_mem_nil, or_false] at hy
          rcases hy with rfl | rfl | rfl | rfl | rfl | rfl | rfl | rfl | rfl | rfl | rfl
          · exact ⟨e3, PySem.W.mg_of X G ga3, kt10_3.trans (by decide)⟩
          · exact ⟨e5, PySem.W.mg_of X G ga5, kt10_5.trans (by decide)⟩
          · exact ⟨e8, PySem.W.mg_of X G ga8, kt10_8.trans (by decide)⟩
          · exact ⟨e6, PySem.W.mg_of X G ga6, kt10_6.trans (by decide)⟩
          · exact ⟨e1, PySem.W.mg_of X G ga1, kt10_1.trans (by decide)⟩
          · exact ⟨e0, PySem.W.mg_of X G ga0, kt10_0.trans (by decide)⟩
          · exact ⟨e2, PySem.W.mg_of X G ga2, kt10_2.trans (by decide)⟩
          · exact ⟨e10, PySem.W.mg_of X G ga10, kt10_10.trans (by decide)⟩
          · exact ⟨e9, PySem.W.mg_of X G ga9, kt10_9.trans (by decide)⟩
          · exact ⟨e7, PySem.W.mg_of X G ga7, kt10_7.trans (by decide)⟩
          · exact ⟨e4, PySem.W.mg_of X G ga4, kt10_4.trans (by decide)⟩
      · match c, hx with
        | 0, h => exact PySem.W.exm_ref bB dB tB gz0
        | 1, h => exact PySem.W.exm_ref bB dB tB gz1
        | 2, h => exact PySem.W.exm_ref bB dB tB gz2
        | 3, h => exact PySem.W.exm_ref bB dB tB gz3
        | 4, h => exact PySem.W.exm_ref bB dB tB gz4
        | 5, h => exact PySem.W.exm_ref bB dB tB gz5
        | 6, h => exact PySem.W.exm_ref bB dB tB gz6
        | 7, h => exact PySem.W.exm_ref bB dB tB gz7
        | 8, h => exact PySem.W.exm_ref bB dB tB gz8
        | 9, h => exact PySem.W.exm_ref bB dB tB gz9
        | 10, h => exact PySem.W.exm_ref bB dB tB gz10
  exact ⟨_, fun s v => .of_eq rfl, fun base _ _ sr => (tab_fn (T base sr) dep 448 f448 rfl _ _ _ F448 sc448 (by decide) ok448).imp fun vs H Q E h => law_weak lt h⟩
end WMk

namespace WMk
open PySem L2 WM
structure Bg where
  a : Int
  b : Int
  ha : 0 ≤ a
  hb : 0 ≤ b ∧ b < 2147483647
abbrev bagL (x : Bg) : Ow := .l [.d (.int x.a), .d (.int x.b)]
def nxb (b : Int) : Int := (b * 48271).fmod 2147483647
theorem fmod_rng {a m : Int} (h : 0 < m) : 0 ≤ a.fmod m ∧ a.fmod m < m := ⟨Int.fmod_nonneg_of_pos a h, Int.fmod_lt_of_pos a h⟩
theorem fdiv_nn {a m : Int} (h0 : 0 ≤ a) (h : 0 < m) : 0 ≤ a.fdiv m := by
  rw [Int.fdiv_eq_ediv_of_nonneg _ (by omega)]
  exact Int.ediv_nonneg h0 (by omega)
def Bg.tk (x : Bg) (m : Int) : Int :=
  if 0 < x.a then x.a.fmod m else ((((nxb x.b).fdiv 13 * ((nxb x.b).fmod 32749 + 17)).fmod 2147483629).fdiv 32).fmod m
def tkM (m : Int) : Bool := decide (1 ≤ m) && decide (m < 10000000000000000000000000000000)
theorem tkM_pos {m : Int} (h : tkM m = true) : 1 ≤ m ∧ m < 10000000000000000000000000000000 := by
  unfold tkM at h
  simpa using h
def Bg.nx (x : Bg) (m : Int) : Bg :=
  if h : 0 < x.a ∧ tkM m = true then ⟨x.a.fdiv m, x.b, fdiv_nn x.ha (by have := tkM_pos h.2; omega), x.hb⟩
  else ⟨x.a, nxb x.b, x.ha, fmod_rng (by omega)⟩
theorem Bg.tk_rng (x : Bg) {m : Int} (h : tkM m = true) : 0 ≤ x.tk m ∧ x.tk m < m := by
  have := tkM_pos h
  unfold Bg.tk
  split <;> exact fmod_rng (by omega)
theorem mul64 {i j : Int} (h1 : 0 ≤ i) (h2 : i < 2 ^ 63) (h3 : 0 ≤ j) (h4 : j < 2 ^ 63) : MulOk i j := MulOk.s64 (by omega) (by omega)
theorem div_of {j : Int} (h1 : 1 ≤ j) (h2 : j < 10000000000000000000000000000000) : DivOk j := DivOk.pos h1 (by
  have e : (2 : Nat) ^ 120 ≤ 2 ^ 8999 := Nat.pow_le_pow_right (by omega) (by omega)
  have : (2 : Nat) ^ 120 = 1329227995784915872903807060280344576 := by decide
  omega)
section
variable {fns : Nat → Option IFn} {gv : Nat → Option D}
theorem take_eq [HasF fns 2 f2] (d : Nat) (x : Bg) (m : Int) (hm : tkM m = true) : cs fns gv (d + 1) 2 [.r (bagL x), .v (dv (.int m))] = .ok (.d (.int (x.tk m))) [bagL (x.nx m)] := by
  obtain ⟨m1, m2⟩ := tkM_pos hm
  have hd := div_of m1 m2
  have h0 : m ≠ 0 := by omega
  rw [r2]
  obtain ⟨a, b, ha, hb⟩ := x
  by_cases hp : 0 < a
  · simp_arith [f2, bagL, hp, hd, h0, decide_true, Bg.tk, Bg.nx, hm, and_self, dite_true, c2_0]
  · have hn := fmod_rng (a := b * 48271) (m := 2147483647) (by omega)
    have e : nxb b = (b * 48271).fmod 2147483647 := rfl
    rw [← e] at hn
    have k1 : MulOk b 48271 := mul64 hb.1 (by omega) (by omega) (by omega)
    have k2 : DivOk 13 := div_of (by omega) (by omega)
    have k3 : DivOk 32 := div_of (by omega) (by omega)
    have g1 := fmod_rng (a := nxb b) (m := 32749) (by omega)
    have g2 : 0 ≤ (nxb b).fdiv 13 := fdiv_nn hn.1 (by omega)
    have g3 : (nxb b).fdiv 13 < 2147483647 := by
      rw [Int.fdiv_eq_ediv_of_nonneg _ (by omega)]; omega
    have k4 : MulOk ((nxb b).fdiv 13) ((nxb b).fmod 32749 + 17) := mul64 g2 (by omega) (by omega) (by omega)
    have hp' : decide (0 < a) = false := decide_eq_false hp
    rw [e] at k4
    simp_arith [f2, bagL, hp', hp, hd, h0, k1, k2, k3, k4, Bg.tk, Bg.nx, false_and, dite_false, nxb, c2_0]
def gcdI (a b : Int) : Int := ((Nat.gcd a.natAbs b.natAbs : Nat) : Int)
theorem fmod_lt_abs {x y : Int} (h : y ≠ 0) : (x.fmod y).natAbs < y.natAbs := by
  rcases Int.lt_or_gt_of_ne h with h | h
  · have e := Int.neg_fmod_neg (-x) (-y)
    have e2 : (x.fmod y) = -((-x).fmod (-y)) := by
      have := Int.neg_fmod_neg x y
      omega
    have := fmod_rng (a := -x) (m := -y) (by omega)
    omega
  · have := fmod_rng (a := x) (m := y) h
    omega
theorem gcd_step (x y : Int) : Nat.gcd y.natAbs (x.fmod y).natAbs = Nat.gcd x.natAbs y.natAbs := by
  have e : x.fmod y = x - y * x.fdiv y := Int.fmod_def x y
  refine Nat.dvd_antisymm (Nat.dvd_gcd ?_ (Nat.gcd_dvd_left _ _)) (Nat.dvd_gcd (Nat.gcd_dvd_right _ _) ?_)
  · have h1 : ((Nat.gcd y.natAbs (x.fmod y).natAbs : Nat) : Int) ∣ y := Int.ofNat_dvd_left.mpr (Nat.gcd_dvd_left _ _)
    have h2 : ((Nat.gcd y.natAbs (x.fmod y).natAbs : Nat) : Int) ∣ x.fmod y := Int.ofNat_dvd_left.mpr (Nat.gcd_dvd_right _ _)
    refine Int.ofNat_dvd_left.mp ?_
    have e2 : x.fmod y + y * x.fdiv y = x := by omega
    have := Int.dvd_add h2 (Int.dvd_mul_of_dvd_left (c := x.fdiv y) h1)
    rwa [e2] at this
  · have h1 : ((Nat.gcd x.natAbs y.natAbs : Nat) : Int) ∣ x := Int.ofNat_dvd_left.mpr (Nat.gcd_dvd_left _ _)
    have h2 : ((Nat.gcd x.natAbs y.natAbs : Nat) : Int) ∣ y := Int.ofNat_dvd_left.mpr (Nat.gcd_dvd_right _ _)
    refine Int.ofNat_dvd_left.mp ?_
    rw [e]
    exact Int.dvd_sub h1 (Int.dvd_mul_of_dvd_left h2)
def sameS (x y : Int) : Prop := (0 < x ∧ 0 ≤ y) ∨ (x < 0 ∧ y ≤ 0)
theorem fmod_same {x y : Int} (h : y ≠ 0) : sameS y (x.fmod y) := by
  rcases Int.lt_or_gt_of_ne h with h | h
  · have e := Int.neg_fmod_neg x y
    have := Int.fmod_nonneg_of_pos (-x) (b := -y) (by omega)
    exact .inr ⟨h, by omega⟩
  · exact .inl ⟨h, Int.fmod_nonneg_of_pos x h⟩
theorem nat_half {a b : Nat} (hb : 0 < b) (h : b < a) : 2 * (a % b) < a := by
  have h1 := Nat.div_add_mod a b
  have h2 := Nat.mod_lt a hb
  have h3 : 1 ≤ a / b := (Nat.le_div_iff_mul_le hb).mpr (by omega)
  have h4 := Nat.mul_le_mul_left b h3
  omega
theorem fmod_half {x y : Int} (hs : sameS x y) (hy : y ≠ 0) (h : y.natAbs < x.natAbs) : 2 * (x.fmod y).natAbs < x.natAbs := by
  have key : ∀ a b : Int, 0 < a → 0 < b → b.natAbs < a.natAbs → 2 * (a.fmod b).natAbs < a.natAbs := fun a b ha hb h => by
    rw [Int.fmod_eq_emod_of_nonneg a (by omega), Int.natAbs_emod_of_nonneg (by omega) b]
    exact nat_half (by omega) h
  rcases hs with ⟨h1, h2⟩ | ⟨h1, h2⟩
  · exact key x y h1 (by omega) h
  · have := key (-x) (-y) (by omega) (by omega) (by omega)
    have e := Int.neg_fmod_neg x y
    omega
theorem euclid {c : WM.Env → WM.R Vl} {body : WM.Env → WM.RS} (en : Int → Int → WM.Env) (t b : Int) {k : Nat} (hb : b.natAbs < 2 ^ k) (hk : k ≤ 134000000)
    (hc : ∀ x y, c (en x y) = .ok (dv (.bl (!(y == 0)))) (en x y)) (hs : ∀ x y, y ≠ 0 → body (en x y) = .nx (en y (x.fmod y))) :
    ∃ x, x.natAbs = Nat.gcd t.natAbs b.natAbs ∧ whlL c body fuel (en t b) = .nx (en x 0) := by
  have stop : ∀ (n : Nat) (x : Int), whlL c body (n + 1) (en x 0) = .nx (en x 0) := fun n x => by
    unfold whlL
    rw [hc]; rfl
  have step : ∀ (n : Nat) (x y : Int), y ≠ 0 → whlL c body (n + 1) (en x y) = whlL c body n (en y (x.fmod y)) := fun n x y h0 => by
    have h0' : (y == 0) = false := by simpa using h0
    conv => lhs; unfold whlL
    rw [hc, h0']
    show (body (en x y)).thn _ = _
    rw [hs x y h0]; rfl
  have key : ∀ (k n : Nat) (x y : Int), 2 * k + 1 ≤ n → sameS x y → y.natAbs < x.natAbs → y.natAbs < 2 ^ k → ∃ z, z.natAbs = Nat.gcd x.natAbs y.natAbs ∧ whlL c body n (en x y) = .nx (en z 0) := by
    intro k
    induction k with
    | zero =>
      intro n x y hn _ _ h
      obtain ⟨n', rfl⟩ : ∃ n', n = n' + 1 := ⟨n - 1, by omega⟩
      have : y = 0 := by omega
      subst this
      exact ⟨x, by simp, stop n' x⟩
    | succ k ih =>
      intro n x y hn hxy hlt h
      obtain ⟨n', rfl⟩ : ∃ n', n = n' + 1 := ⟨n - 1, by omega⟩
      by_cases h0 : y = 0
      · subst h0
        exact ⟨x, by simp, stop n' x⟩
      · rw [step n' x y h0]
        have s1 := fmod_same (x := x) h0
        have l1 := fmod_lt_abs (x := x) h0
        have g1 := gcd_step x y
        by_cases h1 : x.fmod y = 0
        · rw [h1] at g1 ⊢
          obtain ⟨n2, rfl⟩ : ∃ n2, n' = n2 + 1 := ⟨n' - 1, by omega⟩
          exact ⟨y, by rw [← g1]; simp, stop n2 y⟩
        · obtain ⟨n2, rfl⟩ : ∃ n2, n' = n2 + 1 := ⟨n' - 1, by omega⟩
          rw [step n2 y _ h1]
          have s2 := fmod_same (x := y) h1
          have l2 := fmod_lt_abs (x := y) h1
          have g2 := gcd_step y (x.fmod y)
          have hf := fmod_half s1 h1 l1
          obtain ⟨z, z1, z2⟩ := ih n2 (x.fmod y) (y.fmod (x.fmod y)) (by omega) s2 l2 (by rw [Nat.pow_succ] at h; omega)
          exact ⟨z, by rw [z1, g2, g1], z2⟩
  have big : 2 * k + 2 ≤ fuel := by
    have h1 : (2 : Nat) ^ 30 ≤ 2 ^ 20000 := Nat.pow_le_pow_right (by omega) (by omega)
    have h2 : (2 : Nat) ^ 30 = 1073741824 := by decide
    unfold fuel
    omega
  obtain ⟨f, hf⟩ : ∃ f, fuel = f + 1 := ⟨fuel - 1, by omega⟩
  rw [hf]
  by_cases h0 : b = 0
  · subst h0
    exact ⟨t, by simp, stop f t⟩
  · rw [step f t b h0]
    obtain ⟨z, z1, z2⟩ := key k f b (t.fmod b) (by omega) (fmod_same h0) (fmod_lt_abs h0) (Nat.lt_trans (fmod_lt_abs h0) hb)
    exact ⟨z, by rw [z1, gcd_step], z2⟩
def qD (r : Rat) : D := .tup [.int r.num, .int (r.den : Int)]
def lowBy (t b : Int) : Int := if b < 0 then -gcdI t b else gcdI t b
theorem gcdI_pos {t b : Int} (hb : b ≠ 0) : 0 < gcdI t b := by
  unfold gcdI
  have : 0 < Nat.gcd t.natAbs b.natAbs := Nat.gcd_pos_of_pos_right _ (by omega)
  omega
theorem low_num {t b : Int} (hb : b ≠ 0) : t.fdiv (lowBy t b) = (Rat.divInt t b).num ∧ b.fdiv (lowBy t b) = ((Rat.divInt t b).den : Int) := by
  have hg := gcdI_pos (t := t) hb
  have gb : (b.gcd t : Int) = gcdI t b := by unfold gcdI Int.gcd; rw [Nat.gcd_comm]
  obtain ⟨t', ht⟩ : gcdI t b ∣ t := Int.ofNat_dvd_left.mpr (Nat.gcd_dvd_left _ _)
  obtain ⟨b', hb'⟩ : gcdI t b ∣ b := Int.ofNat_dvd_left.mpr (Nat.gcd_dvd_right _ _)
  rw [Rat.num_divInt, Rat.den_divInt, if_neg hb]
  have dn : ((b.natAbs / b.gcd t : Nat) : Int) = (b.natAbs : Int) / gcdI t b := by rw [← gb]; exact Int.natCast_ediv _ _
  rw [dn, gb]
  unfold lowBy
  generalize gcdI t b = g at *
  by_cases h : b < 0
  · rw [Int.sign_eq_neg_one_of_neg h, show (b.natAbs : Int) = -b by omega, if_pos h, ht, hb']
    have e1 : g * t' = -g * -t' := by rw [Int.neg_mul_neg]
    have e2 : g * b' = -g * -b' := by rw [Int.neg_mul_neg]
    have e3 : -1 * (g * t') = g * -t' := by rw [Int.neg_one_mul, Int.mul_neg]
    have e4 : -(g * b') = g * -b' := by rw [Int.mul_neg]
    rw [e3, e4, Int.mul_ediv_cancel_left _ (by omega), Int.mul_ediv_cancel_left _ (by omega), e1, e2, Int.mul_fdiv_cancel_left _ (by omega), Int.mul_fdiv_cancel_left _ (by omega)]
    exact ⟨rfl, rfl⟩
  · rw [Int.sign_eq_one_of_pos (by omega), show (b.natAbs : Int) = b by omega, if_neg h, ht, hb', Int.one_mul]
    rw [Int.mul_ediv_cancel_left _ (by omega), Int.mul_ediv_cancel_left _ (by omega), Int.mul_fdiv_cancel_left _ (by omega), Int.mul_fdiv_cancel_left _ (by omega)]
    exact ⟨rfl, rfl⟩
def lg (i : Int) : Nat := i.natAbs.log2
theorem lt_two (n : Nat) : n < 2 ^ (n.log2 + 1) := Nat.lt_log2_self
theorem gcd_le_b {t b : Int} (hb : b ≠ 0) : Nat.gcd t.natAbs b.natAbs ≤ b.natAbs := Nat.gcd_le_right _ (by omega)
theorem log2_mono {a b : Nat} (h : a ≤ b) : a.log2 ≤ b.log2 := by
  by_cases h0 : a = 0
  · subst h0; simp
  · have h1 := Nat.log2_self_le h0
    exact (Nat.le_log2 (by omega)).mpr (by omega)
theorem frac_eq [HasF fns 3 f3] (d : Nat) (t b : Int) (hb : b ≠ 0) (hl : lg b < 133000000) :
    cs fns gv (d + 1) 3 [.v (dv (.int t)), .v (dv (.int b))] = .ok (.d (qD (Rat.divInt t b))) [] := by
  have hij : ((2 : Nat) == 3) = false := rfl
  have hlt : b.natAbs < 2 ^ (lg b + 1) := lt_two _
  obtain ⟨x, hx, e⟩ := euclid (c := evX (cs fns gv d) gv [] (.bin .ne (.v 3) (.c (.int 0)))) (body := exs (cs fns gv d) gv b3_0) (fun x y => [.val (.d (.int t)), .val (.d (.int b)), .val (.d (.int x)), .val (.d (.int y)), .no]) t b hlt (by omega) (fun x y => by simp_arith []) (fun x y h0 => by
    simp_arith [b3_0, h0, hij, x_par hij])
  have hg := gcdI_pos (t := t) hb
  have hgl := log2_mono (gcd_le_b (t := t) hb)
  have ab : (if x < 0 then -x else x) = gcdI t b := by unfold gcdI; split <;> omega
  have sg : (1 - 2 * (if decide (b < 0) = true then (1 : Int) else 0)) = if b < 0 then -1 else 1 := by by_cases h : b < 0 <;> simp [h]
  have lb : gcdI t b * (if b < 0 then -1 else 1) = lowBy t b := by unfold lowBy; split <;> omega
  have k1 : MulOk 2 (if decide (b < 0) = true then (1 : Int) else 0) := mul64 (by omega) (by omega) (by split <;> omega) (by split <;> omega)
  have k2 : MulOk (gcdI t b) (if b < 0 then -1 else 1) := by
    unfold WM.MulOk gcdI
    rw [Int.natAbs_natCast]
    have : ((if b < 0 then (-1 : Int) else 1).natAbs).log2 = 0 := by split <;> rfl
    unfold lg at hl
    omega
  have hd : DivOk (lowBy t b) := by
    unfold DivOk lowBy
    split <;> omega
  obtain ⟨n1, n2⟩ := low_num (t := t) hb
  rw [r3]
  simp_arith [f3, x_par hij, e, k1, ab, sg, k2, lb, hd, n1, n2, qD]
theorem divisor_eq [HasF fns 0 f0] (d : Nat) (t b : Int) (hl : lg b < 133000000) :
    cs fns gv (d + 1) 0 [.v (dv (.int t)), .v (dv (.int b))] = .ok (.d (.int (gcdI t b))) [] := by
  have hij : ((0 : Nat) == 1) = false := rfl
  have hlt : b.natAbs < 2 ^ (lg b + 1) := lt_two _
  obtain ⟨x, hx, e⟩ := euclid (c := evX (cs fns gv d) gv [] (.bin .ne (.v 1) (.c (.int 0)))) (body := exs (cs fns gv d) gv b0_0) (fun x y => [.val (.d (.int x)), .val (.d (.int y))]) t b hlt (by omega) (fun x y => by simp_arith []) (fun x y h0 => by
    simp_arith [b0_0, h0, hij, x_par hij])
  have ab : (if x < 0 then -x else x) = gcdI t b := by unfold gcdI; split <;> omega
  rw [r0]
  simp_arith [f0, e, ab]
end
end WMk

namespace WMk
open PySem L2 WM
structure Sz (n : Nat) (r : Rat) : Prop where
  num : r.num.natAbs < 2 ^ n
  den : r.den < 2 ^ n
theorem two_mono {n m : Nat} (h : n ≤ m) : 2 ^ n ≤ 2 ^ m := Nat.pow_le_pow_right (by omega) h
theorem Sz.mono {n m : Nat} {r : Rat} (h : Sz n r) (k : n ≤ m) : Sz m r := ⟨Nat.lt_of_lt_of_le h.num (two_mono k), Nat.lt_of_lt_of_le h.den (two_mono k)⟩
theorem mul_lt_two {a b n m : Nat} (h1 : a < 2 ^ n) (h2 : b < 2 ^ m) : a * b < 2 ^ (n + m) := by
  rw [Nat.pow_add]
  exact Nat.mul_lt_mul'' h1 h2
theorem sz_divInt {t b : Int} {n : Nat} (h1 : t.natAbs < 2 ^ n) (h2 : b.natAbs < 2 ^ n) (hb : b ≠ 0) : Sz n (Rat.divInt t b) := by
  refine ⟨?_, ?_⟩
  · rw [Rat.num_divInt]
    refine Nat.lt_of_le_of_lt ?_ h1
    have : (b.sign * t).natAbs = t.natAbs := by
      rw [Int.natAbs_mul, Int.natAbs_sign_of_ne_zero hb, Nat.one_mul]
    rw [← this]
    exact Int.natAbs_ediv_le_natAbs _ _
  · rw [Rat.den_divInt, if_neg hb]
    exact Nat.lt_of_le_of_lt (Nat.div_le_self _ _) h2
theorem log_lt {a n : Nat} (h : a < 2 ^ n) : a.log2 ≤ n := WM.log2_lt h
theorem den_ne (r : Rat) : ((r.den : Int)) ≠ 0 := by have := r.den_nz; omega
theorem q_add (p q : Rat) : Rat.divInt (p.num * q.den + q.num * p.den) ((p.den : Int) * q.den) = p + q := by
  rw [← Rat.divInt_add_divInt _ _ (den_ne p) (den_ne q), Rat.num_divInt_den, Rat.num_divInt_den]
theorem q_mul (p q : Rat) : Rat.divInt (p.num * q.num) ((p.den : Int) * q.den) = p * q := by
  rw [← Rat.divInt_mul_divInt, Rat.num_divInt_den, Rat.num_divInt_den]
theorem sz_num {n m : Nat} {p q : Rat} (h1 : Sz n p) (h2 : Sz m q) : (p.num * q.den).natAbs < 2 ^ (n + m) ∧ (q.num * p.den).natAbs < 2 ^ (n + m) ∧ ((p.den : Int) * q.den).natAbs < 2 ^ (n + m) ∧ (p.num * q.num).natAbs < 2 ^ (n + m) ∧ ((p.den : Int) * q.num).natAbs < 2 ^ (n + m) := by
  refine ⟨?_, ?_, ?_, ?_, ?_⟩
  · rw [Int.natAbs_mul]; exact mul_lt_two h1.num (by simpa using h2.den)
  · rw [Int.natAbs_mul, Nat.add_comm]; exact mul_lt_two h2.num (by simpa using h1.den)
  · rw [Int.natAbs_mul]; exact mul_lt_two (by simpa using h1.den) (by simpa using h2.den)
  · rw [Int.natAbs_mul]; exact mul_lt_two h1.num h2.num
  · rw [Int.natAbs_mul]; exact mul_lt_two (by simpa using h1.den) h2.num
theorem Sz.add {n m : Nat} {p q : Rat} (h1 : Sz n p) (h2 : Sz m q) : Sz (n + m + 1) (p + q) := by
  obtain ⟨a, b, c, _, _⟩ := sz_num h1 h2
  rw [← q_add]
  refine sz_divInt ?_ (Nat.lt_of_lt_of_le c (two_mono (by omega))) (Int.mul_ne_zero (den_ne p) (den_ne q))
  rw [Nat.pow_succ]; omega
theorem Sz.mul {n m : Nat} {p q : Rat} (h1 : Sz n p) (h2 : Sz m q) : Sz (n + m) (p * q) := by
  obtain ⟨_, _, c, a, _⟩ := sz_num h1 h2
  rw [← q_mul]
  exact sz_divInt a c (Int.mul_ne_zero (den_ne p) (den_ne q))
theorem Sz.int {n : Nat} {i : Int} (h : i.natAbs < 2 ^ n) : Sz (n + 1) (i : Rat) := ⟨by simpa using Nat.lt_of_lt_of_le h (two_mono (by omega)), by
  show (i : Rat).den < _
  rw [Rat.den_intCast, Nat.pow_succ]
  have := Nat.one_le_two_pow (n := n)
  omega⟩
theorem qD_int (i : Int) : qD (i : Rat) = .tup [.int i, .int 1] := by simp [qD]
theorem lg_lt {b : Int} {n : Nat} (h : b.natAbs < 2 ^ n) : lg b ≤ n := log_lt h
section
variable {fns : Nat → Option IFn} {gv : Nat → Option D} {n m : Nat} {p q : Rat}
end
end WMk

namespace WMk
open PySem L2 WM
structure PuOk (r : Rat) : Prop where
  pos : 0 < r
  sz : Sz 100 r
structure PuOk1 (r : Rat) : Prop where
  pos : 0 < r
  num : r.num ≤ 1000000
  den : r.den ≤ 1000000
theorem num_pos {r : Rat} (h : 0 < r) : 0 < r.num := by
  have := (Rat.lt_iff 0 r).mp h
  simpa using this
theorem PuOk1.sz {r : Rat} (h : PuOk1 r) : Sz 20 r := by
  have := num_pos h.pos
  have h1 := h.num
  have h2 := h.den
  refine ⟨?_, ?_⟩
  · show r.num.natAbs < 1048576
    omega
  · show r.den < 1048576
    omega
theorem PuOk1.ok {r : Rat} (h : PuOk1 r) : PuOk r := ⟨h.pos, h.sz.mono (by omega)⟩
theorem pu_int {t : Int} (h1 : 1 ≤ t) (h2 : t ≤ 1000000) : PuOk1 (t : Rat) := ⟨by exact_mod_cast (by omega : 0 < t), by simpa using h2, by simp⟩
theorem divInt_pos {t b : Int} (ht : 0 < t) (hb : 0 < b) : 0 < Rat.divInt t b := by
  have h1 : (0 : Rat) ≤ Rat.divInt t b := Rat.divInt_nonneg (by omega) (by omega)
  have h2 : Rat.divInt t b ≠ 0 := by
    intro e
    have e2 : Rat.divInt t b = Rat.divInt 0 1 := by rw [e]; simp
    rw [Rat.divInt_eq_divInt_iff (by omega) (by omega)] at e2
    omega
  grind
theorem pu_div {t b : Int} (h1 : 1 ≤ t) (h2 : t ≤ 1000000) (h3 : 1 ≤ b) (h4 : b ≤ 1000000) : PuOk1 (Rat.divInt t b) := by
  have hb : b ≠ 0 := by omega
  refine ⟨divInt_pos (by omega) (by omega), ?_, ?_⟩
  · have e : (b.sign * t).natAbs = t.natAbs := by rw [Int.natAbs_mul, Int.natAbs_sign_of_ne_zero hb, Nat.one_mul]
    have : (Rat.divInt t b).num.natAbs ≤ t.natAbs := by
      rw [Rat.num_divInt, ← e]
      exact Int.natAbs_ediv_le_natAbs _ _
    omega
  · rw [Rat.den_divInt, if_neg hb]
    have := Nat.div_le_self b.natAbs (b.gcd t)
    omega
abbrev oi (n : Int) : Ow := .d (.int n)
theorem tupB_oi (ns : List Int) : unV .tuple (.bw (.l (ns.map oi))) = some (dv (.tup (ns.map D.int))) := by
  have : ns.map oi = (ns.map D.int).map Ow.d := by rw [List.map_map]; rfl
  rw [this, x_tupB]
theorem at_mem {γ : Type} {xs : List γ} {i : Int} (h0 : 0 ≤ i) (h : i < xs.length) : ∃ x, atI xs i = some x ∧ x ∈ xs := by
  obtain ⟨x, e, _, m⟩ := atI_int h0 h
  exact ⟨x, e, m⟩
theorem pick {γ : Type} {xs : List γ} {y : Bg} {n : Int} (hn : tkM n = true) (hl : n ≤ xs.length) : ∃ x, atI xs (y.tk n) = some x ∧ x ∈ xs := by
  have := y.tk_rng hn
  exact at_mem this.1 (by omega)
structure RowOk (g : Nat) (ns : List Int) : Prop where
  len : ns.length = g
  rng : ∀ n ∈ ns, 0 ≤ n ∧ n ≤ 100
  some : ∃ n ∈ ns, 1 ≤ n
structure Mk where
  am : List Int
  pu : List Rat
  wi : List (List Int)
structure MkOk0 (m : Mk) : Prop where
  g1 : 1 ≤ m.am.length
  g2 : m.am.length ≤ 6
  b1 : 1 ≤ m.wi.length
  b2 : m.wi.length ≤ 6
  pl : m.pu.length = m.wi.length
  am : ∀ n ∈ m.am, 1 ≤ n ∧ n ≤ 60
  pu : ∀ p ∈ m.pu, PuOk p
  wi : ∀ r ∈ m.wi, r.length = m.am.length ∧ ∀ n ∈ r, 0 ≤ n ∧ n ≤ 100
structure MkOkS (m : Mk) : Prop where
  g1 : 1 ≤ m.am.length
  g2 : m.am.length ≤ 6
  b1 : 1 ≤ m.wi.length
  b2 : m.wi.length ≤ 6
  pl : m.pu.length = m.wi.length
  am : ∀ n ∈ m.am, 1 ≤ n ∧ n ≤ 60
  wi : ∀ r ∈ m.wi, r.length = m.am.length ∧ ∀ n ∈ r, 0 ≤ n ∧ n ≤ 100
theorem MkOk0.s {m : Mk} (h : MkOk0 m) : MkOkS m := ⟨h.g1, h.g2, h.b1, h.b2, h.pl, h.am, h.wi⟩
structure MkOk (m : Mk) : Prop extends MkOk0 m where
  ws : ∀ r ∈ m.wi, ∃ n ∈ r, 1 ≤ n
  ps : ∀ p ∈ m.pu, PuOk1 p
def rD (r : List Int) : D := .tup (r.map D.int)
def amD (m : Mk) : D := .tup (m.am.map D.int)
def puD (m : Mk) : D := .tup (m.pu.map qD)
def wiD (m : Mk) : D := .tup (m.wi.map rD)
def mkD (m : Mk) : D := .tup [amD m, puD m, wiD m]
section
variable {fns : Nat → Option IFn} {gv : Nat → Option D}
theorem purse_ok [HasF fns 2 f2] [HasF fns 3 f3] [HasF fns 28 f28] (d : Nat) (x : Bg) : ∃ p x', PuOk1 p ∧ cs fns gv (d + 2) 28 [.r (bagL x)] = .ok (.d (qD p)) [bagL x'] := by
  rw [r28]
  have T := fun (y : Bg) (m : Int) (hm : tkM m = true) => take_eq (fns := fns) (gv := gv) d y m hm
  have t5 : tkM 5 = true := rfl
  have t4 : tkM 4 = true := rfl
  have t6 : tkM 1000000 = true := rfl
  have t60 : tkM 60 = true := rfl
  have t9 : tkM 9 = true := rfl
  have lgs : ∀ b : Int, 1 ≤ b → b ≤ 1000000 → lg b < 133000000 := fun b h1 h2 => by
    have := lg_lt (b := b) (n := 20) (by show b.natAbs < 1048576; omega)
    omega
  by_cases c0 : x.tk 5 = 0
  · have r := (x.nx 5).tk_rng t4
    refine ⟨_, (x.nx 5).nx 4, pu_int (t := 1 + (x.nx 5).tk 4) (by omega) (by omega), ?_⟩
    simp_arith [f28, T, t5, t4, c0, qD_int, c28_0, c28_1, c28_2]
  · have c0' : (x.tk 5 == 0) = false := by simpa using c0
    by_cases c1 : x.tk 5 = 1
    · have r := (x.nx 5).tk_rng t6
      refine ⟨_, (x.nx 5).nx 1000000, pu_int (t := 1 + (x.nx 5).tk 1000000) (by omega) (by omega), ?_⟩
      simp_arith [f28, T, t5, t6, c1, qD_int, c28_0, c28_1, c28_2]
    · have c1' : (x.tk 5 == 1) = false := by simpa using c1
      by_cases c2 : x.tk 5 = 2
      · have r := (x.nx 5).tk_rng t6
        have r' := ((x.nx 5).nx 1000000).tk_rng t6
        have e := frac_eq (fns := fns) (gv := gv) d (1 + (x.nx 5).tk 1000000) (1 + ((x.nx 5).nx 1000000).tk 1000000) (by omega) (lgs _ (by omega) (by omega))
        refine ⟨_, ((x.nx 5).nx 1000000).nx 1000000, pu_div (t := 1 + (x.nx 5).tk 1000000) (b := 1 + ((x.nx 5).nx 1000000).tk 1000000) (by omega) (by omega) (by omega) (by omega), ?_⟩
        simp_arith [f28, T, t5, t6, c2, e, c28_0, c28_1, c28_2]
      · have c2' : (x.tk 5 == 2) = false := by simpa using c2
        have r := (x.nx 5).tk_rng t60
        have r' := ((x.nx 5).nx 60).tk_rng t9
        have e := frac_eq (fns := fns) (gv := gv) d (1 + (x.nx 5).tk 60) (1 + ((x.nx 5).nx 60).tk 9) (by omega) (lgs _ (by omega) (by omega))
        refine ⟨_, ((x.nx 5).nx 60).nx 9, pu_div (t := 1 + (x.nx 5).tk 60) (b := 1 + ((x.nx 5).nx 60).tk 9) (by omega) (by omega) (by omega) (by omega), ?_⟩
        simp_arith [f28, T, t5, t60, t9, c0', c1', c2', e, c28_0, c28_1, c28_2]
theorem wishes_ok [HasF fns 2 f2] [HasF fns 29 f29] (d : Nat) (x : Bg) (g : Nat) (hg : 1 ≤ g) (hg2 : g ≤ 60) : ∃ ns x', RowOk g ns ∧ cs fns gv (d + 2) 29 [.r (bagL x), .v (dv (.int g))] = .ok (.d (.tup (ns.map D.int))) [bagL x'] := by
  rw [r29]
  have T := fun (y : Bg) (m : Int) (hm : tkM m = true) => take_eq (fns := fns) (gv := gv) d y m hm
  have t5 : tkM 5 = true := rfl
  have r5 := x.tk_rng t5
  obtain ⟨o, ho, hm⟩ := at_mem (xs := [oi 3, oi 101, oi 2, oi 10, oi 101]) (i := x.tk 5) r5.1 (by simpa using r5.2)
  obtain ⟨m, rfl, hm1, hm2⟩ : ∃ m : Int, o = oi m ∧ 1 ≤ m ∧ m ≤ 101 := by
    simp only [List.mem_cons, List.not_mem_nil, or_false] at hm
    rcases hm with rfl | rfl | rfl | rfl | rfl <;> exact ⟨_, rfl, by omega, by omega⟩
  have tm : tkM m = true := by unfold tkM; simp; omega
  have tg : tkM (g : Int) = true := by unfold tkM; simp; omega
  have sg : inSmall (g : Int) = true := inSmall_nat (by omega)
  obtain ⟨ns, x1, hl, hr, el⟩ := lc_draw (M := Mof [0, 3]) (t := .n 5) (body := lcBody false (ev (cs fns gv (d + 1)) gv (Mof [0, 3]) (.c (.bl true))) (ev (cs fns gv (d + 1)) gv (Mof [0, 3]) (.call 2 (.ref 0 (.val (.v 2) .nil))))) (it := fun (k : Nat) => Itm.one (dv (.int (k : Int))))
    (P := fun n : Int => 0 ≤ n ∧ n < m) (fun y : Bg => [.ref (bagL y), .val (.d (.int (g : Int))), .val (.d (.int m)), .no, .no, .no]) oi (List.range g) (x.nx 5) (by simp; omega) (fun y k hk => ⟨y.tk m, y.nx m, y.tk_rng tm, by simp_arith [T, tm, oi]⟩)
  rw [List.length_range] at hl
  have rg := x1.tk_rng tg
  have hat : (x1.tk (g : Int)) < ((ns.map oi).length : Nat) := by rw [List.length_map, hl]; exact rg.2
  obtain ⟨j, hj⟩ : ∃ j : Nat, x1.tk (g : Int) = (j : Int) := ⟨(x1.tk (g : Int)).toNat, by omega⟩
  have hjl : j < ns.length := by omega
  have hix : ixN (ns.map oi).length (x1.tk (g : Int)) = some j := by rw [hj]; exact ixN_nat (by rw [List.length_map]; exact hjl)
  have hat : atI (ns.map oi) (x1.tk (g : Int)) = some (oi ns[j]) := by
    rw [hj, atI_nat (by rw [List.length_map]; exact hjl), List.getElem_map]
  have hset : ∀ v : Int, (ns.map oi).set j (.d (.int v)) = (ns.set j v).map oi := fun v => (List.map_set (f := oi)).symm
  refine ⟨ns.set j (if ns[j] > 1 then ns[j] else 1), x1.nx g, ⟨by rw [List.length_set]; exact hl, fun n hn => ?_, ?_⟩, ?_⟩
  · rcases List.mem_or_eq_of_mem_set hn with h | h
    · have := hr n h; omega
    · have := hr _ (List.getElem_mem hjl)
      rw [h]; split <;> omega
  · refine ⟨_, List.mem_set hjl _, ?_⟩
    split <;> omega
  · simp_arith [f29, T, t5, ho, tm, tg, sg, rngI0, el, Int.toNat_natCast, hat, hix, hset, tupB_oi]
theorem market_ok [HasF fns 2 f2] [HasF fns 3 f3] [HasF fns 28 f28] [HasF fns 29 f29] [HasF fns 34 f34] (d : Nat) (x : Bg) : ∃ m x', MkOk m ∧ cs fns gv (d + 3) 34 [.r (bagL x)] = .ok (.d (mkD m)) [bagL x'] := by
  rw [r34]
  have T := fun (y : Bg) (m : Int) (hm : tkM m = true) => take_eq (fns := fns) (gv := gv) (d + 1) y m hm
  have t2 : tkM 2 = true := rfl
  have t3 : tkM 3 = true := rfl
  have two : ∀ y : Bg, ∃ c : Int, atI [Ow.d (.int 3), Ow.d (.int 6)] (y.tk 2) = some (.d (.int c)) ∧ (c = 3 ∨ c = 6) := fun y => by
    obtain ⟨o, e, hm⟩ := pick (xs := [Ow.d (.int 3), Ow.d (.int 6)]) (y := y) t2 (by simp)
    simp only [List.mem_cons, List.not_mem_nil, or_false] at hm
    rcases hm with rfl | rfl <;> exact ⟨_, e, by simp⟩
  have three : ∀ y : Bg, ∃ c : Int, atI [Ow.d (.int 1), Ow.d (.int 9), Ow.d (.int 60)] (y.tk 3) = some (.d (.int c)) ∧ 1 ≤ c ∧ c ≤ 60 := fun y => by
    obtain ⟨o, e, hm⟩ := pick (xs := [Ow.d (.int 1), Ow.d (.int 9), Ow.d (.int 60)]) (y := y) t3 (by simp)
    simp only [List.mem_cons, List.not_mem_nil, or_false] at hm
    rcases hm with rfl | rfl | rfl <;> exact ⟨_, e, by omega, by omega⟩
  -- goods
  obtain ⟨c1, e1, r1⟩ := two x
  have u1 : tkM c1 = true := by rcases r1 with rfl | rfl <;> rfl
  have v1 := (x.nx 2).tk_rng u1
  obtain ⟨g, hg⟩ : ∃ g : Nat, 1 + (x.nx 2).tk c1 = (g : Int) := ⟨(1 + (x.nx 2).tk c1).toNat, by omega⟩
  have hg1 : 1 ≤ g := by omega
  have hg2 : g ≤ 6 := by rcases r1 with rfl | rfl <;> omega
  generalize hx1 : (x.nx 2).nx c1 = x1
  -- buyers
  obtain ⟨c2, e2, r2⟩ := two x1
  have u2 : tkM c2 = true := by rcases r2 with rfl | rfl <;> rfl
  have v2 := (x1.nx 2).tk_rng u2
  obtain ⟨b, hb⟩ : ∃ b : Nat, 1 + (x1.nx 2).tk c2 = (b : Int) := ⟨(1 + (x1.nx 2).tk c2).toNat, by omega⟩
  have hb1 : 1 ≤ b := by omega
  have hb2 : b ≤ 6 := by rcases r2 with rfl | rfl <;> omega
  generalize hx2 : (x1.nx 2).nx c2 = x2
  obtain ⟨c3, e3, r3⟩ := three x2
  have u3 : tkM c3 = true := by unfold tkM; simp; omega
  have sg : inSmall (g : Int) = true := inSmall_nat (by omega)
  have sb : inSmall (b : Int) = true := inSmall_nat (by omega)
  -- amounts
  obtain ⟨am, x4, la, ra, ea⟩ := lc_draw (M := Mof [0]) (P := fun n : Int => 1 ≤ n ∧ n ≤ 60) (t := .n 7) (body := lcBody false (ev (cs fns gv (d + 2)) gv (Mof [0]) (.c (.bl true))) (ev (cs fns gv (d + 2)) gv (Mof [0]) (.bin .add (.c (.int 1)) (.call 2 (.ref 0 (.val (.v 3) .nil))))))
    (it := fun (k : Nat) => Itm.one (dv (.int (k : Int)))) (fun y : Bg => [.ref (bagL y), .val (.d (.int (g : Int))), .val (.d (.int (b : Int))), .val (.d (.int c3)), .no, .no, .no, .no]) (fun n => Ow.d (.int n)) (List.range g) (x2.nx 3) (by simp; omega) (fun y k hk => by
      have := y.tk_rng u3
      refine ⟨1 + y.tk c3, y.nx c3, ⟨by omega, by omega⟩, ?_⟩
      simp_arith [T, u3])
  rw [List.length_range] at la
  -- purses
  obtain ⟨pu, x5, lp, rp, ep⟩ := lc_draw (M := Mof [0]) (P := fun p : Rat => PuOk1 p) (t := .n 7) (body := lcBody false (ev (cs fns gv (d + 2)) gv (Mof [0]) (.c (.bl true))) (ev (cs fns gv (d + 2)) gv (Mof [0]) (.call 28 (.ref 0 .nil))))
    (it := fun (k : Nat) => Itm.one (dv (.int (k : Int)))) (fun y : Bg => [.ref (bagL y), .val (.d (.int (g : Int))), .val (.d (.int (b : Int))), .val (.d (.int c3)), .val (.d (.tup (am.map D.int))), .no, .no, .no]) (fun p => Ow.d (qD p)) (List.range b) x4 (by simp; omega) (fun y k hk => by
      obtain ⟨p, y', hf, e⟩ := purse_ok (fns := fns) (gv := gv) d y
      refine ⟨p, y', hf, ?_⟩
      simp_arith [e])
  rw [List.length_range] at lp
  -- wishes
  obtain ⟨wi, x6, lw, rw', ew⟩ := lc_draw (M := Mof [0]) (P := fun r : List Int => RowOk g r) (t := .n 7) (body := lcBody false (ev (cs fns gv (d + 2)) gv (Mof [0]) (.c (.bl true))) (ev (cs fns gv (d + 2)) gv (Mof [0]) (.call 29 (.ref 0 (.val (.v 1) .nil)))))
    (it := fun (k : Nat) => Itm.one (dv (.int (k : Int)))) (fun y : Bg => [.ref (bagL y), .val (.d (.int (g : Int))), .val (.d (.int (b : Int))), .val (.d (.int c3)), .val (.d (.tup (am.map D.int))), .val (.d (.tup (pu.map qD))), .no, .no]) (fun r => Ow.d (rD r)) (List.range b) x5 (by simp; omega) (fun y k hk => by
      obtain ⟨ns, y', hf, e⟩ := wishes_ok (fns := fns) (gv := gv) d y g hg1 (by omega)
      refine ⟨ns, y', hf, ?_⟩
      simp_arith [e, rD])
  rw [List.length_range] at lw
  refine ⟨⟨am, pu, wi⟩, x6, ⟨⟨by rw [la]; exact hg1, by rw [la]; exact hg2, by rw [lw]; exact hb1, by rw [lw]; exact hb2, by rw [lp, lw], ra, fun p hp => (rp p hp).ok, fun r hr => by rw [la]; exact ⟨(rw' r hr).len, (rw' r hr).rng⟩⟩, fun r hr => (rw' r hr).some, rp⟩, ?_⟩
  simp_arith [f34, T, t2, t3, e1, u1, hg, hx1, e2, u2, hb, hx2, e3, u3, sg, sb, Int.toNat_natCast, rngI0, ea, ep, ew, toDs_map', mkD, amD, puD, wiD]
theorem bag_ok [HasF fns 1 f1] (d : Nat) (ns : List Int) (hl : ns.length ≤ 100000) (k : Nat) (hk : k ≤ 1000) : ∃ x : Bg, cs fns gv (d + 1) 1 [.v (dv (.scr ns)), .v (dv (.int k))] = .ok (bagL x) [] := by
  have sd : ∀ c : Int, 0 ≤ (1 + ((c.fmod 2147483629) * 16807 + 40009 * (k : Int) * (k : Int) + 7919 * (k : Int) + 1009).fmod 2147483645) ∧ (1 + ((c.fmod 2147483629) * 16807 + 40009 * (k : Int) * (k : Int) + 7919 * (k : Int) + 1009).fmod 2147483645) < 2147483647 := fun c => by
    have := fmod_rng (a := (c.fmod 2147483629) * 16807 + 40009 * (k : Int) * (k : Int) + 7919 * (k : Int) + 1009) (m := 2147483645) (by omega)
    omega
  have kk : 0 ≤ (k : Int) ∧ (k : Int) ≤ 1000 := by omega
  have m1 : ∀ c : Int, WM.MulOk (c.fmod 2147483629) 16807 := fun c => by
    have := fmod_rng (a := c) (m := 2147483629) (by omega)
    exact mul64 this.1 (by omega) (by omega) (by omega)
  have m2 : WM.MulOk 40009 (k : Int) := mul64 (by omega) (by omega) (by omega) (by omega)
  have m3 : WM.MulOk ((40009 : Int) * (k : Int)) (k : Int) := mul64 (by omega) (by omega) (by omega) (by omega)
  have m4 : WM.MulOk 7919 (k : Int) := mul64 (by omega) (by omega) (by omega) (by omega)
  rw [r1]
  have main : ∀ c : Int, 0 ≤ c → ∃ x : Bg, exs (cs fns gv d) gv (.cons (.set [] true (.n 3) (.bin .add (.c (.int 1)) (.bin .mod (.bin .add (.bin .add (.bin .add (.bin .mul (.bin .mod (.v 2) (.c (.int 2147483629))) (.c (.int 16807))) (.bin .mul (.bin .mul (.c (.int 40009)) (.v 1)) (.v 1))) (.bin .mul (.c (.int 7919)) (.v 1))) (.c (.int 1009))) (.c (.int 2147483645))))) (.cons (.iff [] (.bin .lt (.v 2) (.bin .pow (.c (.int 10)) (.c (.int 18)))) (.cons (.ret [] (.lst (.cons (.c (.int 0)) (.cons (.v 3) .nil)))) .nil) .nil) (.cons (.ret [] (.lst (.cons (.v 2) (.cons (.v 3) .nil)))) .nil))) [.val (.d (.scr ns)), .val (.d (.int k)), .val (.d (.int c)), .no] =
      .rt (bagL x) [.val (.d (.scr ns)), .val (.d (.int k)), .val (.d (.int c)), .val (.d (.int x.b))] := by
    intro c hc
    by_cases hs : c < 1000000000000000000
    · refine ⟨⟨0, _, by omega, sd c⟩, ?_⟩
      have hs' : decide (c < 1000000000000000000) = true := decide_eq_true hs
      simp_arith [m1, m2, m3, m4, hs, hs']
    · refine ⟨⟨c, _, hc, sd c⟩, ?_⟩
      have hs' : decide (c < 1000000000000000000) = false := decide_eq_false hs
      simp_arith [m1, m2, m3, m4, hs, hs']
  by_cases hkl : k < ns.length
  · have e1 : atI ns (k : Int) = some ns[k] := atI_nat hkl
    have hc : decide ((k : Int) < (ns.length : Int)) = true := decide_eq_true (by omega)
    have hc2 : ((k : Int) < (ns.length : Int)) = True := eq_true (by omega)
    obtain ⟨x, e⟩ := main (ns[k].fmod 1000000000000000000000000000000000000000000000000000000000000) (Int.fmod_nonneg_of_pos _ (by omega))
    refine ⟨x, ?_⟩
    simp_arith [f1, e1, hc, hc2, e, c1_0, c1_1]
  · have hc : decide ((k : Int) < (ns.length : Int)) = false := decide_eq_false (by omega)
    have hc2 : ((k : Int) < (ns.length : Int)) = False := eq_false (by omega)
    obtain ⟨x, e⟩ := main 0 (by omega)
    refine ⟨x, ?_⟩
    simp_arith [f1, hc, hc2, e, c1_0, c1_1]
end
end WMk

namespace WMk
open PySem L2 WM
section
variable {M : Nat → Bool} {ρ : WM.Env}
theorem mk_ix0 (m : Mk) : ixV (dv (mkD m)) 0 = some (dv (amD m)) := rfl
theorem mk_ix1 (m : Mk) : ixV (dv (mkD m)) 1 = some (dv (puD m)) := rfl
theorem mk_ix2 (m : Mk) : ixV (dv (mkD m)) 2 = some (dv (wiD m)) := rfl
theorem pu_len (m : Mk) : unV .len (dv (puD m)) = some (dv (.int m.pu.length)) := by unfold puD; rw [x_lenT, List.length_map]
end
def smB : Nat := 4000000
theorem smB_eq : smB = 4000000 := rfl
mutual
def smD : D → Bool
  | .int i => decide (i.natAbs < 2 ^ smB)
  | .tup xs => smDs xs
  | .lst xs => smDs xs
  | _ => true
def smDs : List D → Bool
  | [] => true
  | x :: xs => smD x && smDs xs
end
def isIntD : D → Bool
  | .int _ => true
  | _ => false
def isFracD : D → Bool
  | .tup [.int a, .int b] => decide (1 ≤ b) && (gcdI a b == 1)
  | _ => false
def isTupD : D → Bool
  | .tup _ => true
  | _ => false
theorem isa_tup (x : D) : isaV .tuple x = isTupD x := by cases x <;> rfl
theorem frac_of {x : D} (h : isFracD x = true) : ∃ r : Rat, x = qD r := by
  unfold isFracD at h
  split at h
  · rename_i a b
    rw [Bool.and_eq_true, decide_eq_true_eq, beq_iff_eq] at h
    obtain ⟨h1, h2⟩ := h
    unfold gcdI at h2
    refine ⟨⟨a, b.natAbs, by omega, ?_⟩, ?_⟩
    · unfold Nat.Coprime; omega
    · show D.tup _ = D.tup [.int a, .int (b.natAbs : Int)]
      rw [show (b.natAbs : Int) = b by omega]
  · cases h
theorem frac_qD (r : Rat) : isFracD (qD r) = true := by
  show (decide (1 ≤ (r.den : Int)) && (gcdI r.num r.den == 1)) = true
  have h1 := r.den_nz
  have h2 : Nat.gcd r.num.natAbs r.den = 1 := r.reduced
  have h3 : gcdI r.num r.den = 1 := by unfold gcdI; rw [Int.natAbs_natCast, h2]; rfl
  rw [h3, Bool.and_eq_true, decide_eq_true_eq]
  exact ⟨by omega, rfl⟩
theorem at_mapD {γ δ : Type} {f : γ → δ} {xs : List γ} {i : Nat} (x0 : γ) (h : i < xs.length) : atI (xs.map f) (i : Int) = some (f (xs.getD i x0)) := by
  rw [WM.atI_nat (by rw [List.length_map]; exact h), List.getElem_map, List.getD_eq_getElem?_getD, List.getElem?_eq_getElem h]; rfl
theorem pu_ix (m : Mk) {g : Nat} (h : g < m.pu.length) : ixV (dv (puD m)) (g : Int) = some (dv (qD (m.pu.getD g 0))) := by
  show (atI (m.pu.map qD) (g : Int)).map dv = _
  rw [at_mapD 0 h]; rfl
theorem wi_ix (m : Mk) {g : Nat} (h : g < m.wi.length) : ixV (dv (wiD m)) (g : Int) = some (dv (rD (m.wi.getD g []))) := by
  show (atI (m.wi.map rD) (g : Int)).map dv = _
  rw [at_mapD [] h]; rfl
section
variable {fns : Nat → Option IFn} {gv : Nat → Option D}
theorem whole_eq [HasF fns 12 f12] (d : Nat) (x : D) : cs fns gv (d + 1) 12 [.v (dv x)] = .ok (.d (.bl (isIntD x))) [] := by
  rw [r12]
  have h1 : isaV .int x = (isIntD x || isaV .bool x) := by cases x <;> rfl
  have h2 : isaV .bool x = true → isIntD x = false := by cases x <;> simp [isaV, isIntD]
  cases hb : isaV .bool x with
  | true => simp_arith [f12, h1, hb, h2 hb]
  | false =>
    cases hi : isIntD x <;> simp_arith [f12, h1, hb, hi]
theorem isfrac_eq [HasF fns 0 f0] [HasF fns 12 f12] [HasF fns 13 f13] (d : Nat) (x : D) (hs : smD x = true) : cs fns gv (d + 2) 13 [.v (dv x)] = .ok (.d (.bl (isFracD x))) [] := by
  have W := fun x => whole_eq (fns := fns) (gv := gv) d x
  rw [r13]
  cases x with
  | tup xs =>
    have tt : isTupD (.tup xs) = true := rfl
    rcases xs with _ | ⟨a, _ | ⟨b, _ | ⟨c, r⟩⟩⟩
    · have e : isFracD (.tup []) = false := rfl
      simp_arith [f13, isa_tup, tt, e, c13_0]
    · have e : isFracD (.tup [a]) = false := by cases a <;> rfl
      simp_arith [f13, isa_tup, tt, e, c13_0]
    · cases ha : isIntD a with
      | false =>
        have e : isFracD (.tup [a, b]) = false := by cases a <;> first | (cases ha; done) | rfl
        simp_arith [f13, isa_tup, tt, e, W, ha, c13_0]
      | true =>
        cases hb : isIntD b with
        | false =>
          have e : isFracD (.tup [a, b]) = false := by cases b <;> first | (cases hb; done) | (cases a <;> rfl)
          simp_arith [f13, isa_tup, tt, e, W, ha, hb, c13_0]
        | true =>
          cases a <;> first | (cases ha; done) | skip
          cases b <;> first | (cases hb; done) | skip
          rename_i i j
          have sb := smB_eq
          have hj : j.natAbs < 2 ^ smB := by
            have : (decide (i.natAbs < 2 ^ smB) && (decide (j.natAbs < 2 ^ smB) && true)) = true := hs
            simp only [Bool.and_eq_true, decide_eq_true_eq] at this
            exact this.2.1
          have e := divisor_eq (fns := fns) (gv := gv) d i j (by have := lg_lt hj; omega)
          have e2 : isFracD (.tup [.int i, .int j]) = (decide (1 ≤ j) && (gcdI i j == 1)) := rfl
          cases h1 : decide (1 ≤ j) <;> simp_arith [f13, isa_tup, tt, e, W, ha, hb, e2, h1, c13_0]
    · have e : isFracD (.tup (a :: b :: c :: r)) = false := by cases a <;> first | rfl | (cases b <;> rfl)
      have k2 : (((r.length + 1 + 1 + 1 : Nat) : Int) == 2) = false := by
        rw [beq_eq_false_iff_ne]; omega
      simp_arith [f13, isa_tup, tt, e, k2, c13_0]
  | _ => simp_arith [f13, isa_tup, isTupD, isFracD, c13_0]
end
end WMk

namespace WMk
open PySem L2 WM
section
variable {fns : Nat → Option IFn} {gv : Nat → Option D}
end
end WMk

namespace WMk
open PySem L2 WM
structure DlOk (n : Nat) (m : Mk) (dl : List (List Rat)) : Prop where
  len : dl.length = m.wi.length
  row : ∀ r ∈ dl, r.length = m.am.length
  sz : ∀ r ∈ dl, ∀ q ∈ r, Sz n q
section
variable {fns : Nat → Option IFn} {gv : Nat → Option D}
end
end WMk

namespace WMk
open PySem L2 WM
section
variable {fns : Nat → Option IFn} {gv : Nat → Option D}
end
section
variable {fns : Nat → Option IFn} {gv : Nat → Option D}
end
end WMk

namespace WMk
open PySem L2 WM
section
variable {fns : Nat → Option IFn} {gv : Nat → Option D}
end
end WMk

namespace WMk
open PySem L2 WM
mutual
def plD : Nat → D → Bool
  | _, .non => true
  | _, .bl _ => true
  | _, .int _ => true
  | n + 1, .tup xs => plDs n xs
  | n + 1, .lst xs => plDs n xs
  | _, _ => false
def plDs : Nat → List D → Bool
  | _, [] => true
  | n, x :: xs => plD n x && plDs n xs
end
theorem plDs_all : ∀ (n : Nat) (xs : List D), plDs n xs = true ↔ ∀ x ∈ xs, plD n x = true
  | _, [] => by simp [plDs]
  | n, x :: xs => by simp [plDs, plDs_all n xs]
mutual
theorem pl_lay : ∀ (n : Nat) (x : D), plD n x = true → x.lay = true ∧ x.dep ≤ n ∧ x.nos = true
  | _, .non, _ => ⟨rfl, Nat.zero_le _, rfl⟩
  | _, .bl _, _ => ⟨rfl, Nat.zero_le _, rfl⟩
  | _, .int _, _ => ⟨rfl, Nat.zero_le _, rfl⟩
  | 0, .tup _, h => by simp [plD] at h
  | 0, .lst _, h => by simp [plD] at h
  | n + 1, .tup xs, h => by
    simp only [plD] at h
    obtain ⟨h1, h2, h3⟩ := pls_lay n xs h
    exact ⟨by simpa [D.lay] using h1, by simp only [D.dep]; omega, by simpa [D.nos] using h3⟩
  | n + 1, .lst xs, h => by
    simp only [plD] at h
    obtain ⟨h1, h2, h3⟩ := pls_lay n xs h
    exact ⟨by simpa [D.lay] using h1, by simp only [D.dep]; omega, by simpa [D.nos] using h3⟩
  | 0, .str _, h => by simp [plD] at h
  | _ + 1, .str _, h => by simp [plD] at h
  | 0, .scr _, h => by simp [plD] at h
  | _ + 1, .scr _, h => by simp [plD] at h
theorem pls_lay : ∀ (n : Nat) (xs : List D), plDs n xs = true → D.lays xs = true ∧ D.deps xs ≤ n ∧ D.noss xs = true
  | _, [], _ => ⟨rfl, Nat.zero_le _, rfl⟩
  | n, x :: xs, h => by
    simp only [plDs, Bool.and_eq_true] at h
    obtain ⟨a1, a2, a3⟩ := pl_lay n x h.1
    obtain ⟨b1, b2, b3⟩ := pls_lay n xs h.2
    exact ⟨by simp [D.lays, a1, b1], by simp only [D.deps]; omega, by simp [D.noss, a3, b3]⟩
end
mutual
theorem eqv_refl : ∀ (n : Nat) (x : D), plD n x = true → D.eqv x x = true
  | _, .non, _ => by simp [D.eqv]
  | _, .bl _, _ => by simp [D.eqv]
  | _, .int _, _ => by simp [D.eqv]
  | 0, .tup _, h => by simp [plD] at h
  | 0, .lst _, h => by simp [plD] at h
  | n + 1, .tup xs, h => by
    simp only [plD] at h
    simpa [D.eqv] using eqvs_refl n xs h
  | n + 1, .lst xs, h => by
    simp only [plD] at h
    simpa [D.eqv] using eqvs_refl n xs h
  | 0, .str _, h => by simp [plD] at h
  | _ + 1, .str _, h => by simp [plD] at h
  | 0, .scr _, h => by simp [plD] at h
  | _ + 1, .scr _, h => by simp [plD] at h
theorem eqvs_refl : ∀ (n : Nat) (xs : List D), plDs n xs = true → D.eqvs xs xs = true
  | _, [], _ => by simp [D.eqvs]
  | n, x :: xs, h => by
    simp only [plDs, Bool.and_eq_true] at h
    simp [D.eqvs, eqv_refl n x h.1, eqvs_refl n xs h.2]
end
section
variable {C : CallS} {gv : Nat → Option D}
theorem law_loop {ms : List Nat} {N : Int} {b : ISs} {ns : List Int} {r : Nat} (hN : 0 ≤ N ∧ N ≤ 63) (hns : ns.length ≤ 63) (hms : ms.contains 0 = false) (h1 : ms.contains 1 = false)
    (h : ∀ k : Nat, k ≤ 100 → exs C gv b (.val (.d (.scr ns)) :: .val (.d (.int (k : Int))) :: List.replicate r .no) = .nx (.val (.d (.scr ns)) :: .no :: List.replicate r .no)) :
    endF [.v (dv (.scr ns))] (exs C gv (.cons (.forr ms (.n 1) (.rng1 (.bin .add (.min2 (.un .len (.v 0)) (.c (.int N))) (.c (.int 2)))) b) (.cons (.ret ms (.c (.bl true))) .nil)) (.val (.d (.scr ns)) :: .no :: List.replicate r .no)) = .ok (.d (.bl true)) [] := by
  have hk : (if N < (ns.length : Int) then N else (ns.length : Int)) + 2 ≤ 100 ∧ 0 ≤ (if N < (ns.length : Int) then N else (ns.length : Int)) + 2 := by split <;> omega
  have sg : inSmall ((if N < (ns.length : Int) then N else (ns.length : Int)) + 2) = true := inSmall_int (by omega) (by omega)
  have hm0 : (Mof ms 0) = false := hms
  have mx : ∀ ρ : WM.Env, (∀ s ∈ ρ, s = .no ∨ ∃ d, s = .val (.d d)) → mergeX (Mof ms) ρ ρ = ρ := by
    intro ρ hρ
    unfold mergeX
    refine List.ext_getElem? fun i => ?_
    rw [List.getElem?_map]
    by_cases hi : i < ρ.length
    · rw [List.getElem?_range hi, Option.map_some, List.getD_eq_getElem?_getD, List.getElem?_eq_getElem hi]
      rcases hρ _ (List.getElem_mem hi) with e | ⟨d, e⟩ <;> rw [e] <;> simp [unb]
    · rw [List.getElem?_eq_none (by simpa using hi), List.getElem?_eq_none (by omega)]; rfl
  have pl : ∀ s ∈ (Sl.val (.d (.scr ns)) :: .no :: List.replicate r Sl.no), s = .no ∨ ∃ d, s = .val (.d d) := by
    intro s hs
    rcases List.mem_cons.mp hs with rfl | hs
    · exact .inr ⟨_, rfl⟩
    · rcases List.mem_cons.mp hs with rfl | hs
      · exact .inl rfl
      · exact .inl (List.eq_of_mem_replicate hs)
  have no : noOwn (Mof ms) (Sl.val (.d (.scr ns)) :: .no :: List.replicate r Sl.no) = true := by
    unfold noOwn
    rw [List.all_eq_true]
    intro i hi
    have : ownAt (Sl.val (.d (.scr ns)) :: .no :: List.replicate r Sl.no) i = false := by
      unfold ownAt
      cases hq : (Sl.val (.d (.scr ns)) :: .no :: List.replicate r Sl.no)[i]? with
      | none => rfl
      | some s => rcases pl s (List.mem_of_getElem? hq) with e | ⟨d, e⟩ <;> rw [e]
    rw [this]; simp
  have lp := for_fold (S := Unit) (t := .n 1) (body := exs C gv b) (it := fun (k : Nat) => Itm.one (dv (.int (k : Int)))) (fun _ => (Sl.val (.d (.scr ns)) :: .no :: List.replicate r Sl.no)) (fun _ _ => ()) (List.range ((if N < (ns.length : Int) then N else (ns.length : Int)) + 2).toNat) () (fun _ k hk' => by
    have hk' := List.mem_range.mp hk'
    exact ⟨_, rfl, h k (by omega)⟩)
  have ei : evI C gv (Mof ms) (.rng1 (.bin .add (.min2 (.un .len (.v 0)) (.c (.int N))) (.c (.int 2)))) (.val (.d (.scr ns)) :: .no :: List.replicate r .no) = .ok ((List.range ((if N < (ns.length : Int) then N else (ns.length : Int)) + 2).toNat).map fun (k : Nat) => Itm.one (dv (.int (k : Int)))) (.val (.d (.scr ns)) :: .no :: List.replicate r .no) := by
    rw [← rngI0]
    simp_arith [sg]
  rw [x_exs1, x_forr, x_evIX, ei, x_finI (.inr no), mx _ pl, x_thn_ok, lp, x_nx, x_exs1, x_ret, x_evX, x_c]
  have : finX ms (Sl.val (.d (.scr ns)) :: .no :: List.replicate r Sl.no) (.ok (dv (.bl true)) (.val (.d (.scr ns)) :: .no :: List.replicate r .no)) = .ok (dv (.bl true)) (.val (.d (.scr ns)) :: .no :: List.replicate r .no) := by
    rw [x_fin1, mx _ pl]
  rw [this]
  simp_arith []
end
end WMk

namespace WMk
open PySem L2 WM
def wishedB (m : Mk) (g : Nat) : Bool := m.wi.any fun r => decide (0 < r.getD g 0)
section
variable {fns : Nat → Option IFn} {gv : Nat → Option D}
structure PrOk (n : Nat) (m : Mk) (p : List Rat) : Prop where
  len : p.length = m.am.length
  nn : ∀ q ∈ p, 0 ≤ q
  pos : ∀ g, g < m.am.length → (0 < p.getD g 0 ↔ wishedB m g = true)
  sz : ∀ q ∈ p, Sz n q
end
end WMk

namespace WMk
open PySem L2 WM
structure RpOk (n : Nat) (r : List Int) (p : List Rat) : Prop where
  len : p.length = r.length
  l6 : r.length ≤ 6
  w : ∀ x ∈ r, 0 ≤ x ∧ x ≤ 100
  sz : ∀ q ∈ p, Sz n q
  pos : ∀ g, g < r.length → 0 < r.getD g 0 → 0 < p.getD g 0
section
variable {fns : Nat → Option IFn} {gv : Nat → Option D}
end
end WMk

namespace WMk
open PySem L2 WM
theorem qd_ix0 (q : Rat) : ixV (dv (qD q)) 0 = some (dv (.int q.num)) := rfl
theorem qd_ix1 (q : Rat) : ixV (dv (qD q)) 1 = some (dv (.int (q.den : Int))) := rfl
section
variable {fns : Nat → Option IFn} {gv : Nat → Option D}
end
end WMk

namespace WMk
open PySem L2 WM
section
variable {fns : Nat → Option IFn} {gv : Nat → Option D}
end
end WMk

namespace WMk
open PySem L2 WM
section
variable {fns : Nat → Option IFn} {gv : Nat → Option D}
end
end WMk

namespace WMk
open PySem L2 WM
end WMk

namespace WMk
open PySem L2 WM
theorem x_catO {as os : List Ow} (h : as.length + os.length ≤ 100000) : binV .cat (.ow (.l as)) (.ow (.l os)) = some (.ow (.l (as ++ os))) := by
  show (if _ then _ else _) = _
  rw [if_pos (small_of h)]
theorem cut_to {α : Type} (xs ys : List α) {n : Nat} (h : n = xs.length) : cutD (xs ++ ys) none (some (n : Int)) = xs ∧ cutD (xs ++ ys) (some (n : Int)) none = ys := by
  subst h
  unfold cutD HT.sIx
  have e : ¬ ((xs.length : Int) < 0) := by omega
  constructor
  · simp [e]
  · simp [e]
section
variable {fns : Nat → Option IFn} {gv : Nat → Option D}
end
end WMk

namespace WMk
open PySem L2 WM
section
variable {fns : Nat → Option IFn} {gv : Nat → Option D}
def kpD (s : Str) (x : D) : D := .lst [.str s, x]
def goodS (s : Str) : Bool := PyData.canLay0 (.str s)
theorem kp_fit {s : Str} {x : D} {n : Nat} (h : goodS s = true) (hx : plD n x = true) (hn : n ≤ 60) : (kpD s x).fit = true ∧ (kpD s x).nos = true := by
  obtain ⟨a1, a2, a3⟩ := pl_lay n x hx
  unfold goodS at h
  refine ⟨?_, by simp [kpD, D.nos, D.noss, a3]⟩
  simp [kpD, D.fit, D.lay, D.lays, D.dep, D.deps, h, a1]
  omega
theorem ne_kp {s t : Str} {x y : D} {n m : Nat} (hs : goodS s = true) (ht : goodS t = true) (hx : plD n x = true) (hy : plD m y = true) (hn : n ≤ 60) (hm : m ≤ 60) :
    binV .ne (.ow (.l [.d (.str s), .d x])) (.ow (.l [.d (.str t), .d y])) = some (dv (.bl (!(s == t && D.eqv x y)))) := by
  obtain ⟨a1, a2⟩ := kp_fit hs hx hn
  obtain ⟨b1, b2⟩ := kp_fit ht hy hm
  show (if ((kpD s x).fit && (kpD t y).fit && (kpD s x).nos && (kpD t y).nos) = true then some (dv (.bl (!D.eqv (kpD s x) (kpD t y)))) else none) = _
  rw [a1, a2, b1, b2]
  simp [kpD, D.eqv, D.eqvs]
end
end WMk

namespace WMk
open PySem L2 WM
section
variable {fns : Nat → Option IFn} {gv : Nat → Option D}
end
end WMk

namespace WMk
open PySem L2 WM
theorem for_find {α : Type} {ρ : WM.Env} {t : Tg} {body : WM.Env → WM.RS} {it : α → Itm} (p : α → Option Ow) : ∀ (xs : List α), (∀ x ∈ xs, ∃ ρ1 ρx, putI ρ t (it x) = some ρ1 ∧ body ρ1 = match p x with | some o => .rt o ρx | none => .nx ρ) →
    ∃ ρ', forL t body (xs.map it) ρ = match xs.findSome? p with | some o => .rt o ρ' | none => .nx ρ
  | [], _ => ⟨ρ, rfl⟩
  | x :: xs, h => by
    obtain ⟨ρ1, ρx, e1, e2⟩ := h x List.mem_cons_self
    cases hp : p x with
    | some o =>
      rw [hp] at e2
      refine ⟨ρx, ?_⟩
      rw [List.findSome?_cons, hp, List.map_cons]
      show (match putI ρ t (it x) with | none => RS.bad | some ρ1 => (body ρ1).thn fun ρ2 => forL t body (xs.map it) ρ2) = _
      rw [e1]
      show (body ρ1).thn _ = _
      rw [e2]; rfl
    | none =>
      rw [hp] at e2
      obtain ⟨ρ', e3⟩ := for_find p xs fun y hy => h y (List.mem_cons_of_mem _ hy)
      refine ⟨ρ', ?_⟩
      rw [List.findSome?_cons, hp, List.map_cons]
      show (match putI ρ t (it x) with | none => RS.bad | some ρ1 => (body ρ1).thn fun ρ2 => forL t body (xs.map it) ρ2) = _
      rw [e1]
      show (body ρ1).thn _ = _
      rw [e2]
      exact e3
end WMk

namespace WMk
open PySem L2 WM
def TxOk (n : Nat) (z : Str) : Prop := z.length ≤ n ∧ ∀ c ∈ TL.tl z, c < 128
theorem TxOk.mono {n m : Nat} {z : Str} (h : TxOk n z) (k : n ≤ m) : TxOk m z := ⟨by have := h.1; omega, h.2⟩
theorem TxOk.good {n : Nat} {z : Str} (h : TxOk n z) : goodS z = true := by
  have : goodS z = PyData.strOk z := by unfold goodS; simp only [PyData.canLay0]
  rw [this]
  unfold PyData.strOk
  rw [Array.all_eq_true']
  intro c hc
  have := h.2 c (by simpa using hc)
  exact decide_eq_true (by omega)
theorem goodS_fit {s : Str} (h : goodS s = true) : (D.str s).fit = true := by
  unfold D.fit D.lay; unfold goodS at h; rw [h]; rfl
theorem tl_len (z : Str) : z.length = (TL.tl z).length := TL.len_tl z
theorem str_ext {s t : Str} (h : TL.tl s = TL.tl t) : s = t := by
  obtain ⟨⟨a⟩⟩ := s
  obtain ⟨⟨b⟩⟩ := t
  have : a = b := h
  rw [this]
theorem str_beq (s t : Str) : (s == t) = decide (TL.tl s = TL.tl t) := by
  by_cases c : TL.tl s = TL.tl t
  · rw [decide_eq_true c, str_ext c]; exact beq_self_eq_true t
  · rw [decide_eq_false c]
    cases hb : s == t with
    | false => rfl
    | true => exact absurd (congrArg TL.tl (eq_of_beq hb)) c
theorem tx_eq {s t : Str} (hs : goodS s = true) (ht : goodS t = true) : binV .eq (dv (.str s)) (dv (.str t)) = some (dv (.bl (decide (TL.tl s = TL.tl t)))) := by
  rw [x_eqD (goodS_fit hs) (goodS_fit ht) rfl rfl]
  simp [D.eqv, str_beq]
theorem tx_ne {s t : Str} (hs : goodS s = true) (ht : goodS t = true) : binV .ne (dv (.str s)) (dv (.str t)) = some (dv (.bl (!decide (TL.tl s = TL.tl t)))) := by
  rw [x_neD (goodS_fit hs) (goodS_fit ht) rfl rfl]
  simp [D.eqv, str_beq]
theorem good_e : goodS "" = true := by decide +kernel
theorem good_0 : goodS "0" = true := by decide +kernel
theorem tl_e : TL.tl "" = [] := by decide +kernel
theorem tl_0 : TL.tl "0" = [48] := by decide +kernel
theorem tl_fig : TL.tl "0123456789" = [48, 49, 50, 51, 52, 53, 54, 55, 56, 57] := by decide +kernel
theorem fig_mem (c : Nat) : decide (c ∈ ("0123456789" : Str).cps.toList) = decide (48 ≤ c ∧ c ≤ 57) := by
  apply decide_eq_decide.mpr
  rw [show ("0123456789" : Str).cps.toList = _ from tl_fig]
  simp only [List.mem_cons, List.not_mem_nil, or_false]
  omega
theorem good_one {c : Nat} (h : c < 128) : goodS ⟨#[c]⟩ = true := TxOk.good (n := 1) ⟨Nat.le_refl 1, fun x hx => by
  have : x = c := by simpa using hx
  omega⟩
theorem tl_one (c : Nat) : TL.tl ⟨#[c]⟩ = [c] := rfl
def figC (c : Nat) : Bool := decide (48 ≤ c ∧ c ≤ 57)
def figB (l : List Nat) : Bool := !decide (l = []) && (l.all figC && (!decide (l.head? = some 48) || decide (l = [48])))
def figN (z : Str) : Option Int := if figB (TL.tl z) = true then some ((NumText.digitsVal (TL.tl z) : Nat) : Int) else none
def figD : Option Int → D
  | none => .non
  | some n => .int n
theorem len_str {z : Str} (h : z.length ≤ 100000) : unV .len (dv (.str z)) = some (dv (.int (z.length : Int))) := by
  show (if _ then _ else _) = _
  rw [if_pos (show small z.length = true from decide_eq_true h)]
theorem small_of {n : Nat} (h : n ≤ 100000) : small n = true := decide_eq_true h
theorem int_str {z : Str} (h : z.length ≤ 640) (hb : (TL.tl z).all figC = true) (hn : TL.tl z ≠ []) : unV .int (dv (.str z)) = some (dv (.int ((NumText.digitsVal (TL.tl z) : Nat) : Int))) := by
  refine x_intS h (PySem.intText_digits ?_ hn (by omega))
  intro c hc
  simpa [figC] using List.all_eq_true.mp hb c hc
theorem atI_zero {α : Type} (x : α) (xs : List α) : atI (x :: xs) 0 = some x := by
  have := _root_.WM.atI_nat (xs := x :: xs) (i := 0) (by simp)
  simpa using this
section
variable {fns : Nat → Option IFn} {gv : Nat → Option D}
theorem number_eq [HasF fns 424 f424] (hf : gv 7 = some (.str "0123456789")) (d : Nat) {N : Nat} {z : Str} (h : TxOk N z) (hN : N ≤ 90000) (m : Int) (hm : m ≤ 640 ∨ N ≤ 640) :
    cs fns gv (d + 1) 424 [.v (dv (.str z)), .v (dv (.int m))] = .ok (.d (figD (if m < (z.length : Int) then none else figN z))) [] := by
  have hl := h.1
  have sm := small_of (n := z.length) (by omega)
  have e1 := tx_eq (h.good) good_e
  rw [tl_e] at e1
  have e2 := len_str (z := z) (by omega)
  have e5 := tx_ne (h.good) good_0
  rw [tl_0] at e5
  rw [r424]
  by_cases c0 : TL.tl z = []
  · have : figN z = none := by unfold figN figB; rw [c0]; rfl
    rw [this, ite_self]
    rw [c0, decide_eq_true rfl] at e1
    simp_arith [f424, e1, figD, c424_0, c424_1]
  · rw [decide_eq_false c0] at e1
    by_cases c1 : m < (z.length : Int)
    · rw [if_pos c1]
      have c1' : decide ((z.length : Int) > m) = true := decide_eq_true c1
      have c1'' := c1
      simp_arith [f424, e1, e2, figD, c1, c424_0, c424_1]
    · rw [if_neg c1]
      obtain ⟨c, r, hc⟩ := List.exists_cons_of_ne_nil c0
      have hc' : z.cps.toList = c :: r := hc
      have e3 : ixV (dv (.str z)) 0 = some (dv (.str ⟨#[c]⟩)) := by
        rw [x_ixStr sm, hc', atI_zero]; rfl
      have hcs : c < 128 := h.2 c (by rw [hc]; exact List.mem_cons_self)
      have e4 := tx_eq (good_one hcs) good_0
      rw [tl_0, tl_one] at e4
      have loop := _root_.WM.for_find (ρ := [.val (.d (.str (z))), .val (.d (.int (m : Int))), .no]) (t := .n 2) (body := exs (cs fns gv d) gv b424_0) (it := fun c => Itm.one (dv (.str ⟨#[c]⟩))) (fun c => !figC c) (fun c => .rt (.d .non) [.val (.d (.str (z))), .val (.d (.int (m : Int))), .val (.d (.str ((⟨#[c]⟩ : Str))))]) (TL.tl z) (fun x hx => by
        refine ⟨_, rfl, ?_⟩
        have q := fig_mem x
        have g7 := fun M ρ => x_g (C := cs fns gv d) (M := M) (ρ := ρ) hf
        simp_arith [b424_0, c424_1, g7, q]
        by_cases k : figC x = true
        · have k' : decide (48 ≤ x ∧ x ≤ 57) = true := k
          rw [k, k']; simp_arith []
        · have k2 : figC x = false := by simpa using k
          have k' : decide (48 ≤ x ∧ x ≤ 57) = false := k2
          rw [k2, k']; simp_arith []) (fun _ _ _ _ => rfl)
      have sI : signI z = (TL.tl z).map fun c => Itm.one (dv (.str ⟨#[c]⟩)) := rfl
      have cont : ∀ b : Bool, (b = (decide (c = 48) && !decide (TL.tl z = [48]))) → b = false → True := fun _ _ _ => trivial
      have c1' : ¬ ((z.length : Int) > m) := c1
      by_cases k1 : c = 48 ∧ TL.tl z ≠ [48]
      · obtain ⟨rfl, k2⟩ := k1
        have : figN z = none := by
          unfold figN figB
          rw [decide_eq_false k2, hc]
          simp
        rw [this]
        rw [decide_eq_true rfl] at e4
        rw [decide_eq_false k2] at e5
        simp_arith [f424, e1, e2, e3, e4, e5, c1, figD, c424_0, c424_1]
      · have hb : ∀ k, (decide ([c] = [48]) = k) → (k = false ∨ decide (TL.tl z = [48]) = true) := by
          intro k hk
          by_cases q : c = 48
          · right
            apply decide_eq_true
            by_cases q2 : TL.tl z = [48]
            · exact q2
            · exact absurd ⟨q, q2⟩ k1
          · left; rw [← hk]; simp [q]
        have fin : (!decide ((TL.tl z).head? = some 48) || decide (TL.tl z = [48])) = true := by
          rcases hb _ rfl with q | q
          · have : c ≠ 48 := by simpa using q
            rw [hc]; simp [this]
          · rw [q]; simp
        have go : ∀ x, x = (exs (cs fns gv d) gv (.cons (.forr [] (.n 2) (.s (.v 0)) b424_0) (.cons (.ret [] (.un .int (.v 0))) .nil)) [.val (.d (.str (z))), .val (.d (.int (m : Int))), .no]) → ∃ ρ', x = .rt (.d (figD (figN z))) ρ' := by
          intro x hx
          subst hx
          cases hall : (TL.tl z).all figC with
          | true =>
            have ft : (TL.tl z).find? (fun c => !figC c) = none := by
              rw [List.find?_eq_none]
              intro y hy
              simp [List.all_eq_true.mp hall y hy]
            rw [ft] at loop
            have e6 := int_str (z := z) (by omega) hall c0
            have : figN z = some ((NumText.digitsVal (TL.tl z) : Nat) : Int) := by
              unfold figN figB
              rw [hall, fin, decide_eq_false c0]; rfl
            rw [this]
            refine ⟨[.val (.d (.str (z))), .val (.d (.int (m : Int))), .no], ?_⟩
            simp_arith [sm, sI, loop, e6, figD]
          | false =>
            obtain ⟨y, hy⟩ : ∃ y, (TL.tl z).find? (fun c => !figC c) = some y := by
              cases hf2 : (TL.tl z).find? (fun c => !figC c) with
              | some y => exact ⟨y, rfl⟩
              | none =>
                exfalso
                rw [List.find?_eq_none] at hf2
                have : (TL.tl z).all figC = true := List.all_eq_true.mpr fun x hx => by simpa using hf2 x hx
                rw [this] at hall
                exact absurd hall (by decide)
            rw [hy] at loop
            have : figN z = none := by
              unfold figN figB
              rw [hall]; simp
            rw [this]
            refine ⟨[.val (.d (.str (z))), .val (.d (.int (m : Int))), .val (.d (.str ((⟨#[y]⟩ : Str))))], ?_⟩
            simp_arith [sm, sI, loop, figD]
        obtain ⟨ρ', go⟩ := go _ rfl
        rcases Bool.eq_false_or_eq_true (decide ([c] = [48])) with q | q
        · have q2 := (hb _ q).resolve_left (by decide)
          rw [q] at e4
          rw [q2] at e5
          simp_arith [f424, e1, e2, e3, e4, e5, c1, go, c424_0, c424_1]
        · rw [q] at e4
          simp_arith [f424, e1, e2, e3, e4, c1, go, c424_0, c424_1]
end
end WMk

namespace WMk
open PySem L2 WM
theorem spl_ne (s : Nat) : ∀ (l acc : List Nat), TL.spl [s] 0 acc l ≠ []
  | [], acc => by rw [TL.spl.eq_1]; exact List.cons_ne_nil _ _
  | c :: r, acc => by
    rw [TL.spl.eq_2]
    split
    · exact List.cons_ne_nil _ _
    · exact spl_ne s r _
theorem spl_parts (s : Nat) : ∀ (l acc : List Nat), ∀ p ∈ TL.spl [s] 0 acc l, p.length ≤ acc.length + l.length ∧ ∀ c ∈ p, c ∈ acc ∨ c ∈ l
  | [], acc, p, hp => by
    rw [TL.spl.eq_1] at hp
    rw [List.mem_singleton.mp hp]
    exact ⟨by simp, fun c hc => .inl hc⟩
  | c :: r, acc, p, hp => by
    rw [TL.spl.eq_2] at hp
    split at hp
    · rcases List.mem_cons.mp hp with rfl | hp
      · exact ⟨by simp, fun c hc => .inl hc⟩
      · obtain ⟨h1, h2⟩ := spl_parts s r [] p hp
        refine ⟨by simp at h1 ⊢; omega, fun x hx => .inr ?_⟩
        rcases h2 x hx with h | h
        · cases h
        · exact List.mem_cons_of_mem _ h
    · obtain ⟨h1, h2⟩ := spl_parts s r (acc ++ [c]) p hp
      refine ⟨by simp at h1 ⊢; omega, fun x hx => ?_⟩
      rcases h2 x hx with h | h
      · rcases List.mem_append.mp h with h | h
        · exact .inl h
        · rw [List.mem_singleton.mp h]; exact .inr List.mem_cons_self
      · exact .inr (List.mem_cons_of_mem _ h)
theorem kind_ge (x : Str) : 1 ≤ Builtin.Str.strKind x := by
  unfold Builtin.Str.strKind
  split
  · omega
  · split <;> omega
theorem split_tl (x : Str) {y : Str} {s : Nat} (hy : TL.tl y = [s]) (hs : s < 128) : (Txt.split x y).map TL.tl = TL.spl [s] 0 [] (TL.tl x) := by
  have k : Builtin.Str.strKind y = 1 := by
    unfold Builtin.Str.strKind
    rw [if_pos]
    rw [Array.all_eq_true']
    intro c hc
    have : c ∈ TL.tl y := by simpa using hc
    rw [hy] at this
    have := List.mem_singleton.mp this
    exact decide_eq_true (by omega)
  have := TL.split_spl x y (by rw [hy]; exact List.cons_ne_nil _ _) (by have := kind_ge x; omega)
  rw [this, hy]
theorem split_ok {n : Nat} {x y : Str} {s : Nat} (hx : TxOk n x) (hy : TL.tl y = [s]) (hs : s < 128) : Txt.split x y ≠ [] ∧ ∀ p ∈ Txt.split x y, TxOk n p ∧ p.length ≤ x.length := by
  have e := split_tl x hy hs
  refine ⟨fun h => ?_, fun p hp => ?_⟩
  · rw [h] at e
    exact spl_ne s (TL.tl x) [] e.symm
  · have hm : TL.tl p ∈ TL.spl [s] 0 [] (TL.tl x) := by rw [← e]; exact List.mem_map_of_mem hp
    obtain ⟨h1, h2⟩ := spl_parts s _ _ _ hm
    have hl : p.length ≤ x.length := by rw [tl_len, tl_len x]; simpa using h1
    refine ⟨⟨by have := hx.1; omega, fun c hc => ?_⟩, hl⟩
    rcases h2 c hc with h | h
    · cases h
    · exact hx.2 c h
theorem split_many {n : Nat} {x y : Str} {s : Nat} (hx : TxOk n x) (hy : TL.tl y = [s]) (hs : s < 128) : (Txt.split x y).length ≤ n + 1 := by
  have e := congrArg List.length (split_tl x hy hs)
  rw [List.length_map] at e
  rw [e]
  have : ∀ (l acc : List Nat), (TL.spl [s] 0 acc l).length ≤ l.length + 1 := by
    intro l
    induction l with
    | nil => intro acc; rw [TL.spl.eq_1]; simp
    | cons c r ih =>
      intro acc
      rw [TL.spl.eq_2]
      split
      · have := ih []; simp at this ⊢; omega
      · have := ih (acc ++ [c]); simp at this ⊢; omega
  have h := this (TL.tl x) []
  have := hx.1
  rw [tl_len] at this
  omega
theorem tl_sl : TL.tl "/" = [47] := by decide +kernel
theorem split_v {x : Str} {y : Str} {s : Nat} {n : Nat} (hx : TxOk n x) (hn : n ≤ 100000) (hy : TL.tl y = [s]) : splitV (dv (.str x)) (dv (.str y)) = some (.ow (.l ((Txt.split x y).map fun p => Ow.d (.str p)))) := by
  show (if _ then _ else _) = _
  rw [if_pos]
  have : y.length = 1 := by rw [tl_len, hy]; rfl
  rw [this, small_of (by have := hx.1; omega)]; rfl
theorem ne_nilS {ss : List Str} (h : ∀ s ∈ ss, goodS s = true) : binV .ne (.ow (.l (ss.map fun s => Ow.d (.str s)))) (.ow (.l [])) = some (dv (.bl (!decide (ss = [])))) := by
  have lk : (Vl.ow (.l (ss.map fun s => Ow.d (.str s)))).look = .lst (ss.map D.str) := by
    show D.lst (Ow.toDs _) = _
    rw [Ow.toDs_eq, List.map_map]; rfl
  have l1 : ∀ (ss : List Str), (∀ s ∈ ss, goodS s = true) → D.lays (ss.map D.str) = true := by
    intro ss
    induction ss with
    | nil => intro _; rfl
    | cons s ss ih =>
      intro h
      rw [List.map_cons]
      unfold D.lays
      rw [ih fun t ht => h t (List.mem_cons_of_mem _ ht)]
      have := h s List.mem_cons_self
      unfold goodS at this
      unfold D.lay
      rw [this]; rfl
  have l2 : ∀ (ss : List Str), D.deps (ss.map D.str) = 0 := by
    intro ss
    induction ss with
    | nil => rfl
    | cons s ss ih => rw [List.map_cons]; unfold D.deps; rw [ih]; rfl
  have l3 : ∀ (ss : List Str), D.noss (ss.map D.str) = true := by
    intro ss
    induction ss with
    | nil => rfl
    | cons s ss ih => rw [List.map_cons]; unfold D.noss; rw [ih]; rfl
  show (if ((Vl.ow (.l (ss.map fun s => Ow.d (.str s)))).look.fit && (Vl.ow (.l [])).look.fit && (Vl.ow (.l (ss.map fun s => Ow.d (.str s)))).look.nos && (Vl.ow (.l [])).look.nos) = true then _ else _) = _
  rw [lk]
  have f1 : (D.lst (ss.map D.str)).fit = true := by
    unfold D.fit D.lay D.dep
    rw [l1 ss h, l2]; rfl
  have f2 : (D.lst (ss.map D.str)).nos = true := by unfold D.nos; exact l3 ss
  rw [f1, f2, if_pos (by rfl)]
  cases ss with
  | nil => rfl
  | cons s ss => rfl
section
variable {fns : Nat → Option IFn} {gv : Nat → Option D}
end
end WMk

namespace WMk
open PySem L2 WM
theorem digits_lt : ∀ (l : List Nat) (a : Nat), (∀ c ∈ l, figC c = true) → l.foldl (fun acc c => acc * 10 + (c - 48)) a < (a + 1) * 10 ^ l.length
  | [], a, _ => by simp
  | c :: r, a, h => by
    have := digits_lt r (a * 10 + (c - 48)) fun x hx => h x (List.mem_cons_of_mem _ hx)
    have hc : 48 ≤ c ∧ c ≤ 57 := by simpa [figC] using h c List.mem_cons_self
    rw [List.foldl_cons, List.length_cons, Nat.pow_succ]
    refine Nat.lt_of_lt_of_le this ?_
    have : a * 10 + (c - 48) + 1 ≤ (a + 1) * 10 := by omega
    calc (a * 10 + (c - 48) + 1) * 10 ^ r.length ≤ ((a + 1) * 10) * 10 ^ r.length := Nat.mul_le_mul_right _ this
      _ = (a + 1) * (10 ^ r.length * 10) := by rw [Nat.mul_assoc, Nat.mul_comm 10]
theorem figN_rng {n : Nat} {z : Str} (h : TxOk n z) {v : Int} (e : figN z = some v) : 0 ≤ v ∧ v.natAbs < 2 ^ (4 * n) := by
  unfold figN at e
  split at e
  · rename_i hb
    cases e
    unfold figB at hb
    simp only [Bool.and_eq_true] at hb
    have := digits_lt (TL.tl z) 0 fun c hc => List.all_eq_true.mp hb.2.1 c hc
    refine ⟨by omega, ?_⟩
    rw [Int.natAbs_natCast]
    have h1 : NumText.digitsVal (TL.tl z) < 10 ^ (TL.tl z).length := by simpa [NumText.digitsVal] using this
    have h2 : (10 : Nat) ^ (TL.tl z).length ≤ 16 ^ (TL.tl z).length := Nat.pow_le_pow_left (by omega) _
    have h3 : (16 : Nat) ^ (TL.tl z).length = 2 ^ (4 * (TL.tl z).length) := by rw [show (16 : Nat) = 2 ^ 4 from rfl, ← Nat.pow_mul]
    have h4 : (2 : Nat) ^ (4 * (TL.tl z).length) ≤ 2 ^ (4 * n) := two_mono (by have := h.1; rw [tl_len] at this; omega)
    omega
  · cases e
theorem low_same {a b : Int} (hb : 2 ≤ b) : ((Rat.divInt a b).num = a ∧ ((Rat.divInt a b).den : Int) = b) ↔ gcdI a b = 1 := by
  have h0 : b ≠ 0 := by omega
  obtain ⟨n1, n2⟩ := low_num (t := a) h0
  have hl : lowBy a b = gcdI a b := if_neg (by omega)
  have gp := gcdI_pos (t := a) h0
  rw [hl] at n1 n2
  constructor
  · rintro ⟨h1, h2⟩
    rw [h2, Int.fdiv_eq_ediv_of_nonneg _ (by omega)] at n2
    by_cases q : gcdI a b = 1
    · exact q
    · exfalso
      have q2 : 2 ≤ gcdI a b := by omega
      have := Int.ediv_mul_le b (by omega : gcdI a b ≠ 0)
      rw [n2] at this
      have : b * 2 ≤ b * gcdI a b := Int.mul_le_mul_of_nonneg_left q2 (by omega)
      omega
  · intro h
    rw [h] at n1 n2
    simp at n1 n2
    exact ⟨n1.symm, n2.symm⟩
def fracO : List (Option Int) → Option (Int × Int)
  | [some a] => some (a, 1)
  | [some a, some b] => if b < 2 ∨ gcdI a b ≠ 1 then none else some (a, b)
  | _ => none
def fracD : Option (Int × Int) → D
  | none => .non
  | some (a, b) => .tup [.int a, .int b]
theorem figD_n : figD none = .non := rfl
theorem figD_s (n : Int) : figD (some n) = .int n := rfl
def numsB (z : Str) (m : Int) : List (Option Int) := (Txt.split z "/").map fun p => if m < (p.length : Int) then none else figN p
def numsL (z : Str) : List (Option Int) := (Txt.split z "/").map figN
theorem in_non (os : List (Option Int)) : binV .isIn (dv .non) (dv (.lst (os.map figD))) = some (dv (.bl (os.any Option.isNone))) := by
  have l1 : ∀ os : List (Option Int), D.lays (os.map figD) = true ∧ D.deps (os.map figD) = 0 ∧ D.noss (os.map figD) = true := by
    intro os
    induction os with
    | nil => exact ⟨rfl, rfl, rfl⟩
    | cons o os ih =>
      obtain ⟨h1, h2, h3⟩ := ih
      rw [List.map_cons]
      unfold D.lays D.deps D.noss
      rw [h1, h2, h3]
      cases o <;> exact ⟨rfl, rfl, rfl⟩
  obtain ⟨h1, h2, h3⟩ := l1 os
  have f1 : (D.lst (os.map figD)).fit = true := by
    unfold D.fit D.lay D.dep
    rw [h1, h2]; rfl
  show (if (D.non.fit && (D.lst (os.map figD)).fit && D.non.nos && D.noss (os.map figD)) = true then some ((os.map figD).any fun z => D.eqv z .non) else none).map _ = _
  rw [f1, h3, if_pos (by rfl), List.any_map]
  show some _ = _
  congr 3
  funext o
  cases o <;> rfl
section
variable {fns : Nat → Option IFn} {gv : Nat → Option D}
theorem fracof_eq [HasF fns 0 f0] [HasF fns 424 f424] [HasF fns 425 f425] (hf : gv 7 = some (.str "0123456789")) (d : Nat) {N : Nat} {z : Str} (h : TxOk N z) (hN : N ≤ 90000) (m : Int) (hm : m ≤ 640 ∨ N ≤ 640) :
    cs fns gv (d + 2) 425 [.v (dv (.str z)), .v (dv (.int m))] = .ok (.d (fracD (fracO (numsB z m)))) [] := by
  have sp := split_v h (by omega) tl_sl
  obtain ⟨ne, po⟩ := split_ok h tl_sl (by omega)
  have many := split_many h tl_sl (by omega)
  have l := lc_map (M := Mof []) (t := .n 4) (body := lcBody false (ev (cs fns gv (d + 1)) gv (Mof []) (.c (.bl true))) (ev (cs fns gv (d + 1)) gv (Mof []) (.call 424 (.val (.v 4) (.val (.v 1) .nil))))) (ρ := [.val (.d (.str (z))), .val (.d (.int (m : Int))), .val (.d (.lst ((Txt.split z "/").map D.str))), .no, .no]) (xs := Txt.split z "/") (it := fun p => Itm.one (dv (.str p))) (fun p => Ow.d (figD (if m < (p.length : Int) then none else figN p))) (fun p hp => by
    have e := number_eq (fns := fns) (gv := gv) hf d (po p hp).1 hN m hm
    simp_arith [e]) (by omega)
  have rng : ∀ v, v ∈ numsB z m → ∀ x, v = some x → x.natAbs < 2 ^ (4 * N) := by
    intro v hv x hx
    subst hx
    obtain ⟨p, hp, e⟩ := List.mem_map.mp hv
    split at e
    · cases e
    · exact (figN_rng (po p hp).1 e).2
  have im : ∀ M, itemsM M (dv (.lst ((Txt.split z "/").map D.str))) = some (((Txt.split z "/").map D.str).map dv) := fun M => by
    show (if _ then _ else _) = _
    rw [if_neg (by rw [show (dv (.lst ((Txt.split z "/").map D.str))).isBw = false from rfl, Bool.and_false]; exact Bool.false_ne_true)]; rfl
  have em : (((Txt.split z "/").map D.str).map dv).map Itm.one = (Txt.split z "/").map fun p => Itm.one (dv (.str p)) := by rw [List.map_map, List.map_map]; rfl
  have to : Ow.toDs ((Txt.split z "/").map fun p => Ow.d (.str p)) = (Txt.split z "/").map D.str := toDs_map' D.str _
  have to2 : Ow.toDs ((Txt.split z "/").map fun p => Ow.d (figD (if m < (p.length : Int) then none else figN p))) = (numsB z m).map figD := by
    rw [toDs_map' (fun p : Str => figD (if m < (p.length : Int) then none else figN p))]
    unfold numsB
    rw [List.map_map]; rfl
  have inn := in_non (numsB z m)
  have ln : (numsB z m).length = (Txt.split z "/").length := by unfold numsB; rw [List.length_map]
  generalize hNn : numsB z m = NB at *
  have len1 : unV .len (dv (.lst ((Txt.split z "/").map D.str))) = some (dv (.int ((Txt.split z "/").length : Int))) := by
    show some (dv (.int (((Txt.split z "/").map D.str).length : Int))) = _
    rw [List.length_map]
  have len2 : unV .len (dv (.lst (NB.map figD))) = some (dv (.int (NB.length : Int))) := by
    show some (dv (.int ((NB.map figD).length : Int))) = _
    rw [List.length_map]
  have np : 0 < (Txt.split z "/").length := List.length_pos_iff.mpr ne
  rw [r425]
  by_cases c2 : 2 < (Txt.split z "/").length
  · have : fracO NB = none := by
      match NB, ln with
      | [], h => rfl
      | [_], h => simp at h; omega
      | [_, _], h => simp at h; omega
      | x :: y :: _ :: _, _ => cases x <;> cases y <;> rfl
    rw [this]
    have c2' : decide ((2 : Int) < ((Txt.split z "/").length : Int)) = true := decide_eq_true (by omega)
    simp_arith [f425, sp, to, len1, c2', fracD, c425_0, c425_1, c425_2, c425_3]
  · have c2' : decide ((2 : Int) < ((Txt.split z "/").length : Int)) = false := decide_eq_false (by omega)
    match hN2 : NB, ln with
    | [], h => simp at h; omega
    | [none], h =>
      simp only [List.any_cons, List.any_nil, Option.isNone_none, Bool.or_false, List.map_cons, List.map_nil, figD_n, figD_s] at inn
      simp_arith [f425, sp, to, len1, c2', im, em, l, to2, inn, fracD, fracO, figD_n, figD_s, c425_0, c425_1, c425_2, c425_3]
    | [some a], h =>
      simp only [List.any_cons, List.any_nil, Option.isNone_some, Bool.or_false, List.map_cons, List.map_nil, figD_n, figD_s] at inn
      simp_arith [f425, sp, to, len1, c2', im, em, l, to2, inn, fracD, fracO, figD_n, figD_s, c425_0, c425_1, c425_2, c425_3]
    | [none, b], h =>
      simp only [List.any_cons, List.any_nil, Option.isNone_none, Bool.true_or, List.map_cons, List.map_nil, figD_n, figD_s] at inn
      simp_arith [f425, sp, to, len1, c2', im, em, l, to2, inn, fracD, fracO, figD_n, figD_s, c425_0, c425_1, c425_2, c425_3]
    | [some a, none], h =>
      simp only [List.any_cons, List.any_nil, Option.isNone_none, Option.isNone_some, Bool.or_true, Bool.true_or, List.map_cons, List.map_nil, figD_n, figD_s] at inn
      simp_arith [f425, sp, to, len1, c2', im, em, l, to2, inn, fracD, fracO, figD_n, figD_s, c425_0, c425_1, c425_2, c425_3]
    | [some a, some b], h =>
      simp only [List.any_cons, List.any_nil, Option.isNone_some, Bool.or_false, List.map_cons, List.map_nil, figD_n, figD_s] at inn
      have rb := rng (some b) (by simp) b rfl
      have hl : lg b < 133000000 := by have := lg_lt rb; omega
      have e := divisor_eq (fns := fns) (gv := gv) d a b hl
      by_cases c3 : b < 2
      · have : fracO [some a, some b] = none := if_pos (.inl c3)
        rw [this]
        have c3' : decide (b < 2) = true := decide_eq_true c3
        simp_arith [f425, sp, to, len1, c2', im, em, l, to2, inn, fracD, figD_n, figD_s, c3, c425_0, c425_1, c425_2, c425_3]
      · by_cases c4 : gcdI a b = 1
        · have : fracO [some a, some b] = some (a, b) := if_neg (by rintro (h | h); exact c3 h; exact h c4)
          rw [this]
          simp_arith [f425, sp, to, len1, c2', im, em, l, to2, inn, fracD, figD_n, figD_s, c3, e, c4, c425_0, c425_1, c425_2, c425_3]
        · have : fracO [some a, some b] = none := if_pos (.inr c4)
          rw [this]
          have c4' : (gcdI a b == 1) = false := by simpa using c4
          simp_arith [f425, sp, to, len1, c2', im, em, l, to2, inn, fracD, figD_n, figD_s, c3, e, c4', c425_0, c425_1, c425_2, c425_3]
    | _ :: _ :: _ :: _, h => simp at h; omega
end
end WMk

namespace WMk
open PySem L2 WM
section
variable {fns : Nat → Option IFn} {gv : Nat → Option D}
def readL : Option (Int × Int) → Ow
  | some p => .l [.d (.str ""), .d (fracD (some p))]
  | none => .l [.d (.str "NoText+"), .d .non]
end
end WMk

namespace WMk
open PySem L2 WM
theorem cut_tx {n : Nat} {z : Str} (h : TxOk n z) (lo hi : Option Int) : TxOk n (L2.cutS z lo hi) := by
  refine ⟨?_, fun c hc => h.2 c ?_⟩
  · rw [tl_len]
    show ((z.cps.toList.drop _).take _).length ≤ n
    rw [List.length_take, List.length_drop]
    have := h.1
    rw [tl_len] at this
    have : z.cps.toList.length ≤ n := this
    omega
  · exact List.mem_of_mem_drop (List.mem_of_mem_take (show c ∈ (z.cps.toList.drop _).take _ from hc))
theorem rev_tx {n : Nat} {z : Str} (h : TxOk n z) : TxOk n (revS z) := by
  refine ⟨by rw [revS_len]; exact h.1, fun c hc => h.2 c ?_⟩
  exact List.mem_reverse.mp (show c ∈ z.cps.toList.reverse from hc)
theorem app_tx {n m : Nat} {a b : Str} (h : TxOk n a) (k : TxOk m b) : TxOk (n + m) (a ++ b) := by
  have e := TL.tl_append a b
  refine ⟨?_, fun c hc => ?_⟩
  · rw [tl_len, e, List.length_append, ← tl_len, ← tl_len]
    have := h.1
    have := k.1
    omega
  · rw [e] at hc
    rcases List.mem_append.mp hc with hc | hc
    · exact h.2 c hc
    · exact k.2 c hc
def nS (k : Nat) : Str := Str.ofString (toString (k : Int))
theorem nS_tl (k : Nat) : TL.tl (nS k) = TL.numL k := TL.tl_num k
theorem nS_tx {k n : Nat} (h0 : 0 < n) (h : k < 10 ^ n) : TxOk n (nS k) := by
  refine ⟨by rw [tl_len, nS_tl]; exact TL.numL_len h0 h, fun c hc => ?_⟩
  rw [nS_tl] at hc
  have := TL.numL_digits k c hc
  omega
theorem numL_head : ∀ (k : Nat), (TL.numL k).head? = some 48 → k = 0 := by
  intro k
  induction k using Nat.strongRecOn with
  | ind k ih =>
    intro h
    by_cases c : k < 10
    · rw [TL.numL_lt c] at h
      simp at h
      exact h
    · rw [TL.numL_step (by omega)] at h
      have ne := TL.numL_ne (k / 10)
      obtain ⟨x, r, e⟩ := List.exists_cons_of_ne_nil ne
      rw [e] at h
      have := ih (k / 10) (by omega) (by rw [e]; simpa using h)
      omega
def figL (l : List Nat) : Option Int := if figB l = true then some ((NumText.digitsVal l : Nat) : Int) else none
theorem figN_L (z : Str) : figN z = figL (TL.tl z) := rfl
theorem figL_num (k : Nat) : figL (TL.numL k) = some (k : Int) := by
  have ha : (TL.numL k).all figC = true := List.all_eq_true.mpr fun c hc => by simpa [figC] using TL.numL_digits k c hc
  have hb : figB (TL.numL k) = true := by
    unfold figB
    rw [ha, decide_eq_false (TL.numL_ne k)]
    by_cases c : (TL.numL k).head? = some 48
    · have := numL_head k c
      subst this
      rw [TL.numL_lt (by omega)]; rfl
    · rw [decide_eq_false c]; rfl
  unfold figL
  rw [hb, if_pos rfl, TL.numL_val]
theorem numsL_tl (z : Str) : numsL z = (TL.spl [47] 0 [] (TL.tl z)).map figL := by
  rw [← split_tl z tl_sl (by omega), List.map_map]; rfl
theorem numsL_one (k : Nat) {z : Str} (h : TL.tl z = TL.numL k) : numsL z = [some (k : Int)] := by
  rw [numsL_tl, h]
  have := TL.spl_join (s := 47) (S := []) (parts := [TL.numL k]) (List.cons_ne_nil _ _) (fun p hp => by
    rw [List.mem_singleton.mp hp]; exact TL.numL_free (by omega))
  rw [TL.joinL.eq_2] at this
  rw [this]
  simp [figL_num]
theorem numsL_two (k j : Nat) {z : Str} (h : TL.tl z = TL.numL k ++ ([47] ++ TL.numL j)) : numsL z = [some (k : Int), some (j : Int)] := by
  rw [numsL_tl, h]
  have := TL.spl_join (s := 47) (S := []) (parts := [TL.numL k, TL.numL j]) (List.cons_ne_nil _ _) (fun p hp => by
    rcases List.mem_cons.mp hp with rfl | hp
    · exact TL.numL_free (by omega)
    · rw [List.mem_singleton.mp hp]; exact TL.numL_free (by omega))
  rw [TL.joinL.eq_3, TL.joinL.eq_2] at this
  rw [this]
  simp [figL_num]
def qS (r : Rat) : Str := if r.den = 1 then nS r.num.toNat else nS r.num.toNat ++ "/" ++ nS r.den
theorem qS_read {r : Rat} (h : 0 ≤ r) : fracO (numsL (qS r)) = some (r.num, (r.den : Int)) := by
  have hn : 0 ≤ r.num := Rat.num_nonneg.mpr h
  have e : ((r.num.toNat : Nat) : Int) = r.num := Int.toNat_of_nonneg hn
  have hd := r.den_nz
  unfold qS
  split
  · rename_i h1
    rw [numsL_one _ (nS_tl _)]
    show some _ = _
    rw [e, h1]; rfl
  · rename_i h1
    rw [numsL_two r.num.toNat r.den (by rw [TL.tl_append, TL.tl_append, nS_tl, nS_tl, tl_sl, List.append_assoc])]
    show (if _ then _ else _) = _
    rw [e, if_neg]
    rintro (h | h)
    · omega
    · apply h
      unfold gcdI
      have := r.reduced
      rw [Int.natAbs_natCast]
      exact congrArg Nat.cast this
theorem qS_tx {r : Rat} {n : Nat} (h0 : 0 < n) (h1 : r.num.toNat < 10 ^ n) (h2 : r.den < 10 ^ n) : TxOk (n + 1 + n) (qS r) := by
  unfold qS
  split
  · exact (nS_tx h0 h1).mono (by omega)
  · refine app_tx (app_tx (nS_tx h0 h1) ⟨by rw [tl_len, tl_sl]; exact Nat.le_refl 1, ?_⟩) (nS_tx h0 h2)
    intro c hc
    rw [tl_sl] at hc
    rw [List.mem_singleton.mp hc]; omega
section
variable {fns : Nat → Option IFn} {gv : Nat → Option D}
theorem moved32_eq [HasF fns 2 f2] [HasF fns 427 f427] (d : Nat) (x : Bg) {n : Nat} {z w : Str} (hz : TxOk n z) (hw : TxOk 1 w) (hn : n ≤ 30000) :
    ∃ v x', TxOk (3 * n + 1) v ∧ cs fns gv (d + 2) 427 [.r (bagL x), .v (dv (.str z)), .v (dv (.str w))] = .ok (.d (.str v)) [bagL x'] := by
  have T := fun (y : Bg) (m : Int) (hm : tkM m = true) => take_eq (fns := fns) (gv := gv) d y m hm
  have hl := hz.1
  have sm := small_of (n := z.length) (by omega)
  have len := len_str (z := z) (by omega)
  have tz : tkM ((z.length : Int) + 1) = true := by unfold tkM; simp; omega
  have t5 : tkM 5 = true := rfl
  have sl := fun lo hi => x_slStr (z := z) (lo := lo) (hi := hi) sm
  have r := (x.nx ((z.length : Int) + 1)).tk_rng t5
  have cat : ∀ a b : Str, TxOk n a → TxOk n b → binV .scat (dv (.str a)) (dv (.str b)) = some (dv (.str (a ++ b))) := fun a b ha hb => x_scat (small_of (by have := ha.1; have := hb.1; omega))
  have cat2 : ∀ a b : Str, TxOk n a → TxOk 1 b → binV .scat (dv (.str a)) (dv (.str b)) = some (dv (.str (a ++ b))) := fun a b ha hb => x_scat (small_of (by have := ha.1; have := hb.1; omega))
  have cat3 : ∀ a b : Str, TxOk (n + 1) a → TxOk n b → binV .scat (dv (.str a)) (dv (.str b)) = some (dv (.str (a ++ b))) := fun a b ha hb => x_scat (small_of (by have := ha.1; have := hb.1; omega))
  have cat4 : ∀ a b : Str, TxOk (n + n) a → TxOk n b → binV .scat (dv (.str a)) (dv (.str b)) = some (dv (.str (a ++ b))) := fun a b ha hb => x_scat (small_of (by have := ha.1; have := hb.1; omega))
  have c0 := fun lo hi => cut_tx hz lo hi
  rw [r427]
  obtain ⟨at_, hat⟩ : ∃ a, x.tk ((z.length : Int) + 1) = a := ⟨_, rfl⟩
  have cases5 : (x.nx ((z.length : Int) + 1)).tk 5 = 0 ∨ (x.nx ((z.length : Int) + 1)).tk 5 = 1 ∨ (x.nx ((z.length : Int) + 1)).tk 5 = 2 ∨ (x.nx ((z.length : Int) + 1)).tk 5 = 3 ∨ (x.nx ((z.length : Int) + 1)).tk 5 = 4 := by omega
  obtain ⟨x2, hx2⟩ : ∃ y, (x.nx ((z.length : Int) + 1)).nx 5 = y := ⟨_, rfl⟩
  rcases cases5 with q | q | q | q | q
  · refine ⟨L2.cutS z none (some at_) ++ L2.cutS z (some (at_ + 1)) none, x2, (app_tx (c0 _ _) (c0 _ _)).mono (by omega), ?_⟩
    have k := cat _ _ (c0 none (some at_)) (c0 (some (at_ + 1)) none)
    unfold bagL at *
    simp_arith [f427, T, len, tz, t5, hat, q, sl, k, hx2, c427_0, c427_1, c427_2, c427_3]
  · refine ⟨L2.cutS z none (some (at_ + 1)) ++ L2.cutS z (some at_) none, x2, (app_tx (c0 _ _) (c0 _ _)).mono (by omega), ?_⟩
    have k := cat _ _ (c0 none (some (at_ + 1))) (c0 (some at_) none)
    unfold bagL at *
    simp_arith [f427, T, len, tz, t5, hat, q, sl, k, hx2, c427_0, c427_1, c427_2, c427_3]
  · refine ⟨L2.cutS z none (some at_) ++ w ++ L2.cutS z (some at_) none, x2, (app_tx (app_tx (c0 _ _) hw) (c0 _ _)).mono (by omega), ?_⟩
    have k := cat2 _ _ (c0 none (some at_)) hw
    have k2 := cat3 _ _ (app_tx (c0 none (some at_)) hw) (c0 (some at_) none)
    unfold bagL at *
    simp_arith [f427, T, len, tz, t5, hat, q, sl, k, k2, hx2, c427_0, c427_1, c427_2, c427_3]
  · refine ⟨L2.cutS z none (some at_) ++ revS (L2.cutS z (some at_) (some (at_ + 2))) ++ L2.cutS z (some (at_ + 2)) none, x2, (app_tx (app_tx (c0 _ _) (rev_tx (c0 _ _))) (c0 _ _)).mono (by omega), ?_⟩
    have k := cat _ _ (c0 none (some at_)) (rev_tx (c0 (some at_) (some (at_ + 2))))
    have k2 := cat4 _ _ (app_tx (c0 none (some at_)) (rev_tx (c0 (some at_) (some (at_ + 2))))) (c0 (some (at_ + 2)) none)
    have k3 := small_of (n := (L2.cutS z (some at_) (some (at_ + 2))).length) (by have := (c0 (some at_) (some (at_ + 2))).1; omega)
    unfold bagL at *
    simp_arith [f427, T, len, tz, t5, hat, q, sl, k, k2, k3, hx2, c427_0, c427_1, c427_2, c427_3]
  · refine ⟨L2.cutS z none (some at_) ++ w ++ L2.cutS z (some (at_ + 1)) none, x2, (app_tx (app_tx (c0 _ _) hw) (c0 _ _)).mono (by omega), ?_⟩
    have k := cat2 _ _ (c0 none (some at_)) hw
    have k2 := cat3 _ _ (app_tx (c0 none (some at_)) hw) (c0 (some (at_ + 1)) none)
    unfold bagL at *
    simp_arith [f427, T, len, tz, t5, hat, q, sl, k, k2, hx2, c427_0, c427_1, c427_2, c427_3]
def signsA : Str := " !\"#$&'()*+,-./0123456789:;<=>?@ABCDEFGHIJKLMNOPQRSTUVWXYZ[\\]^_`"
def signsB : Str := "abcdefghijklmnopqrstuvwxyz{|}~\n"
theorem signs_all : (TL.tl (signsA ++ signsB)).all (fun c => decide (c < 128)) = true := by decide +kernel
theorem signs_len : (signsA ++ signsB).length = 95 := by decide +kernel
theorem signs_lenA : signsA.length = 64 := by decide +kernel
theorem signs_lenB : signsB.length = 31 := by decide +kernel
theorem tx_one {c : Nat} (h : c < 128) : TxOk 1 ⟨#[c]⟩ := ⟨Nat.le_refl 1, fun x hx => by
  have : x = c := by simpa using hx
  omega⟩
theorem sign_at (x : Bg) : ∃ c, c < 128 ∧ ixV (dv (.str (signsA ++ signsB))) (x.tk 95) = some (dv (.str ⟨#[c]⟩)) := by
  have r := x.tk_rng (m := 95) rfl
  have l : (signsA ++ signsB).cps.toList.length = 95 := by rw [← signs_len]; exact (tl_len _).symm
  obtain ⟨c, e, _, hm⟩ := _root_.WM.atI_int (xs := (signsA ++ signsB).cps.toList) r.1 (by rw [l]; exact r.2)
  refine ⟨c, ?_, ?_⟩
  · exact of_decide_eq_true (List.all_eq_true.mp signs_all c hm)
  · rw [x_ixStr (small_of (by rw [signs_len]; omega)), e]; rfl
theorem tx_sl : TxOk 1 "/" := ⟨by rw [tl_len, tl_sl]; exact Nat.le_refl 1, fun c hc => by rw [tl_sl] at hc; rw [List.mem_singleton.mp hc]; omega⟩
theorem tx_0 : TxOk 1 "0" := ⟨by rw [tl_len, tl_0]; exact Nat.le_refl 1, fun c hc => by rw [tl_0] at hc; rw [List.mem_singleton.mp hc]; omega⟩
end
end WMk

namespace WMk
open PySem L2 WM
mutual
def gd (L : Nat) : Nat → D → Bool
  | _, .non => true
  | _, .bl _ => true
  | _, .int i => decide (i.natAbs < 2 ^ 64)
  | _, .str s => PyData.canLay0 (.str s)
  | n + 1, .tup xs => decide (xs.length ≤ L) && gds L n xs
  | n + 1, .lst xs => decide (xs.length ≤ L) && gds L n xs
  | _, _ => false
def gds (L : Nat) : Nat → List D → Bool
  | _, [] => true
  | n, x :: xs => gd L n x && gds L n xs
end
theorem gds_all {L : Nat} : ∀ (n : Nat) (xs : List D), gds L n xs = true ↔ ∀ x ∈ xs, gd L n x = true
  | _, [] => by simp [gds]
  | n, x :: xs => by simp [gds, gds_all n xs]
theorem gd_tup {L n : Nat} {xs : List D} : gd L (n + 1) (.tup xs) = true ↔ xs.length ≤ L ∧ ∀ x ∈ xs, gd L n x = true := by
  simp [gd, gds_all]
mutual
theorem gd_mono {L K : Nat} (hL : L ≤ K) : ∀ (n m : Nat) (x : D), n ≤ m → gd L n x = true → gd K m x = true
  | n, m, .non, _, _ => by cases m <;> rfl
  | n, m, .bl _, _, _ => by cases m <;> rfl
  | n, m, .int i, _, h => by cases n <;> cases m <;> exact h
  | n, m, .str s, _, h => by cases n <;> cases m <;> exact h
  | 0, _, .tup _, _, h => by simp [gd] at h
  | 0, _, .lst _, _, h => by simp [gd] at h
  | n + 1, 0, .tup _, h, _ => by omega
  | n + 1, 0, .lst _, h, _ => by omega
  | n + 1, m + 1, .tup xs, h, k => by
    simp only [gd, Bool.and_eq_true, decide_eq_true_eq] at k ⊢
    exact ⟨by omega, gds_mono hL n m xs (by omega) k.2⟩
  | n + 1, m + 1, .lst xs, h, k => by
    simp only [gd, Bool.and_eq_true, decide_eq_true_eq] at k ⊢
    exact ⟨by omega, gds_mono hL n m xs (by omega) k.2⟩
  | n, m, .scr _, _, h => by cases n <;> simp [gd] at h
theorem gds_mono {L K : Nat} (hL : L ≤ K) : ∀ (n m : Nat) (xs : List D), n ≤ m → gds L n xs = true → gds K m xs = true
  | _, _, [], _, _ => by simp [gds]
  | n, m, x :: xs, h, k => by
    simp only [gds, Bool.and_eq_true] at k ⊢
    exact ⟨gd_mono hL n m x h k.1, gds_mono hL n m xs h k.2⟩
end
mutual
theorem gd_lay {L : Nat} : ∀ (n : Nat) (x : D), gd L n x = true → x.lay = true ∧ x.dep ≤ n ∧ x.nos = true ∧ smD x = true
  | _, .non, _ => ⟨rfl, Nat.zero_le _, rfl, rfl⟩
  | _, .bl _, _ => ⟨rfl, Nat.zero_le _, rfl, rfl⟩
  | n, .int i, h => ⟨rfl, Nat.zero_le _, rfl, by
    have h : decide (i.natAbs < 2 ^ 64) = true := by cases n <;> exact h
    have sb := smB_eq
    show decide (i.natAbs < 2 ^ smB) = true
    rw [decide_eq_true_eq] at h ⊢
    exact Nat.lt_of_lt_of_le h (two_mono (by omega))⟩
  | n, .str s, h => ⟨by cases n <;> exact h, Nat.zero_le _, rfl, rfl⟩
  | 0, .tup _, h => by simp [gd] at h
  | 0, .lst _, h => by simp [gd] at h
  | n + 1, .tup xs, h => by
    simp only [gd, Bool.and_eq_true] at h
    obtain ⟨h1, h2, h3, h4⟩ := gds_lay n xs h.2
    exact ⟨by simpa [D.lay] using h1, by simp only [D.dep]; omega, by simpa [D.nos] using h3, h4⟩
  | n + 1, .lst xs, h => by
    simp only [gd, Bool.and_eq_true] at h
    obtain ⟨h1, h2, h3, h4⟩ := gds_lay n xs h.2
    exact ⟨by simpa [D.lay] using h1, by simp only [D.dep]; omega, by simpa [D.nos] using h3, h4⟩
  | n, .scr _, h => by cases n <;> simp [gd] at h
theorem gds_lay {L : Nat} : ∀ (n : Nat) (xs : List D), gds L n xs = true → D.lays xs = true ∧ D.deps xs ≤ n ∧ D.noss xs = true ∧ smDs xs = true
  | _, [], _ => ⟨rfl, Nat.zero_le _, rfl, rfl⟩
  | n, x :: xs, h => by
    simp only [gds, Bool.and_eq_true] at h
    obtain ⟨a1, a2, a3, a4⟩ := gd_lay n x h.1
    obtain ⟨b1, b2, b3, b4⟩ := gds_lay n xs h.2
    exact ⟨by simp [D.lays, a1, b1], by simp only [D.deps]; omega, by simp [D.noss, a3, b3], by simp [smDs, a4, b4]⟩
end
theorem gd_sm {L n : Nat} {x : D} (h : gd L n x = true) : smD x = true := (gd_lay n x h).2.2.2
theorem cut_hi {α : Type} (xs : List α) {n : Nat} (h : n ≤ xs.length) : cutD xs (some (n : Int)) none = xs.drop n := by
  have := (cut_to (xs.take n) (xs.drop n) (n := n) (by rw [List.length_take]; omega)).2
  rwa [List.take_append_drop] at this
section
variable {fns : Nat → Option IFn} {gv : Nat → Option D}
end
end WMk

namespace WMk
open PySem L2 WM
section
variable {fns : Nat → Option IFn} {gv : Nat → Option D}
end
end WMk

namespace WMk
open PySem L2 WM
def inI (lo hi : Int) : D → Bool
  | .int i => decide (lo ≤ i) && decide (i ≤ hi)
  | _ => false
def isRowD (n : Nat) (lo hi : Int) : D → Bool
  | .tup xs => decide (xs.length = n) && xs.all (inI lo hi)
  | _ => false
def isCntD : D → Bool
  | .tup xs => decide (1 ≤ xs.length) && decide (xs.length ≤ 6)
  | _ => false
def purR : D → Bool
  | .tup [.int a, .int b] => decide (1 ≤ a) && decide (a ≤ 1000000) && decide (b ≤ 1000000)
  | _ => false
def isPurD (x : D) : Bool := isFracD x && purR x
def isWiD (b g : Nat) : D → Bool
  | .tup xs => decide (xs.length = b) && xs.all (isRowD g 0 100)
  | _ => false
def lenD : D → Nat
  | .tup xs => xs.length
  | _ => 0
def elD : D → List D
  | .tup xs => xs
  | _ => []
def isMkD : D → Bool
  | .tup [a, p, w] => isCntD a && isCntD p && isRowD (lenD a) 1 60 a && (elD p).all isPurD && isWiD (lenD p) (lenD a) w
  | _ => false
theorem isInt_iff {x : D} (h : isIntD x = true) : ∃ i, x = .int i := by cases x <;> first | (cases h; done) | exact ⟨_, rfl⟩
theorem inI_not {lo hi : Int} {x : D} (h : isIntD x = false) : inI lo hi x = false := by cases x <;> first | rfl | (cases h; done)
theorem purR_frac {x : D} (h : isFracD x = true) : ∃ a b, x = .tup [.int a, .int b] := by
  obtain ⟨r, rfl⟩ := frac_of h
  exact ⟨_, _, rfl⟩
structure GvR (gv : Nat → Option D) : Prop where
  g2 : gv 2 = some (.int 6)
  g4 : gv 4 = some (.int 100)
structure GvM (gv : Nat → Option D) : Prop where
  g2 : gv 2 = some (.int 6)
  g3 : gv 3 = some (.int 60)
  g4 : gv 4 = some (.int 100)
  g5 : gv 5 = some (.int 1000000)
section
variable {fns : Nat → Option IFn} {gv : Nat → Option D}
theorem x_chLEf {f : WM.Env → WM.R Vl} {ρ : WM.Env} {i j k : Int} (h : f ρ = .ok (dv (.int k)) ρ) : chO f .le .le ρ (some i) (some j) = .ok (dv (.bl (decide (i ≤ j) && decide (j ≤ k)))) ρ := by
  rw [x_chLE]
  by_cases c : i ≤ j
  · rw [if_pos c, h, decide_eq_true c, Bool.true_and]; rfl
  · rw [if_neg c, decide_eq_false c, Bool.false_and]
theorem within_eqD [HasF fns 12 f12] [HasF fns 163 f163] (d : Nat) (x : D) (lo hi : Int) : cs fns gv (d + 2) 163 [.v (dv x), .v (dv (.int lo)), .v (dv (.int hi))] = .ok (.d (.bl (inI lo hi x))) [] := by
  have e := whole_eq (fns := fns) (gv := gv) d x
  rw [r163]
  cases h : isIntD x with
  | false =>
    rw [h] at e
    rw [inI_not h]
    simp_arith [f163, e]
  | true =>
    rw [h] at e
    obtain ⟨i, rfl⟩ := isInt_iff h
    by_cases c : lo ≤ i
    · have cd : decide (lo ≤ i) = true := decide_eq_true c
      simp_arith [f163, e, c, cd, inI, Bool.true_and]
    · have cd : decide (lo ≤ i) = false := decide_eq_false c
      simp_arith [f163, e, c, cd, inI, Bool.false_and]
theorem row_eqD [HasF fns 12 f12] [HasF fns 163 f163] [HasF fns 164 f164] (d : Nat) (x : D) (n : Nat) (lo hi : Int) (hx : (elD x).length ≤ 100000) : cs fns gv (d + 3) 164 [.v (dv x), .v (dv (.int (n : Int))), .v (dv (.int lo)), .v (dv (.int hi))] = .ok (.d (.bl (isRowD n lo hi x))) [] := by
  rw [r164]
  by_cases c : isTupD x = true
  · cases x <;> first | (cases c; done) | skip
    rename_i xs
    have it : isaV .tuple (.tup xs) = true := rfl
    by_cases h : xs.length = n
    · have h1 : ((xs.length : Int) == (n : Int)) = true := by rw [beq_iff_eq]; omega
      have l := lc_map (M := Mof []) (t := .n 4) (body := lcBody false (ev (cs fns gv (d + 2)) gv (Mof []) (.c (.bl true))) (ev (cs fns gv (d + 2)) gv (Mof []) (.call 163 (.val (.v 4) (.val (.v 2) (.val (.v 3) .nil)))))) (ρ := [.val (.d (.tup xs)), .val (.d (.int (n : Int))), .val (.d (.int (lo : Int))), .val (.d (.int (hi : Int))), .no]) (xs := xs) (it := fun x => Itm.one (dv x)) (fun x => Ow.d (.bl (inI lo hi x))) (fun x hx => by
        have e := within_eqD (fns := fns) (gv := gv) d x lo hi
        simp_arith [e]) hx
      have im : itemsM (Mof []) (dv (.tup xs)) = some (xs.map dv) := x_imT
      have ii : (xs.map dv).map Itm.one = xs.map fun x => Itm.one (dv x) := by rw [List.map_map]; rfl
      have al : unV .all (.ow (.l (xs.map fun x => Ow.d (.bl (inI lo hi x))))) = some (dv (.bl (xs.all (inI lo hi)))) := x_allM
      have ev : isRowD n lo hi (.tup xs) = xs.all (inI lo hi) := by simp [isRowD, h]
      rw [ev]
      simp_arith [f164, c164_0, it, h1, im, ii, l, al]
    · have h1 : ((xs.length : Int) == (n : Int)) = false := by rw [beq_eq_false_iff_ne]; omega
      have ev : isRowD n lo hi (.tup xs) = false := by simp [isRowD, h]
      rw [ev]
      simp_arith [f164, c164_0, it, h1]
  · have it : isaV .tuple x = false := by rw [isa_tup]; simpa using c
    have ev : isRowD n lo hi x = false := by cases x <;> first | rfl | exact absurd rfl c
    rw [ev]
    simp_arith [f164, c164_0, it]
theorem count_eqD [HasF fns 165 f165] (d : Nat) (hg : gv 2 = some (.int 6)) (x : D) : cs fns gv (d + 1) 165 [.v (dv x)] = .ok (.d (.bl (isCntD x))) [] := by
  have g := x_g (M := Mof []) (C := cs fns gv d) (ρ := [.val (.d (x))]) hg
  rw [r165]
  by_cases c : isTupD x = true
  · cases x <;> first | (cases c; done) | skip
    rename_i xs
    have it : isaV .tuple (.tup xs) = true := rfl
    have ch := x_chLEf (i := 1) (j := (xs.length : Int)) g
    have ev : isCntD (.tup xs) = (decide ((1 : Int) ≤ (xs.length : Int)) && decide ((xs.length : Int) ≤ 6)) := by
      show (decide _ && decide _) = _
      congr 1 <;> (rw [decide_eq_decide]; omega)
    rw [ev]
    simp_arith [f165, it, ch]
  · have it : isaV .tuple x = false := by rw [isa_tup]; simpa using c
    have ev : isCntD x = false := by cases x <;> first | rfl | exact absurd rfl c
    rw [ev]
    simp_arith [f165, it]
theorem qix (a b : D) : ixV (dv (.tup [a, b])) 0 = some (dv a) ∧ ixV (dv (.tup [a, b])) 1 = some (dv b) := ⟨rfl, rfl⟩
theorem purse_eqD [HasF fns 0 f0] [HasF fns 12 f12] [HasF fns 13 f13] [HasF fns 166 f166] (d : Nat) (hg : GvM gv) (x : D) (hs : smD x = true) : cs fns gv (d + 3) 166 [.v (dv x)] = .ok (.d (.bl (isPurD x))) [] := by
  have e := isfrac_eq (fns := fns) (gv := gv) d x hs
  rw [r166]
  unfold isPurD
  cases h : isFracD x with
  | false =>
    rw [h] at e
    simp_arith [f166, e, Bool.false_and]
  | true =>
    rw [h] at e
    obtain ⟨a, b, rfl⟩ := purR_frac h
    have g := x_g (M := Mof []) (C := cs fns gv (d + 2)) (ρ := [.val (.d (.tup [.int a, .int b]))]) hg.g5
    have ch := x_chLEf (i := 1) (j := a) g
    obtain ⟨i0, i1⟩ := qix (.int a) (.int b)
    have ev : purR (.tup [.int a, .int b]) = ((decide (1 ≤ a) && decide (a ≤ 1000000)) && decide (b ≤ 1000000)) := rfl
    rw [ev]
    cases q : (decide (1 ≤ a) && decide (a ≤ 1000000)) <;> (rw [q] at ch; simp_arith [f166, e, i0, i1, ch, g, Bool.true_and, Bool.false_and])
theorem wishes_eqD [HasF fns 12 f12] [HasF fns 163 f163] [HasF fns 164 f164] [HasF fns 167 f167] (d : Nat) (hg : gv 4 = some (.int 100)) (x : D) (b g : Nat) (hx : (elD x).length ≤ 100000) (hr : ∀ y ∈ elD x, (elD y).length ≤ 100000) : cs fns gv (d + 4) 167 [.v (dv x), .v (dv (.int (b : Int))), .v (dv (.int (g : Int)))] = .ok (.d (.bl (isWiD b g x))) [] := by
  rw [r167]
  by_cases c : isTupD x = true
  · cases x <;> first | (cases c; done) | skip
    rename_i xs
    have it : isaV .tuple (.tup xs) = true := rfl
    by_cases h : xs.length = b
    · have h1 : ((xs.length : Int) == (b : Int)) = true := by rw [beq_iff_eq]; omega
      have l := lc_map (M := Mof []) (t := .n 3) (body := lcBody false (ev (cs fns gv (d + 3)) gv (Mof []) (.c (.bl true))) (ev (cs fns gv (d + 3)) gv (Mof []) (.call 164 (.val (.v 3) (.val (.v 2) (.val (.c (.int 0)) (.val (.g 4) .nil))))))) (ρ := [.val (.d (.tup xs)), .val (.d (.int (b : Int))), .val (.d (.int (g : Int))), .no]) (xs := xs) (it := fun x => Itm.one (dv x)) (fun x => Ow.d (.bl (isRowD g 0 100 x))) (fun x hx => by
        have e := row_eqD (fns := fns) (gv := gv) d x g 0 100 (hr x hx)
        have g := x_g (M := Mof []) (C := cs fns gv (d + 3)) (ρ := [.val (.d (.tup xs)), .val (.d (.int (b : Int))), .val (.d (.int (g : Int))), .val (.d (x))]) hg
        simp_arith [g, e]) hx
      have im : itemsM (Mof []) (dv (.tup xs)) = some (xs.map dv) := x_imT
      have ii : (xs.map dv).map Itm.one = xs.map fun x => Itm.one (dv x) := by rw [List.map_map]; rfl
      have al : unV .all (.ow (.l (xs.map fun x => Ow.d (.bl (isRowD g 0 100 x))))) = some (dv (.bl (xs.all (isRowD g 0 100)))) := x_allM
      have ev : isWiD b g (.tup xs) = xs.all (isRowD g 0 100) := by simp [isWiD, h]
      rw [ev]
      simp_arith [f167, c167_0, it, h1, im, ii, l, al]
    · have h1 : ((xs.length : Int) == (b : Int)) = false := by rw [beq_eq_false_iff_ne]; omega
      have ev : isWiD b g (.tup xs) = false := by simp [isWiD, h]
      rw [ev]
      simp_arith [f167, c167_0, it, h1]
  · have it : isaV .tuple x = false := by rw [isa_tup]; simpa using c
    have ev : isWiD b g x = false := by cases x <;> first | rfl | exact absurd rfl c
    rw [ev]
    simp_arith [f167, c167_0, it]
theorem cnt_tup {x : D} (h : isCntD x = true) : ∃ xs, x = .tup xs ∧ 1 ≤ xs.length ∧ xs.length ≤ 6 := by
  cases x <;> first | (cases h; done) | skip
  rename_i xs
  have : (decide (1 ≤ xs.length) && decide (xs.length ≤ 6)) = true := h
  simp only [Bool.and_eq_true, decide_eq_true_eq] at this
  exact ⟨xs, rfl, this⟩
theorem market_eqD [HasF fns 0 f0] [HasF fns 12 f12] [HasF fns 13 f13] [HasF fns 163 f163] [HasF fns 164 f164] [HasF fns 165 f165] [HasF fns 166 f166] [HasF fns 167 f167] [HasF fns 168 f168] (d : Nat) (hg : GvM gv) (x : D) {L n : Nat} (hL : L ≤ 100000) (hx : gd L n x = true) : cs fns gv (d + 5) 168 [.v (dv x)] = .ok (.d (.bl (isMkD x))) [] := by
  rw [r168]
  by_cases c : isTupD x = true
  · cases x <;> first | (cases c; done) | skip
    rename_i xs
    have it : isaV .tuple (.tup xs) = true := rfl
    have ln : unV .len (dv (.tup xs)) = some (dv (.int xs.length)) := x_lenT
    by_cases h : xs.length = 3
    · obtain ⟨a, p, w, rfl⟩ : ∃ a p w, xs = [a, p, w] := by
        rcases xs with _ | ⟨a, _ | ⟨p, _ | ⟨w, _ | ⟨_, _⟩⟩⟩⟩ <;> first | (simp at h; done) | exact ⟨_, _, _, rfl⟩
      have ea := count_eqD (fns := fns) (gv := gv) (d + 3) hg.g2 a
      have ep := count_eqD (fns := fns) (gv := gv) (d + 3) hg.g2 p
      have i0 : ixV (dv (.tup [a, p, w])) 0 = some (dv a) := rfl
      have i1 : ixV (dv (.tup [a, p, w])) 1 = some (dv p) := rfl
      have i2 : ixV (dv (.tup [a, p, w])) 2 = some (dv w) := rfl
      have ln3 : unV .len (dv (.tup [a, p, w])) = some (dv (.int 3)) := rfl
      obtain ⟨n', rfl⟩ : ∃ n', n = n' + 1 := by
        cases n with
        | zero => simp [gd] at hx
        | succ n' => exact ⟨n', rfl⟩
      have gx := (gd_tup.mp hx).2
      have ga := gx a (by simp)
      have gp := gx p (by simp)
      have gw := gx w (by simp)
      cases ca : isCntD a with
      | false =>
        rw [ca] at ea
        have ev : isMkD (.tup [a, p, w]) = false := by simp [isMkD, ca]
        rw [ev]
        simp_arith [f168, c168_0, it, ln3, i0, ea, c168_1]
      | true =>
        rw [ca] at ea
        cases cp : isCntD p with
        | false =>
          rw [cp] at ep
          have ev : isMkD (.tup [a, p, w]) = false := by simp [isMkD, cp]
          rw [ev]
          simp_arith [f168, c168_0, it, ln3, i0, ea, i1, ep, c168_1]
        | true =>
          rw [cp] at ep
          obtain ⟨as, rfl, a1, a2⟩ := cnt_tup ca
          obtain ⟨ps, rfl, p1, p2⟩ := cnt_tup cp
          have la : unV .len (dv (.tup as)) = some (dv (.int as.length)) := x_lenT
          have lp : unV .len (dv (.tup ps)) = some (dv (.int ps.length)) := x_lenT
          have er := row_eqD (fns := fns) (gv := gv) (d + 1) (.tup as) as.length 1 60 (by show as.length ≤ _; omega)
          have g3 := x_g (M := Mof []) (C := cs fns gv (d + 4)) (ρ := [.val (.d (.tup [.tup as, .tup ps, w])), .no]) hg.g3
          obtain ⟨n2, rfl⟩ : ∃ n2, n' = n2 + 1 := by
            cases n' with
            | zero => simp [gd] at ga
            | succ n' => exact ⟨n', rfl⟩
          have pS := (gd_tup.mp gp).2
          have l := lc_map (M := Mof []) (t := .n 1) (body := lcBody false (ev (cs fns gv (d + 4)) gv (Mof []) (.c (.bl true))) (ev (cs fns gv (d + 4)) gv (Mof []) (.call 166 (.val (.v 1) .nil)))) (ρ := [.val (.d (.tup [.tup as, .tup ps, w])), .no]) (xs := ps) (it := fun x => Itm.one (dv x)) (fun x => Ow.d (.bl (isPurD x))) (fun x hx => by
            have e := purse_eqD (fns := fns) (gv := gv) (d + 1) hg x (gd_sm (pS x hx))
            simp_arith [e]) (by omega)
          have im : itemsM (Mof []) (dv (.tup ps)) = some (ps.map dv) := x_imT
          have ii : (ps.map dv).map Itm.one = ps.map fun x => Itm.one (dv x) := by rw [List.map_map]; rfl
          have al : unV .all (.ow (.l (ps.map fun x => Ow.d (.bl (isPurD x))))) = some (dv (.bl (ps.all isPurD))) := x_allM
          have ew := wishes_eqD (fns := fns) (gv := gv) d hg.g4 w ps.length as.length (by
            cases w <;> first | (show 0 ≤ _; omega) | skip
            exact Nat.le_trans (gd_tup.mp gw).1 hL) (fun y hy => by
            cases w <;> first | (cases hy; done) | skip
            have gy := (gd_tup.mp gw).2 y hy
            cases y <;> first | (show 0 ≤ _; omega) | skip
            obtain ⟨n3, rfl⟩ : ∃ n3, n2 = n3 + 1 := by
              cases n2 with
              | zero => simp [gd] at gy
              | succ n' => exact ⟨n', rfl⟩
            exact Nat.le_trans (gd_tup.mp gy).1 hL)
          have ev : isMkD (.tup [.tup as, .tup ps, w]) = (isRowD as.length 1 60 (.tup as) && ps.all isPurD && isWiD ps.length as.length w) := by
            simp [isMkD, ca, cp, lenD, elD]
          rw [ev]
          cases q1 : isRowD as.length 1 60 (.tup as) <;> cases q2 : ps.all isPurD <;> (rw [q1] at er; rw [q2] at al; simp_arith [f168, c168_0, c168_1, it, ln3, i0, ea, i1, ep, la, er, g3, im, ii, l, al, i2, lp, ew, Bool.true_and, Bool.false_and])
    · have h1 : ((xs.length : Int) == 3) = false := by rw [beq_eq_false_iff_ne]; omega
      have ev : isMkD (.tup xs) = false := by
        rcases xs with _ | ⟨a, _ | ⟨p, _ | ⟨w, _ | ⟨_, _⟩⟩⟩⟩ <;> first | rfl | (simp at h; done)
      rw [ev]
      simp_arith [f168, c168_0, it, ln, h1, c168_1]
  · have it : isaV .tuple x = false := by rw [isa_tup]; simpa using c
    have ev : isMkD x = false := by cases x <;> first | rfl | exact absurd rfl c
    rw [ev]
    simp_arith [f168, c168_0, it, c168_1]
end
end WMk

namespace WMk
open PySem L2 WM
section
variable {fns : Nat → Option IFn} {gv : Nat → Option D}
end
end WMk

namespace WMk
open PySem L2 WM
section
variable {fns : Nat → Option IFn} {gv : Nat → Option D}
end
end WMk

namespace WMk
open PySem L2 WM
section
variable {fns : Nat → Option IFn} {gv : Nat → Option D}
end
end WMk

namespace WMk
open PySem L2 WM
theorem pur_ok {q : Rat} (h : PuOk1 q) : isPurD (qD q) = true := by
  unfold isPurD
  rw [frac_qD, Bool.true_and]
  show (decide (1 ≤ q.num) && decide (q.num ≤ 1000000) && decide ((q.den : Int) ≤ 1000000)) = true
  have h1 := num_pos h.pos
  have h2 := h.num
  have h3 := h.den
  simp only [Bool.and_eq_true, decide_eq_true_eq]
  omega
theorem row_ok01 {m : Mk} (hm : MkOk m) : (m.am.map D.int).all (inI 1 60) = true := by
  rw [List.all_eq_true]
  intro x hx
  obtain ⟨i, hi, rfl⟩ := List.mem_map.mp hx
  have := hm.am i hi
  show (decide (1 ≤ i) && decide (i ≤ 60)) = true
  simp; omega
theorem pu_all {m : Mk} (hm : MkOk m) : (m.pu.map qD).all isPurD = true := by
  rw [List.all_eq_true]
  intro x hx
  obtain ⟨q, hq, rfl⟩ := List.mem_map.mp hx
  exact pur_ok (hm.ps q hq)
theorem wrow_all {g : Nat} {r : List Int} (h : ∀ x ∈ r, 0 ≤ x ∧ x ≤ 100) : (r.map D.int).all (inI 0 100) = true := by
  rw [List.all_eq_true]
  intro x hx
  obtain ⟨i, hi, rfl⟩ := List.mem_map.mp hx
  have := h i hi
  show (decide (0 ≤ i) && decide (i ≤ 100)) = true
  simp; omega
theorem wi_all {m : Mk} (hm : MkOk m) : (m.wi.map rD).all (isRowD m.am.length 0 100) = true := by
  rw [List.all_eq_true]
  intro x hx
  obtain ⟨r, hr, rfl⟩ := List.mem_map.mp hx
  obtain ⟨h1, h2⟩ := hm.wi r hr
  show (decide ((r.map D.int).length = m.am.length) && (r.map D.int).all (inI 0 100)) = true
  rw [wrow_all (g := 0) h2, List.length_map, h1]; simp
theorem isMk_parts {as ps ws : List D} (a : 1 ≤ as.length ∧ as.length ≤ 6) (p : 1 ≤ ps.length ∧ ps.length ≤ 6) (w : ws.length = ps.length) : isMkD (.tup [.tup as, .tup ps, .tup ws]) = (as.all (inI 1 60) && ps.all isPurD && ws.all (isRowD as.length 0 100)) := by
  simp [isMkD, isCntD, lenD, elD, isWiD, isRowD, a, p, w]
theorem isMk_ok {m : Mk} (hm : MkOk m) : isMkD (mkD m) = true := by
  show isMkD (.tup [.tup (m.am.map D.int), .tup (m.pu.map qD), .tup (m.wi.map rD)]) = true
  rw [isMk_parts (by rw [List.length_map]; exact ⟨hm.g1, hm.g2⟩) (by rw [List.length_map, hm.pl]; exact ⟨hm.b1, hm.b2⟩) (by rw [List.length_map, List.length_map, hm.pl]), row_ok01 hm, pu_all hm, List.length_map, wi_all hm]; rfl
section
variable {fns : Nat → Option IFn} {gv : Nat → Option D}
theorem for_same {α : Type} {ρ : WM.Env} {t : Tg} {body : WM.Env → WM.RS} {it : α → Itm} (xs : List α) (h : ∀ x ∈ xs, ∃ ρ1, putI ρ t (it x) = some ρ1 ∧ body ρ1 = .nx ρ) : forL t body (xs.map it) ρ = .nx ρ :=
  for_fold (S := Unit) (fun _ => ρ) (fun _ _ => ()) xs () fun _ x hx => h x hx
end
end WMk

namespace WMk
open PySem L2 WM
theorem good_nt : goodS "NoText+" = true := by decide +kernel
theorem ne_read (o : Option (Int × Int)) : binV .ne (.ow (readL o)) (.ow (readL o)) = some (dv (.bl false)) := by
  cases o with
  | none =>
    show binV .ne (.ow (.l [.d (.str "NoText+"), .d .non])) (.ow (.l [.d (.str "NoText+"), .d .non])) = _
    rw [ne_kp (n := 0) (m := 0) good_nt good_nt rfl rfl (by omega) (by omega)]
    simp [D.eqv]
  | some p =>
    obtain ⟨a, b⟩ := p
    show binV .ne (.ow (.l [.d (.str ""), .d (.tup [.int a, .int b])])) (.ow (.l [.d (.str ""), .d (.tup [.int a, .int b])])) = _
    rw [ne_kp (n := 1) (m := 1) good_e good_e rfl rfl (by omega) (by omega)]
    simp [D.eqv, D.eqvs]
section
variable {fns : Nat → Option IFn} {gv : Nat → Option D}
theorem fracText_eq [HasF fns 416 f416] (d : Nat) {r : Rat} (h : 0 ≤ r) {n : Nat} (hs : Sz n r) (hn : n ≤ 1900) : cs fns gv (d + 1) 416 [.v (dv (qD r))] = .ok (.d (.str (qS r))) [] := by
  have hnn : 0 ≤ r.num := Rat.num_nonneg.mpr h
  have en : ((r.num.toNat : Nat) : Int) = r.num := Int.toNat_of_nonneg hnn
  have p1 : (2 : Nat) ^ n ≤ 2 ^ 1900 := two_mono hn
  have n1 := hs.num
  have n2 := hs.den
  have l1 : r.num.natAbs.log2 < 1920 := by have := log_lt n1; omega
  have l2 : ((r.den : Int)).natAbs.log2 < 1920 := by rw [Int.natAbs_natCast]; have := log_lt n2; omega
  have s1 : unV .str (dv (.int r.num)) = some (dv (.str (nS r.num.toNat))) := by
    rw [x_strI l1]
    unfold nS
    rw [en]
  have s2 : unV .str (dv (.int (r.den : Int))) = some (dv (.str (nS r.den))) := x_strI l2
  have i0 := qd_ix0 r
  have i1 := qd_ix1 r
  have p3 : (2 : Nat) ^ n < 10 ^ 600 := by
    have : (2 : Nat) ^ 1900 < 10 ^ 600 := by decide +kernel
    omega
  have t1 : TxOk 600 (nS r.num.toNat) := nS_tx (by omega) (by omega)
  have t2 : TxOk 600 (nS r.den) := nS_tx (by omega) (by omega)
  have c1 : binV .scat (dv (.str (nS r.num.toNat))) (dv (.str "/")) = some (dv (.str (nS r.num.toNat ++ "/"))) := x_scat (small_of (by have := t1.1; have := tx_sl.1; omega))
  have c2 : binV .scat (dv (.str (nS r.num.toNat ++ "/"))) (dv (.str (nS r.den))) = some (dv (.str (nS r.num.toNat ++ "/" ++ nS r.den))) := x_scat (small_of (by have := (app_tx t1 tx_sl).1; have := t2.1; omega))
  rw [r416]
  by_cases hd : r.den = 1
  · have e : qS r = nS r.num.toNat := if_pos hd
    have h1 : ((r.den : Int) == 1) = true := by rw [hd]; rfl
    rw [e]
    simp_arith [f416, i0, i1, h1, s1, c416_0]
  · have e : qS r = nS r.num.toNat ++ "/" ++ nS r.den := if_neg hd
    have h1 : ((r.den : Int) == 1) = false := by simp; omega
    rw [e]
    simp_arith [f416, i0, i1, h1, s1, s2, c1, c2, c416_0]
end
end WMk

namespace WMk
open PySem L2 WM
def nQ (z : Str) : Option Int := if (9 : Int) < (z.length : Int) then none else figN z
def fQ (z : Str) : Option (Int × Int) := fracO (numsB z 9)
theorem nQ_rng {z : Str} {N : Nat} (h : TxOk N z) {v : Int} (e : nQ z = some v) : 0 ≤ v ∧ v.natAbs < 2 ^ 36 := by
  unfold nQ at e
  split at e
  · cases e
  · exact figN_rng (n := 9) ⟨by omega, h.2⟩ e
section
variable {fns : Nat → Option IFn} {gv : Nat → Option D}
theorem num33_eq [HasF fns 445 f445] (d : Nat) {N : Nat} {z : Str} (h : TxOk N z) (hN : N ≤ 90000) :
    cs fns gv (d + 1) 445 [.v (dv (.str z))] = .ok (.d (figD (nQ z))) [] := by
  have hl := h.1
  have sm := small_of (n := z.length) (by omega)
  have e1 := tx_eq (h.good) good_e
  rw [tl_e] at e1
  have e2 := len_str (z := z) (by omega)
  have e5 := tx_ne (h.good) good_0
  rw [tl_0] at e5
  rw [r445]
  by_cases c0 : TL.tl z = []
  · have : nQ z = none := by unfold nQ figN figB; rw [c0]; simp
    rw [this]
    rw [c0, decide_eq_true rfl] at e1
    simp_arith [f445, e1, figD, c445_0, c445_1]
  · rw [decide_eq_false c0] at e1
    by_cases c1 : (9 : Int) < (z.length : Int)
    · have : nQ z = none := if_pos c1
      rw [this]
      simp_arith [f445, e1, e2, figD, c1, c445_0, c445_1]
    · have hq : nQ z = figN z := if_neg c1
      rw [hq]
      obtain ⟨c, r, hc⟩ := List.exists_cons_of_ne_nil c0
      have hc' : z.cps.toList = c :: r := hc
      have e3 : ixV (dv (.str z)) 0 = some (dv (.str ⟨#[c]⟩)) := by
        rw [x_ixStr sm, hc', atI_zero]; rfl
      have hcs : c < 128 := h.2 c (by rw [hc]; exact List.mem_cons_self)
      have e4 := tx_eq (good_one hcs) good_0
      rw [tl_0, tl_one] at e4
      have l := lc_filter (M := Mof []) (t := .n 1) (body := lcBody true (ev (cs fns gv (d)) gv (Mof []) (.bin .notIn (.v 1) (.c (.str "0123456789")))) (ev (cs fns gv (d)) gv (Mof []) (.v 1))) (ρ := [.val (.d (.str (z))), .no]) (xs := TL.tl z) (it := fun c => Itm.one (dv (.str ⟨#[c]⟩))) (fun c => !figC c) (fun c => Ow.d (.str ⟨#[c]⟩)) (fun x hx => by
        have q := fig_mem x
        simp_arith [q]
        by_cases k : figC x = true
        · have k' : decide (48 ≤ x ∧ x ≤ 57) = true := k
          rw [k, k']; simp_arith []
        · have k2 : figC x = false := by simpa using k
          have k' : decide (48 ≤ x ∧ x ≤ 57) = false := k2
          rw [k2, k']; simp_arith []) (by rw [← tl_len]; omega)
      have sI : signI z = (TL.tl z).map fun c => Itm.one (dv (.str ⟨#[c]⟩)) := rfl
      have nn := ne_nilS (ss := ((TL.tl z).filter fun c => !figC c).map fun c => (⟨#[c]⟩ : Str)) (by
        intro s hs
        obtain ⟨c, hc, rfl⟩ := List.mem_map.mp hs
        exact good_one (h.2 c (List.mem_filter.mp hc).1))
      rw [List.map_map] at nn
      have nn' : binV .ne (.ow (.l (((TL.tl z).filter fun c => !figC c).map fun c => Ow.d (.str ⟨#[c]⟩)))) (.ow (.l [])) = some (dv (.bl (!(TL.tl z).all figC))) := by
        refine nn.trans ?_
        congr 4
        cases hall : (TL.tl z).all figC with
        | true =>
          apply decide_eq_true
          rw [List.map_eq_nil_iff, List.filter_eq_nil_iff]
          intro y hy
          simp [List.all_eq_true.mp hall y hy]
        | false =>
          apply decide_eq_false
          rw [List.map_eq_nil_iff, List.filter_eq_nil_iff]
          intro hn
          have : (TL.tl z).all figC = true := List.all_eq_true.mpr fun x hx => by simpa using hn x hx
          rw [this] at hall
          exact absurd hall (by decide)
      cases hall : (TL.tl z).all figC with
      | false =>
        rw [hall] at nn'
        have : figN z = none := by
          unfold figN figB
          rw [hall]; simp
        rw [this]
        simp_arith [f445, e1, e2, c1, sm, sI, l, nn', figD, c445_0, c445_1]
      | true =>
        rw [hall] at nn'
        have e6 := int_str (z := z) (by omega) hall c0
        by_cases q : c = 48
        · subst q
          rw [decide_eq_true rfl] at e4
          by_cases q2 : TL.tl z = [48]
          · rw [decide_eq_true q2] at e5
            have : figN z = some ((NumText.digitsVal (TL.tl z) : Nat) : Int) := by
              unfold figN figB
              rw [hall, decide_eq_false c0, decide_eq_true q2]; simp
            rw [this]
            simp_arith [f445, e1, e2, c1, sm, sI, l, nn', e3, e4, e5, e6, figD, c445_0, c445_1]
          · rw [decide_eq_false q2] at e5
            have : figN z = none := by
              unfold figN figB
              rw [decide_eq_false q2, hc]; simp
            rw [this]
            simp_arith [f445, e1, e2, c1, sm, sI, l, nn', e3, e4, e5, figD, c445_0, c445_1]
        · rw [decide_eq_false (by simpa using q)] at e4
          have : figN z = some ((NumText.digitsVal (TL.tl z) : Nat) : Int) := by
            unfold figN figB
            rw [hall, decide_eq_false c0, hc]; simp [q]
          rw [this]
          simp_arith [f445, e1, e2, c1, sm, sI, l, nn', e3, e4, e6, figD, c445_0, c445_1]
theorem frc33_eq [HasF fns 3 f3] [HasF fns 445 f445] [HasF fns 446 f446] (d : Nat) {N : Nat} {z : Str} (h : TxOk N z) (hN : N ≤ 90000) :
    cs fns gv (d + 2) 446 [.v (dv (.str z))] = .ok (.d (fracD (fQ z))) [] := by
  have sp := split_v h (by omega) tl_sl
  obtain ⟨ne, po⟩ := split_ok h tl_sl (by omega)
  have many := split_many h tl_sl (by omega)
  have l := lc_map (M := Mof []) (t := .n 2) (body := lcBody false (ev (cs fns gv (d + 1)) gv (Mof []) (.c (.bl true))) (ev (cs fns gv (d + 1)) gv (Mof []) (.call 445 (.val (.v 2) .nil)))) (ρ := [.val (.d (.str (z))), .no, .no]) (xs := Txt.split z "/") (it := fun p => Itm.one (dv (.str p))) (fun p => Ow.d (figD (nQ p))) (fun p hp => by
    have e := num33_eq (fns := fns) (gv := gv) d (po p hp).1 hN
    simp_arith [e]) (by omega)
  have rng : ∀ v, v ∈ numsB z 9 → ∀ x, v = some x → 0 ≤ x ∧ x.natAbs < 2 ^ 36 := by
    intro v hv x hx
    subst hx
    obtain ⟨p, hp, e⟩ := List.mem_map.mp hv
    exact nQ_rng (po p hp).1 e
  have em : (((Txt.split z "/").map D.str).map dv).map Itm.one = (Txt.split z "/").map fun p => Itm.one (dv (.str p)) := by rw [List.map_map, List.map_map]; rfl
  have to : Ow.toDs ((Txt.split z "/").map fun p => Ow.d (.str p)) = (Txt.split z "/").map D.str := toDs_map' D.str _
  have to2 : Ow.toDs ((Txt.split z "/").map fun p => Ow.d (figD (nQ p))) = (numsB z 9).map figD := by
    rw [toDs_map' (fun p : Str => figD (nQ p))]
    unfold numsB
    rw [List.map_map]; rfl
  have inn := in_non (numsB z 9)
  have ln : (numsB z 9).length = (Txt.split z "/").length := by unfold numsB; rw [List.length_map]
  unfold fQ
  generalize hN : numsB z 9 = N at *
  have len1 : unV .len (dv (.lst (N.map figD))) = some (dv (.int (N.length : Int))) := by
    show some (dv (.int ((N.map figD).length : Int))) = _
    rw [List.length_map]
  have np : 0 < (Txt.split z "/").length := List.length_pos_iff.mpr ne
  rw [r446]
  by_cases c2 : 2 < (Txt.split z "/").length
  · have : fracO N = none := by
      match N, ln with
      | [], h => rfl
      | [_], h => simp at h; omega
      | [_, _], h => simp at h; omega
      | x :: y :: _ :: _, _ => cases x <;> cases y <;> rfl
    rw [this]
    have c2' : decide ((2 : Int) < (N.length : Int)) = true := decide_eq_true (by omega)
    simp_arith [f446, sp, to, len1, c2', em, l, to2, fracD, c446_0, c446_1, c446_2]
  · match hN2 : N, ln with
    | [], h => simp at h; omega
    | [none], h =>
      simp only [List.any_cons, List.any_nil, Option.isNone_none, Bool.or_false, List.map_cons, List.map_nil, figD_n, figD_s] at inn
      simp_arith [f446, sp, to, em, l, to2, inn, fracD, fracO, figD_n, figD_s, c446_0, c446_1, c446_2]
    | [some a], h =>
      simp only [List.any_cons, List.any_nil, Option.isNone_some, Bool.or_false, List.map_cons, List.map_nil, figD_n, figD_s] at inn
      simp_arith [f446, sp, to, em, l, to2, inn, fracD, fracO, figD_n, figD_s, c446_0, c446_1, c446_2]
    | [none, b], h =>
      simp only [List.any_cons, List.any_nil, Option.isNone_none, Bool.true_or, List.map_cons, List.map_nil, figD_n, figD_s] at inn
      simp_arith [f446, sp, to, em, l, to2, inn, fracD, fracO, figD_n, figD_s, c446_0, c446_1, c446_2]
    | [some a, none], h =>
      simp only [List.any_cons, List.any_nil, Option.isNone_none, Option.isNone_some, Bool.or_true, Bool.true_or, List.map_cons, List.map_nil, figD_n, figD_s] at inn
      simp_arith [f446, sp, to, em, l, to2, inn, fracD, fracO, figD_n, figD_s, c446_0, c446_1, c446_2]
    | [some a, some b], h =>
      simp only [List.any_cons, List.any_nil, Option.isNone_some, Bool.or_false, List.map_cons, List.map_nil, figD_n, figD_s] at inn
      obtain ⟨b0, rb⟩ := rng (some b) (by simp) b rfl
      have hl : lg b < 133000000 := by have := lg_lt rb; omega
      by_cases c3 : b < 2
      · have : fracO [some a, some b] = none := if_pos (.inl c3)
        rw [this]
        simp_arith [f446, sp, to, em, l, to2, inn, fracD, figD_n, figD_s, c3, c446_0, c446_1, c446_2]
      · have e := frac_eq (fns := fns) (gv := gv) d a b (by omega) hl
        have ls := low_same (a := a) (b := b) (by omega)
        have nn : binV .ne (dv (qD (Rat.divInt a b))) (dv (.tup [.int a, .int b])) = some (dv (.bl (!decide (gcdI a b = 1)))) := by
          rw [x_neD rfl rfl rfl rfl]
          congr 4
          show ((Rat.divInt a b).num == a && ((((Rat.divInt a b).den : Int) == b) && true)) = _
          rw [Bool.and_true, ← decide_eq_decide.mpr ls, Bool.decide_and]
          rw [Bool.eq_iff_iff]; simp
        by_cases c4 : gcdI a b = 1
        · have : fracO [some a, some b] = some (a, b) := if_neg (by rintro (h | h); exact c3 h; exact h c4)
          rw [this]
          rw [decide_eq_true c4] at nn
          simp_arith [f446, sp, to, em, l, to2, inn, fracD, figD_n, figD_s, c3, e, nn, c446_0, c446_1, c446_2]
        · have : fracO [some a, some b] = none := if_pos (.inr c4)
          rw [this]
          rw [decide_eq_false c4] at nn
          simp_arith [f446, sp, to, em, l, to2, inn, fracD, figD_n, figD_s, c3, e, nn, c446_0, c446_1, c446_2]
    | _ :: _ :: _ :: _, h => simp at h; omega
end
end WMk

namespace WMk
open PySem L2 WM
def lnD (l : List Str) : D := .lst (l.map D.str)
def wordsS (l : Str) : List Str := Txt.split l " "
def linesS (z : Str) : List (List Str) := (Txt.split z "\n").map wordsS
def amsL : List Nat := [97, 109, 111, 117, 110, 116, 115]
def buyL : List Nat := [98, 117, 121, 101, 114]
theorem tl_ams : TL.tl "amounts" = amsL := by decide +kernel
theorem tl_buy : TL.tl "buyer" = buyL := by decide +kernel
theorem good_ams : goodS "amounts" = true := by decide +kernel
theorem good_buy : goodS "buyer" = true := by decide +kernel
theorem tl_bl : TL.tl " " = [32] := by decide +kernel
theorem tl_nl : TL.tl "\n" = [10] := by decide +kernel
structure LsOk (N : Nat) (ls : List (List Str)) : Prop where
  ne : ls ≠ []
  len : ls.length ≤ N + 1
  ln : ∀ l ∈ ls, l ≠ [] ∧ l.length ≤ N + 1
  wd : ∀ l ∈ ls, ∀ w ∈ l, TxOk N w
theorem lines_ok {N : Nat} {z : Str} (h : TxOk N z) : LsOk N (linesS z) := by
  obtain ⟨ne, po⟩ := split_ok h tl_nl (by omega)
  have many := split_many h tl_nl (by omega)
  refine ⟨fun e => ne (by unfold linesS at e; exact List.map_eq_nil_iff.mp e), by unfold linesS; rw [List.length_map]; exact many, fun l hl => ?_, fun l hl w hw => ?_⟩
  · obtain ⟨p, hp, rfl⟩ := List.mem_map.mp hl
    exact ⟨(split_ok (po p hp).1 tl_bl (by omega)).1, split_many (po p hp).1 tl_bl (by omega)⟩
  · obtain ⟨p, hp, rfl⟩ := List.mem_map.mp hl
    exact ((split_ok (po p hp).1 tl_bl (by omega)).2 w hw).1
def okLn (l : List Str) : Bool := decide (1 < l.length) && decide (TL.tl (l.headD "") = buyL)
def okLs (ls : List (List Str)) : Bool := decide (TL.tl ((ls.headD []).headD "") = amsL) && (ls.drop 1).all okLn
def amQ (ls : List (List Str)) : D := .tup (((ls.headD []).drop 1).map fun w => figD (nQ w))
def puQ (ls : List (List Str)) : D := .tup ((ls.drop 1).map fun l => fracD (fQ (l.getD 1 "")))
def wrQ (l : List Str) : D := .tup ((l.drop 2).map fun w => figD (nQ w))
def wiQ (ls : List (List Str)) : D := .tup ((ls.drop 1).map wrQ)
def mkQ (ls : List (List Str)) : D := .tup [amQ ls, puQ ls, wiQ ls]
def dueQ (ls : List (List Str)) : Option D := if okLs ls = true ∧ isMkD (mkQ ls) = true then some (mkQ ls) else none
theorem cut1 {α : Type} (xs : List α) {n : Nat} (h : n ≤ xs.length) : cutD xs (some (n : Int)) none = xs.drop n := cut_hi xs h
theorem sl_lst {γ : Type} (f : γ → D) (xs : List γ) {n : Nat} (h : n ≤ xs.length) : slV (dv (.lst (xs.map f))) (some (n : Int)) none = some (.ow (.l ((xs.drop n).map fun x => Ow.d (f x)))) := by
  show some (Vl.ow (.l ((cutD (xs.map f) (some (n : Int)) none).map Ow.d))) = _
  rw [cut1 _ (by rw [List.length_map]; exact h), ← List.map_drop, List.map_map]; rfl
theorem it_lst {γ : Type} (f : γ → D) (xs : List γ) : (((xs.map f).map dv).map Itm.one) = xs.map fun x => Itm.one (dv (f x)) := by rw [List.map_map, List.map_map]; rfl
theorem len_lst {γ : Type} (f : γ → D) (xs : List γ) : unV .len (dv (.lst (xs.map f))) = some (dv (.int (xs.length : Int))) := by
  show some (dv (.int ((xs.map f).length : Int))) = _
  rw [List.length_map]
theorem gd_nQ {N L : Nat} {w : Str} (h : TxOk N w) (n : Nat) : gd L n (figD (nQ w)) = true := by
  cases hq : nQ w with
  | none => cases n <;> rfl
  | some v =>
    have := (nQ_rng h hq).2
    have : decide (v.natAbs < 2 ^ 64) = true := decide_eq_true (by omega)
    cases n <;> simpa [gd, figD] using this
theorem fQ_rng {N : Nat} {w : Str} (h : TxOk N w) {a b : Int} (e : fQ w = some (a, b)) : a.natAbs < 2 ^ 36 ∧ b.natAbs < 2 ^ 36 := by
  have rng : ∀ x, some x ∈ numsB w 9 → x.natAbs < 2 ^ 36 := by
    intro x hv
    obtain ⟨p, hp, e⟩ := List.mem_map.mp hv
    exact (nQ_rng ((split_ok h tl_sl (by omega)).2 p hp).1 e).2
  unfold fQ at e
  match hN : numsB w 9, e with
  | [some x], e =>
    cases e
    exact ⟨rng a (by rw [hN]; simp), by decide⟩
  | [some x, some y], e =>
    have e : (if y < 2 ∨ gcdI x y ≠ 1 then none else some (x, y)) = some (a, b) := e
    split at e
    · cases e
    · cases e
      exact ⟨rng a (by rw [hN]; simp), rng b (by rw [hN]; simp)⟩
theorem gd_fQ {N L : Nat} {w : Str} (h : TxOk N w) (hL : 2 ≤ L) : gd L 1 (fracD (fQ w)) = true := by
  cases hq : fQ w with
  | none => rfl
  | some p =>
    obtain ⟨a, b⟩ := p
    obtain ⟨h1, h2⟩ := fQ_rng h hq
    show gd L 1 (.tup [.int a, .int b]) = true
    rw [gd_tup]
    refine ⟨hL, fun x hx => ?_⟩
    simp only [List.mem_cons, List.not_mem_nil, or_false] at hx
    rcases hx with rfl | rfl <;> (simp only [gd]; exact decide_eq_true (by omega))
theorem mem_getD {l : List Str} {i : Nat} (h : i < l.length) : l.getD i "" ∈ l := by
  rw [List.getD_eq_getElem?_getD, List.getElem?_eq_getElem h]
  exact List.getElem_mem h
theorem gd_mkQ {N : Nat} {ls : List (List Str)} (h : LsOk N ls) (hk : okLs ls = true) (hN : 3 ≤ N) : gd (N + 1) 3 (mkQ ls) = true := by
  obtain ⟨l0, r, rfl⟩ := List.exists_cons_of_ne_nil h.ne
  have hr : ∀ l ∈ r, okLn l = true := by
    unfold okLs at hk
    simp only [Bool.and_eq_true, List.all_eq_true] at hk
    intro l hl
    exact hk.2 l (by simpa using hl)
  have m0 := h.ln l0 List.mem_cons_self
  have lr : r.length ≤ N := by have := h.len; simp at this; omega
  unfold mkQ
  rw [gd_tup]
  refine ⟨by show 3 ≤ N + 1; omega, fun x hx => ?_⟩
  simp only [List.mem_cons, List.not_mem_nil, or_false] at hx
  rcases hx with rfl | rfl | rfl
  · show gd (N + 1) 2 (.tup ((l0.drop 1).map fun w => figD (nQ w))) = true
    rw [gd_tup]
    refine ⟨by rw [List.length_map, List.length_drop]; omega, fun x hx => ?_⟩
    obtain ⟨w, hw, rfl⟩ := List.mem_map.mp hx
    exact gd_nQ (h.wd l0 List.mem_cons_self w (List.mem_of_mem_drop hw)) 1
  · show gd (N + 1) 2 (.tup (r.map fun l => fracD (fQ (l.getD 1 "")))) = true
    rw [gd_tup]
    refine ⟨by rw [List.length_map]; omega, fun x hx => ?_⟩
    obtain ⟨l, hl, rfl⟩ := List.mem_map.mp hx
    have := hr l hl
    unfold okLn at this
    simp only [Bool.and_eq_true, decide_eq_true_eq] at this
    exact gd_fQ (h.wd l (List.mem_cons_of_mem _ hl) _ (mem_getD this.1)) (by omega)
  · show gd (N + 1) 2 (.tup (r.map wrQ)) = true
    rw [gd_tup]
    refine ⟨by rw [List.length_map]; omega, fun x hx => ?_⟩
    obtain ⟨l, hl, rfl⟩ := List.mem_map.mp hx
    have hl' := h.ln l (List.mem_cons_of_mem _ hl)
    unfold wrQ
    rw [gd_tup]
    refine ⟨by rw [List.length_map, List.length_drop]; omega, fun x hx => ?_⟩
    obtain ⟨w, hw, rfl⟩ := List.mem_map.mp hx
    exact gd_nQ (h.wd l (List.mem_cons_of_mem _ hl) w (List.mem_of_mem_drop hw)) 0
section
variable {fns : Nat → Option IFn} {gv : Nat → Option D}
theorem readm_eq [HasF fns 0 f0] [HasF fns 12 f12] [HasF fns 13 f13] [HasF fns 163 f163] [HasF fns 164 f164] [HasF fns 165 f165] [HasF fns 166 f166] [HasF fns 167 f167] [HasF fns 168 f168] [HasF fns 424 f424] [HasF fns 425 f425] [HasF fns 433 f433] (hg : GvM gv) (hf : gv 7 = some (.str "0123456789")) (h8 : gv 8 = some (.int 9)) (d : Nat) {N : Nat} {z : Str} (h : TxOk N z) (h3 : 3 ≤ N) (hN : N ≤ 90000) :
    cs fns gv (d + 6) 433 [.v (dv (.str z))] = match dueQ (linesS z) with | some x => .ok (.d x) [] | none => .exc 9 := by
  have L := lines_ok h
  obtain ⟨ne, po⟩ := split_ok h tl_nl (by omega)
  have many := split_many h tl_nl (by omega)
  have it : isaV .str (.str z) = true := rfl
  have sp := split_v h (by omega) tl_nl
  have l1 := lc_map (M := Mof []) (t := .n 6) (body := lcBody false (ev (cs fns gv (d + 5)) gv (Mof []) (.c (.bl true))) (ev (cs fns gv (d + 5)) gv (Mof []) (.split (.v 6) (.c (.str " "))))) (ρ := [.val (.d (.str (z))), .no, .no, .no, .no, .no, .no, .no]) (xs := Txt.split z "\n") (it := fun p => Itm.one (dv (.str p))) (fun p => Ow.l ((wordsS p).map fun w => Ow.d (.str w))) (fun p hp => by
    have e := split_v (po p hp).1 (by omega) tl_bl
    have e2 : Txt.split p " " = wordsS p := rfl
    rw [e2] at e
    simp_arith [e]) (by omega)
  have to := toDs_map' D.str (Txt.split z "\n")
  have em := it_lst D.str (Txt.split z "\n")
  have to1 : Ow.toDs ((Txt.split z "\n").map fun p => Ow.l ((wordsS p).map fun w => Ow.d (.str w))) = (linesS z).map lnD := by
    rw [Ow.toDs_eq, List.map_map]
    unfold linesS
    rw [List.map_map]
    apply List.map_congr_left
    intro p _
    show D.lst (Ow.toDs _) = _
    rw [toDs_map' D.str]; rfl
  obtain ⟨l0, r, hls⟩ := List.exists_cons_of_ne_nil L.ne
  have L' := L
  rw [hls] at L' to1
  obtain ⟨w0, t0, hl0⟩ := List.exists_cons_of_ne_nil (L'.ln l0 List.mem_cons_self).1
  have m0 := L'.ln l0 List.mem_cons_self
  have lr : r.length ≤ N := by have := L'.len; simp at this; omega
  have i0 : ixV (dv (.lst (lnD l0 :: r.map lnD))) 0 = some (dv (lnD l0)) := by
    show (atI (lnD l0 :: r.map lnD) 0).map dv = _
    rw [atI_zero]; rfl
  have j0 : ixV (dv (lnD l0)) 0 = some (dv (.str w0)) := by
    rw [hl0]
    show (atI (D.str w0 :: t0.map D.str) 0).map dv = _
    rw [atI_zero]; rfl
  have e1 := tx_ne (s := w0) (L'.wd l0 List.mem_cons_self w0 (by rw [hl0]; exact List.mem_cons_self)).good good_ams
  rw [tl_ams] at e1
  have s1 : cutD (lnD l0 :: r.map lnD) (some 1) none = r.map lnD := cut1 (n := 1) _ (by simp)
  have to2 := toDs_map' lnD r
  have em2 := it_lst lnD r
  have l2 := lc_map (M := Mof []) (t := .n 6) (body := lcBody false (ev (cs fns gv (d + 5)) gv (Mof []) (.c (.bl true))) (ev (cs fns gv (d + 5)) gv (Mof []) (.and (.bin .gt (.un .len (.v 6)) (.c (.int 1))) (.bin .eq (.ix (.v 6) (.c (.int 0))) (.c (.str "buyer")))))) (ρ := [.val (.d (.str (z))), .val (.d (.lst (lnD l0 :: r.map lnD))), .no, .no, .no, .no, .no, .no]) (xs := r) (it := fun l => Itm.one (dv (lnD l))) (fun l => Ow.d (.bl (okLn l))) (fun l hl => by
    have ml := L'.ln l (List.mem_cons_of_mem _ hl)
    obtain ⟨w, t, hw⟩ := List.exists_cons_of_ne_nil ml.1
    have len : unV .len (dv (lnD l)) = some (dv (.int (l.length : Int))) := len_lst D.str l
    have j : ixV (dv (lnD l)) 0 = some (dv (.str w)) := by
      rw [hw]
      show (atI (D.str w :: t.map D.str) 0).map dv = _
      rw [atI_zero]; rfl
    have e := tx_eq (s := w) (L'.wd l (List.mem_cons_of_mem _ hl) w (by rw [hw]; exact List.mem_cons_self)).good good_buy
    rw [tl_buy] at e
    have ev : okLn l = (decide (1 < l.length) && decide (TL.tl w = buyL)) := by unfold okLn; rw [hw]; rfl
    rw [ev]
    by_cases c : 1 < l.length
    · have c' : decide ((1 : Int) < (l.length : Int)) = true := decide_eq_true (by omega)
      have c2 : decide (1 < l.length) = true := decide_eq_true c
      simp_arith [len, c', c2, j, e]
    · have c' : decide ((1 : Int) < (l.length : Int)) = false := decide_eq_false (by omega)
      have c2 : decide (1 < l.length) = false := decide_eq_false c
      simp_arith [len, c', c2]) (by omega)
  have al : unV .all (.ow (.l (r.map fun l => Ow.d (.bl (okLn l))))) = some (dv (.bl (r.all okLn))) := x_allM
  have ok : okLs (l0 :: r) = (decide (TL.tl w0 = amsL) && r.all okLn) := by unfold okLs; rw [hl0]; rfl
  rw [hls]
  rw [r433]
  by_cases c1 : TL.tl w0 = amsL
  · rw [decide_eq_true c1] at e1
    cases c2 : r.all okLn with
    | false =>
      rw [c2] at al
      have : dueQ (l0 :: r) = none := by
        unfold dueQ
        rw [if_neg (by rintro ⟨h, _⟩; rw [ok, c2, Bool.and_false] at h; cases h)]
      rw [this]
      simp_arith [f433, it, sp, to, em, l1, to1, i0, j0, e1, s1, to2, em2, l2, al, c433_0, c433_1, c433_2]
    | true =>
      rw [c2] at al
      have hok : okLs (l0 :: r) = true := by rw [ok, c2, decide_eq_true c1]; rfl
      have g8 := fun M ρ => x_g (C := cs fns gv (d + 5)) (M := M) (ρ := ρ) h8
      have s2 : slV (dv (lnD l0)) (some 1) none = some (.ow (.l ((l0.drop 1).map fun w => Ow.d (.str w)))) := sl_lst D.str l0 (n := 1) (by rw [hl0]; simp)
      have to3 := toDs_map' D.str (l0.drop 1)
      have em3 := it_lst D.str (l0.drop 1)
      have l3 := lc_map (M := Mof []) (t := .n 7) (body := lcBody false (ev (cs fns gv (d + 5)) gv (Mof []) (.c (.bl true))) (ev (cs fns gv (d + 5)) gv (Mof []) (.call 424 (.val (.v 7) (.val (.g 8) .nil))))) (ρ := [.val (.d (.str (z))), .val (.d (.lst (lnD l0 :: r.map lnD))), .no, .no, .no, .no, .no, .no]) (xs := l0.drop 1) (it := fun w => Itm.one (dv (.str w))) (fun w => Ow.d (figD (nQ w))) (fun w hw => by
        have e := number_eq (fns := fns) (gv := gv) hf (d + 4) (L'.wd l0 List.mem_cons_self w (List.mem_of_mem_drop hw)) hN 9 (.inl (by omega))
        have e2 : (if (9 : Int) < (w.length : Int) then none else figN w) = nQ w := rfl
        rw [e2] at e
        simp_arith [g8, e]) (by rw [List.length_drop]; omega)
      have l4 := lc_map (M := Mof []) (t := .n 6) (body := lcBody false (ev (cs fns gv (d + 5)) gv (Mof []) (.c (.bl true))) (ev (cs fns gv (d + 5)) gv (Mof []) (.call 425 (.val (.ix (.v 6) (.c (.int 1))) (.val (.g 8) .nil))))) (ρ := [.val (.d (.str (z))), .val (.d (.lst (lnD l0 :: r.map lnD))), .val (.d (amQ (l0 :: r))), .no, .no, .no, .no, .no]) (xs := r) (it := fun l => Itm.one (dv (lnD l))) (fun l => Ow.d (fracD (fQ (l.getD 1 "")))) (fun l hl => by
        have hk := List.all_eq_true.mp c2 l hl
        unfold okLn at hk
        simp only [Bool.and_eq_true, decide_eq_true_eq] at hk
        have j : ixV (dv (lnD l)) 1 = some (dv (.str (l.getD 1 ""))) := by
          show (atI (l.map D.str) ((1 : Nat) : Int)).map dv = _
          rw [_root_.WM.atI_nat (by rw [List.length_map]; exact hk.1), List.getElem_map, List.getD_eq_getElem?_getD, List.getElem?_eq_getElem hk.1]; rfl
        have e := fracof_eq (fns := fns) (gv := gv) hf (d + 3) (L'.wd l (List.mem_cons_of_mem _ hl) _ (mem_getD hk.1)) hN 9 (.inl (by omega))
        have e2 : ∀ w, fracO (numsB w 9) = fQ w := fun _ => rfl
        rw [e2] at e
        simp_arith [j, g8, e]) (by omega)
      have l5 := lc_map (M := Mof []) (t := .n 6) (body := lcBody false (ev (cs fns gv (d + 5)) gv (Mof []) (.c (.bl true))) (ev (cs fns gv (d + 5)) gv (Mof []) (.un .tuple (.lc (.n 7) (.e (.sl (.v 6) (.so (.c (.int 2))) .no)) false (.c (.bl true)) (.call 424 (.val (.v 7) (.val (.g 8) .nil))))))) (ρ := [.val (.d (.str (z))), .val (.d (.lst (lnD l0 :: r.map lnD))), .val (.d (amQ (l0 :: r))), .val (.d (puQ (l0 :: r))), .no, .no, .no, .no]) (xs := r) (it := fun l => Itm.one (dv (lnD l))) (fun l => Ow.d (wrQ l)) (fun l hl => by
        have hk := List.all_eq_true.mp c2 l hl
        unfold okLn at hk
        simp only [Bool.and_eq_true, decide_eq_true_eq] at hk
        have ml := L'.ln l (List.mem_cons_of_mem _ hl)
        have s : slV (dv (lnD l)) (some 2) none = some (.ow (.l ((l.drop 2).map fun w => Ow.d (.str w)))) := sl_lst D.str l (n := 2) (by omega)
        have to' := toDs_map' D.str (l.drop 2)
        have em' := it_lst D.str (l.drop 2)
        have l6 := lc_map (M := Mof []) (t := .n 7) (body := lcBody false (ev (cs fns gv (d + 5)) gv (Mof []) (.c (.bl true))) (ev (cs fns gv (d + 5)) gv (Mof []) (.call 424 (.val (.v 7) (.val (.g 8) .nil))))) (ρ := [.val (.d (.str (z))), .val (.d (.lst (lnD l0 :: r.map lnD))), .val (.d (amQ (l0 :: r))), .val (.d (puQ (l0 :: r))), .no, .no, .val (.d (lnD l)), .no]) (xs := l.drop 2) (it := fun w => Itm.one (dv (.str w))) (fun w => Ow.d (figD (nQ w))) (fun w hw => by
          have e := number_eq (fns := fns) (gv := gv) hf (d + 4) (L'.wd l (List.mem_cons_of_mem _ hl) w (List.mem_of_mem_drop hw)) hN 9 (.inl (by omega))
          have e2 : (if (9 : Int) < (w.length : Int) then none else figN w) = nQ w := rfl
          rw [e2] at e
          simp_arith [g8, e]) (by rw [List.length_drop]; omega)
        have u6 := toDs_map' (fun w : Str => figD (nQ w)) (l.drop 2)
        simp_arith [s, to', em', l6, u6, wrQ]) (by omega)
      have a1 : D.tup ((l0.drop 1).map fun w => figD (nQ w)) = amQ (l0 :: r) := rfl
      have a2 : D.tup (r.map fun l => fracD (fQ (l.getD 1 ""))) = puQ (l0 :: r) := rfl
      have a3 : D.tup (r.map wrQ) = wiQ (l0 :: r) := rfl
      have a4 : D.tup [amQ (l0 :: r), puQ (l0 :: r), wiQ (l0 :: r)] = mkQ (l0 :: r) := rfl
      have em5 := market_eqD (fns := fns) (gv := gv) d hg (mkQ (l0 :: r)) (L := N + 1) (n := 3) (by omega) (gd_mkQ L' hok h3)
      have u3 := toDs_map' (fun w : Str => figD (nQ w)) (l0.drop 1)
      have u4 := toDs_map' (fun l : List Str => fracD (fQ (l.getD 1 ""))) r
      have u5 := toDs_map' wrQ r
      cases c3 : isMkD (mkQ (l0 :: r)) with
      | true =>
        rw [c3] at em5
        have : dueQ (l0 :: r) = some (mkQ (l0 :: r)) := if_pos ⟨hok, c3⟩
        rw [this]
        simp_arith [f433, it, sp, to, em, l1, to1, i0, j0, e1, s1, to2, em2, l2, al, s2, to3, em3, l3, u3, a1, l4, u4, a2, l5, u5, a3, a4, em5, c433_0, c433_1, c433_2]
      | false =>
        rw [c3] at em5
        have : dueQ (l0 :: r) = none := if_neg (by rintro ⟨_, h⟩; rw [c3] at h; cases h)
        rw [this]
        simp_arith [f433, it, sp, to, em, l1, to1, i0, j0, e1, s1, to2, em2, l2, al, s2, to3, em3, l3, u3, a1, l4, u4, a2, l5, u5, a3, a4, em5, c433_0, c433_1, c433_2]
  · rw [decide_eq_false c1] at e1
    have : dueQ (l0 :: r) = none := by
      unfold dueQ
      rw [if_neg (by rintro ⟨h, _⟩; rw [ok, decide_eq_false c1, Bool.false_and] at h; cases h)]
    rw [this]
    simp_arith [f433, it, sp, to, em, l1, to1, i0, j0, e1, c433_0, c433_1, c433_2]
theorem readm_no [HasF fns 0 f0] [HasF fns 12 f12] [HasF fns 13 f13] [HasF fns 163 f163] [HasF fns 164 f164] [HasF fns 165 f165] [HasF fns 166 f166] [HasF fns 167 f167] [HasF fns 168 f168] [HasF fns 424 f424] [HasF fns 425 f425] [HasF fns 433 f433] (d : Nat) {x : D} (h : isaV .str x = false) : cs fns gv (d + 1) 433 [.v (dv x)] = .exc 9 := by
  rw [r433]
  simp_arith [f433, h, c433_0, c433_1, c433_2]
end
end WMk

namespace WMk
open PySem L2 WM
theorem lnD_fit {l : List Str} (h : ∀ s ∈ l, goodS s = true) : (lnD l).lay = true ∧ (lnD l).dep ≤ 10 ∧ (lnD l).nos = true := by
  have key : D.lays (l.map D.str) = true ∧ D.deps (l.map D.str) = 0 ∧ D.noss (l.map D.str) = true := by
    induction l with
    | nil => exact ⟨rfl, rfl, rfl⟩
    | cons s ss ih =>
      obtain ⟨h1, h2, h3⟩ := ih fun t ht => h t (List.mem_cons_of_mem _ ht)
      have := h s List.mem_cons_self
      unfold goodS at this
      rw [List.map_cons]
      unfold D.lays D.deps D.noss D.lay D.dep D.nos
      rw [h1, h2, h3, this]
      exact ⟨rfl, rfl, rfl⟩
  obtain ⟨h1, h2, h3⟩ := key
  unfold lnD D.lay D.dep D.nos
  exact ⟨h1, by rw [h2]; omega, h3⟩
theorem ne_nilD {ds : List D} (h : ∀ x ∈ ds, x.lay = true ∧ x.dep ≤ 10 ∧ x.nos = true) : binV .ne (.ow (.l (ds.map Ow.d))) (.ow (.l [])) = some (dv (.bl (!decide (ds = [])))) := by
  have lk : (Vl.ow (.l (ds.map Ow.d))).look = .lst ds := by
    show D.lst (Ow.toDs _) = _
    rw [toDs_map]
  have key : D.lays ds = true ∧ D.deps ds ≤ 10 ∧ D.noss ds = true := by
    clear lk
    induction ds with
    | nil => exact ⟨rfl, Nat.zero_le _, rfl⟩
    | cons s ss ih =>
      obtain ⟨h1, h2, h3⟩ := ih fun t ht => h t (List.mem_cons_of_mem _ ht)
      obtain ⟨a1, a2, a3⟩ := h s List.mem_cons_self
      unfold D.lays D.deps D.noss
      rw [h1, h3, a1, a3]
      exact ⟨rfl, by omega, rfl⟩
  obtain ⟨h1, h2, h3⟩ := key
  have f1 : (D.lst ds).fit = true := by
    unfold D.fit D.lay D.dep
    rw [h1, Bool.true_and]
    exact decide_eq_true (by omega)
  have f2 : (D.lst ds).nos = true := by unfold D.nos; exact h3
  show (if ((Vl.ow (.l (ds.map Ow.d))).look.fit && (Vl.ow (.l [])).look.fit && (Vl.ow (.l (ds.map Ow.d))).look.nos && (Vl.ow (.l [])).look.nos) = true then _ else _) = _
  rw [lk, f1, f2, if_pos (by rfl)]
  cases ds <;> rfl
theorem in_nonT (os : List (Option (Int × Int))) : binV .isIn (dv .non) (dv (.tup (os.map fracD))) = some (dv (.bl (os.any Option.isNone))) := by
  have l1 : ∀ os : List (Option (Int × Int)), D.lays (os.map fracD) = true ∧ D.deps (os.map fracD) ≤ 1 ∧ D.noss (os.map fracD) = true := by
    intro os
    induction os with
    | nil => exact ⟨rfl, Nat.zero_le _, rfl⟩
    | cons o os ih =>
      obtain ⟨h1, h2, h3⟩ := ih
      rw [List.map_cons]
      unfold D.lays D.deps D.noss
      rw [h1, h3]
      rcases o with _ | ⟨a, b⟩
      · exact ⟨rfl, by show max 0 _ ≤ 1; omega, rfl⟩
      · exact ⟨rfl, by show max 1 _ ≤ 1; omega, rfl⟩
  obtain ⟨h1, h2, h3⟩ := l1 os
  have f1 : (D.tup (os.map fracD)).fit = true := by
    unfold D.fit D.lay D.dep
    rw [h1, Bool.true_and]
    exact decide_eq_true (by omega)
  have val : ((os.map fracD).any fun z => D.eqv z .non) = os.any Option.isNone := by
    rw [List.any_map]
    congr 1
    funext o
    rcases o with _ | ⟨a, b⟩ <;> rfl
  show (if (D.non.flat && (os.map fracD).all D.flat) = true then some ((os.map fracD).any fun z => D.eqv z .non) else if (D.non.fit && (D.tup (os.map fracD)).fit && D.non.nos && D.noss (os.map fracD)) = true then some ((os.map fracD).any fun z => D.eqv z .non) else none).map _ = _
  rw [f1, h3, val, if_pos (c := (D.non.fit && true && D.non.nos && true) = true) (by rfl), ite_self]; rfl
theorem no_none {l0 : List Str} {r : List (List Str)} (h : isMkD (mkQ (l0 :: r)) = true) : (r.map fun l => fQ (l.getD 1 "")).any Option.isNone = false := by
  have : (elD (puQ (l0 :: r))).all isPurD = true := by
    have h : (isCntD (amQ (l0 :: r)) && isCntD (puQ (l0 :: r)) && isRowD (lenD (amQ (l0 :: r))) 1 60 (amQ (l0 :: r)) && (elD (puQ (l0 :: r))).all isPurD && isWiD (lenD (puQ (l0 :: r))) (lenD (amQ (l0 :: r))) (wiQ (l0 :: r))) = true := h
    simp only [Bool.and_eq_true] at h
    exact h.1.2
  have e : elD (puQ (l0 :: r)) = r.map fun l => fracD (fQ (l.getD 1 "")) := rfl
  rw [e, List.all_map] at this
  rw [List.any_map, List.any_eq_false]
  intro l hl
  have q := List.all_eq_true.mp this l hl
  intro hn
  cases hq : fQ (l.getD 1 "") with
  | none =>
    have q : isPurD (fracD (fQ (l.getD 1 ""))) = true := q
    rw [hq] at q
    exact absurd q (by decide)
  | some p =>
    have hn : (fQ (l.getD 1 "")).isNone = true := hn
    rw [hq] at hn
    cases hn
section
variable {fns : Nat → Option IFn} {gv : Nat → Option D}
theorem due33_eq [HasF fns 0 f0] [HasF fns 3 f3] [HasF fns 12 f12] [HasF fns 13 f13] [HasF fns 163 f163] [HasF fns 164 f164] [HasF fns 165 f165] [HasF fns 166 f166] [HasF fns 167 f167] [HasF fns 168 f168] [HasF fns 445 f445] [HasF fns 446 f446] [HasF fns 447 f447] (hg : GvM gv) (d : Nat) {N : Nat} {z : Str} (h : TxOk N z) (h3 : 3 ≤ N) (hN : N ≤ 90000) :
    cs fns gv (d + 6) 447 [.v (dv (.str z))] = .ok (.d ((dueQ (linesS z)).getD .non)) [] := by
  have L := lines_ok h
  obtain ⟨ne, po⟩ := split_ok h tl_nl (by omega)
  have many := split_many h tl_nl (by omega)
  have sp := split_v h (by omega) tl_nl
  have l1 := lc_map (M := Mof []) (t := .n 6) (body := lcBody false (ev (cs fns gv (d + 5)) gv (Mof []) (.c (.bl true))) (ev (cs fns gv (d + 5)) gv (Mof []) (.split (.v 6) (.c (.str " "))))) (ρ := [.val (.d (.str (z))), .no, .no, .no, .no, .no, .no, .no]) (xs := Txt.split z "\n") (it := fun p => Itm.one (dv (.str p))) (fun p => Ow.l ((wordsS p).map fun w => Ow.d (.str w))) (fun p hp => by
    have e := split_v (po p hp).1 (by omega) tl_bl
    have e2 : Txt.split p " " = wordsS p := rfl
    rw [e2] at e
    simp_arith [e]) (by omega)
  have to := toDs_map' D.str (Txt.split z "\n")
  have em := it_lst D.str (Txt.split z "\n")
  have to1 : Ow.toDs ((Txt.split z "\n").map fun p => Ow.l ((wordsS p).map fun w => Ow.d (.str w))) = (linesS z).map lnD := by
    rw [Ow.toDs_eq, List.map_map]
    unfold linesS
    rw [List.map_map]
    apply List.map_congr_left
    intro p _
    show D.lst (Ow.toDs _) = _
    rw [toDs_map' D.str]; rfl
  obtain ⟨l0, r, hls⟩ := List.exists_cons_of_ne_nil L.ne
  have L' := L
  rw [hls] at L' to1
  obtain ⟨w0, t0, hl0⟩ := List.exists_cons_of_ne_nil (L'.ln l0 List.mem_cons_self).1
  have m0 := L'.ln l0 List.mem_cons_self
  have lr : r.length ≤ N := by have := L'.len; simp at this; omega
  have i0 : ixV (dv (.lst (lnD l0 :: r.map lnD))) 0 = some (dv (lnD l0)) := by
    show (atI (lnD l0 :: r.map lnD) 0).map dv = _
    rw [atI_zero]; rfl
  have j0 : ixV (dv (lnD l0)) 0 = some (dv (.str w0)) := by
    rw [hl0]
    show (atI (D.str w0 :: t0.map D.str) 0).map dv = _
    rw [atI_zero]; rfl
  have e1 := tx_ne (s := w0) (L'.wd l0 List.mem_cons_self w0 (by rw [hl0]; exact List.mem_cons_self)).good good_ams
  rw [tl_ams] at e1
  have s1 : cutD (lnD l0 :: r.map lnD) (some 1) none = r.map lnD := cut1 (n := 1) _ (by simp)
  have to2 := toDs_map' lnD r
  have em2 := it_lst lnD r
  have l2 := lc_filter (M := Mof []) (t := .n 6) (body := lcBody true (ev (cs fns gv (d + 5)) gv (Mof []) (.or (.bin .ne (.ix (.v 6) (.c (.int 0))) (.c (.str "buyer"))) (.bin .lt (.un .len (.v 6)) (.c (.int 2))))) (ev (cs fns gv (d + 5)) gv (Mof []) (.v 6))) (ρ := [.val (.d (.str (z))), .val (.d (.lst (lnD l0 :: r.map lnD))), .no, .no, .no, .no, .no, .no]) (xs := r) (it := fun l => Itm.one (dv (lnD l))) (fun l => !okLn l) (fun l => Ow.d (lnD l)) (fun l hl => by
    have ml := L'.ln l (List.mem_cons_of_mem _ hl)
    obtain ⟨w, t, hw⟩ := List.exists_cons_of_ne_nil ml.1
    have len : unV .len (dv (lnD l)) = some (dv (.int (l.length : Int))) := len_lst D.str l
    have j : ixV (dv (lnD l)) 0 = some (dv (.str w)) := by
      rw [hw]
      show (atI (D.str w :: t.map D.str) 0).map dv = _
      rw [atI_zero]; rfl
    have e := tx_ne (s := w) (L'.wd l (List.mem_cons_of_mem _ hl) w (by rw [hw]; exact List.mem_cons_self)).good good_buy
    rw [tl_buy] at e
    have ev : okLn l = (decide (1 < l.length) && decide (TL.tl w = buyL)) := by unfold okLn; rw [hw]; rfl
    rw [ev]
    by_cases c : 1 < l.length
    · have c' : decide ((l.length : Int) < 2) = false := decide_eq_false (by omega)
      have c2 : decide (1 < l.length) = true := decide_eq_true c
      by_cases q : TL.tl w = buyL
      · rw [decide_eq_true q] at e ⊢
        simp_arith [len, c', c2, j, e]
      · rw [decide_eq_false q] at e ⊢
        simp_arith [len, c', c2, j, e]
    · have c' : decide ((l.length : Int) < 2) = true := decide_eq_true (by omega)
      have c2 : decide (1 < l.length) = false := decide_eq_false c
      by_cases q : TL.tl w = buyL
      · rw [decide_eq_true q] at e ⊢
        simp_arith [len, c', c2, j, e]
      · rw [decide_eq_false q] at e ⊢
        simp_arith [len, c', c2, j, e]) (by omega)
  have al : binV .ne (.ow (.l ((r.filter fun l => !okLn l).map fun l => Ow.d (lnD l)))) (.ow (.l [])) = some (dv (.bl (!r.all okLn))) := by
    have := ne_nilD (ds := (r.filter fun l => !okLn l).map lnD) (by
      intro x hx
      obtain ⟨l, hl, rfl⟩ := List.mem_map.mp hx
      have hl := (List.mem_filter.mp hl).1
      exact lnD_fit fun w hw => (L'.wd l (List.mem_cons_of_mem _ hl) w hw).good)
    rw [List.map_map] at this
    refine this.trans ?_
    congr 4
    cases hall : r.all okLn with
    | true =>
      apply decide_eq_true
      rw [List.map_eq_nil_iff, List.filter_eq_nil_iff]
      intro y hy
      simp [List.all_eq_true.mp hall y hy]
    | false =>
      apply decide_eq_false
      rw [List.map_eq_nil_iff, List.filter_eq_nil_iff]
      intro hn
      have : r.all okLn = true := List.all_eq_true.mpr fun x hx => by simpa using hn x hx
      rw [this] at hall
      exact absurd hall (by decide)
  have ok : okLs (l0 :: r) = (decide (TL.tl w0 = amsL) && r.all okLn) := by unfold okLs; rw [hl0]; rfl
  rw [hls]
  rw [r447]
  by_cases c1 : TL.tl w0 = amsL
  · rw [decide_eq_true c1] at e1
    cases c2 : r.all okLn with
    | false =>
      rw [c2] at al
      have : dueQ (l0 :: r) = none := by
        unfold dueQ
        rw [if_neg (by rintro ⟨h, _⟩; rw [ok, c2, Bool.and_false] at h; cases h)]
      rw [this]
      simp_arith [f447, sp, to, em, l1, to1, i0, j0, e1, s1, to2, em2, l2, al, Option.getD, c447_0, c447_1]
    | true =>
      rw [c2] at al
      have hok : okLs (l0 :: r) = true := by rw [ok, c2, decide_eq_true c1]; rfl
      have s2 : slV (dv (lnD l0)) (some 1) none = some (.ow (.l ((l0.drop 1).map fun w => Ow.d (.str w)))) := sl_lst D.str l0 (n := 1) (by rw [hl0]; simp)
      have to3 := toDs_map' D.str (l0.drop 1)
      have em3 := it_lst D.str (l0.drop 1)
      have l3 := lc_map (M := Mof []) (t := .n 7) (body := lcBody false (ev (cs fns gv (d + 5)) gv (Mof []) (.c (.bl true))) (ev (cs fns gv (d + 5)) gv (Mof []) (.call 445 (.val (.v 7) .nil)))) (ρ := [.val (.d (.str (z))), .val (.d (.lst (lnD l0 :: r.map lnD))), .no, .no, .no, .no, .no, .no]) (xs := l0.drop 1) (it := fun w => Itm.one (dv (.str w))) (fun w => Ow.d (figD (nQ w))) (fun w hw => by
        have e := num33_eq (fns := fns) (gv := gv) (d + 4) (L'.wd l0 List.mem_cons_self w (List.mem_of_mem_drop hw)) hN
        simp_arith [e]) (by rw [List.length_drop]; omega)
      have l4 := lc_map (M := Mof []) (t := .n 6) (body := lcBody false (ev (cs fns gv (d + 5)) gv (Mof []) (.c (.bl true))) (ev (cs fns gv (d + 5)) gv (Mof []) (.call 446 (.val (.ix (.v 6) (.c (.int 1))) .nil)))) (ρ := [.val (.d (.str (z))), .val (.d (.lst (lnD l0 :: r.map lnD))), .val (.d (amQ (l0 :: r))), .no, .no, .no, .no, .no]) (xs := r) (it := fun l => Itm.one (dv (lnD l))) (fun l => Ow.d (fracD (fQ (l.getD 1 "")))) (fun l hl => by
        have hk := List.all_eq_true.mp c2 l hl
        unfold okLn at hk
        simp only [Bool.and_eq_true, decide_eq_true_eq] at hk
        have j : ixV (dv (lnD l)) 1 = some (dv (.str (l.getD 1 ""))) := by
          show (atI (l.map D.str) ((1 : Nat) : Int)).map dv = _
          rw [_root_.WM.atI_nat (by rw [List.length_map]; exact hk.1), List.getElem_map, List.getD_eq_getElem?_getD, List.getElem?_eq_getElem hk.1]; rfl
        have e := frc33_eq (fns := fns) (gv := gv) (d + 3) (L'.wd l (List.mem_cons_of_mem _ hl) _ (mem_getD hk.1)) hN
        simp_arith [j, e]) (by omega)
      have l5 := lc_map (M := Mof []) (t := .n 6) (body := lcBody false (ev (cs fns gv (d + 5)) gv (Mof []) (.c (.bl true))) (ev (cs fns gv (d + 5)) gv (Mof []) (.un .tuple (.lc (.n 7) (.e (.sl (.v 6) (.so (.c (.int 2))) .no)) false (.c (.bl true)) (.call 445 (.val (.v 7) .nil)))))) (ρ := [.val (.d (.str (z))), .val (.d (.lst (lnD l0 :: r.map lnD))), .val (.d (amQ (l0 :: r))), .val (.d (puQ (l0 :: r))), .no, .no, .no, .no]) (xs := r) (it := fun l => Itm.one (dv (lnD l))) (fun l => Ow.d (wrQ l)) (fun l hl => by
        have hk := List.all_eq_true.mp c2 l hl
        unfold okLn at hk
        simp only [Bool.and_eq_true, decide_eq_true_eq] at hk
        have ml := L'.ln l (List.mem_cons_of_mem _ hl)
        have s : slV (dv (lnD l)) (some 2) none = some (.ow (.l ((l.drop 2).map fun w => Ow.d (.str w)))) := sl_lst D.str l (n := 2) (by omega)
        have to' := toDs_map' D.str (l.drop 2)
        have em' := it_lst D.str (l.drop 2)
        have l6 := lc_map (M := Mof []) (t := .n 7) (body := lcBody false (ev (cs fns gv (d + 5)) gv (Mof []) (.c (.bl true))) (ev (cs fns gv (d + 5)) gv (Mof []) (.call 445 (.val (.v 7) .nil)))) (ρ := [.val (.d (.str (z))), .val (.d (.lst (lnD l0 :: r.map lnD))), .val (.d (amQ (l0 :: r))), .val (.d (puQ (l0 :: r))), .no, .no, .val (.d (lnD l)), .no]) (xs := l.drop 2) (it := fun w => Itm.one (dv (.str w))) (fun w => Ow.d (figD (nQ w))) (fun w hw => by
          have e := num33_eq (fns := fns) (gv := gv) (d + 4) (L'.wd l (List.mem_cons_of_mem _ hl) w (List.mem_of_mem_drop hw)) hN
          simp_arith [e]) (by rw [List.length_drop]; omega)
        have u6 := toDs_map' (fun w : Str => figD (nQ w)) (l.drop 2)
        simp_arith [s, to', em', l6, u6, wrQ]) (by omega)
      have a1 : D.tup ((l0.drop 1).map fun w => figD (nQ w)) = amQ (l0 :: r) := rfl
      have a2 : D.tup (r.map fun l => fracD (fQ (l.getD 1 ""))) = puQ (l0 :: r) := rfl
      have a3 : D.tup (r.map wrQ) = wiQ (l0 :: r) := rfl
      have a4 : D.tup [amQ (l0 :: r), puQ (l0 :: r), wiQ (l0 :: r)] = mkQ (l0 :: r) := rfl
      have em5 := market_eqD (fns := fns) (gv := gv) d hg (mkQ (l0 :: r)) (L := N + 1) (n := 3) (by omega) (gd_mkQ L' hok h3)
      have u3 := toDs_map' (fun w : Str => figD (nQ w)) (l0.drop 1)
      have u4 := toDs_map' (fun l : List Str => fracD (fQ (l.getD 1 ""))) r
      have u5 := toDs_map' wrQ r
      have inn := in_nonT (r.map fun l => fQ (l.getD 1 ""))
      have inn2 : D.tup ((r.map fun l => fQ (l.getD 1 "")).map fracD) = puQ (l0 :: r) := by rw [List.map_map]; rfl
      rw [inn2] at inn
      cases c3 : isMkD (mkQ (l0 :: r)) with
      | true =>
        rw [c3] at em5
        have : dueQ (l0 :: r) = some (mkQ (l0 :: r)) := if_pos ⟨hok, c3⟩
        rw [this]
        have nn : (r.map fun l => fQ (l.getD 1 "")).any Option.isNone = false := no_none c3
        rw [nn] at inn
        simp_arith [f447, sp, to, em, l1, to1, i0, j0, e1, s1, to2, em2, l2, al, s2, to3, em3, l3, u3, a1, l4, u4, a2, l5, u5, a3, a4, em5, inn, Option.getD, c447_0, c447_1]
      | false =>
        rw [c3] at em5
        have : dueQ (l0 :: r) = none := if_neg (by rintro ⟨_, h⟩; rw [c3] at h; cases h)
        rw [this]
        cases nn : (r.map fun l => fQ (l.getD 1 "")).any Option.isNone <;> (rw [nn] at inn; simp_arith [f447, sp, to, em, l1, to1, i0, j0, e1, s1, to2, em2, l2, al, s2, to3, em3, l3, u3, a1, l4, u4, a2, l5, u5, a3, a4, em5, inn, Option.getD, c447_0, c447_1])
  · rw [decide_eq_false c1] at e1
    have : dueQ (l0 :: r) = none := by
      unfold dueQ
      rw [if_neg (by rintro ⟨h, _⟩; rw [ok, decide_eq_false c1, Bool.false_and] at h; cases h)]
    rw [this]
    simp_arith [f447, sp, to, em, l1, to1, i0, j0, e1, Option.getD, c447_0, c447_1]
end
end WMk

namespace WMk
open PySem L2 WM
def iS (i : Int) : Str := Str.ofString (toString i)
theorem iS_n {i : Int} (h : 0 ≤ i) : iS i = nS i.toNat := by unfold iS nS; rw [Int.toNat_of_nonneg h]
theorem iS_eq {i : Int} (h : i.natAbs < 2 ^ 1000) : unV .str (dv (.int i)) = some (dv (.str (iS i))) := x_strI (by have := log_lt h; omega)
def amLn (m : Mk) : List Str := "amounts" :: m.am.map iS
def buLn (p : Rat) (r : List Int) : List Str := "buyer" :: qS p :: r.map iS
def mkLs (m : Mk) : List (List Str) := amLn m :: (m.pu.zip m.wi).map fun x => buLn x.1 x.2
def blJ (l : List Str) : Str := Txt.join " " l
def mkT (m : Mk) : Str := Txt.join "\n" ((mkLs m).map blJ)
def wt (l : List Str) : Nat := (l.map fun s => s.length + 1).sum
theorem join_len (y : Str) (h : y.length = 1) : ∀ l : List Str, (Txt.join y l).length ≤ wt l := by
  intro l
  have e : (Txt.join y l).length = (TL.joinL (TL.tl y) (l.map TL.tl)).length := by rw [tl_len, TL.join_eq, TL.tl_join]
  rw [e]
  have hy : (TL.tl y).length = 1 := by rw [← tl_len]; exact h
  clear e
  have key : ∀ l : List (List Nat), (TL.joinL (TL.tl y) l).length ≤ (l.map fun s => s.length + 1).sum := by
    intro l
    induction l with
    | nil => rw [TL.joinL.eq_1]; exact Nat.zero_le _
    | cons p r ih =>
      cases r with
      | nil => rw [TL.joinL.eq_2]; simp
      | cons q r =>
        rw [TL.joinL.eq_3, List.length_append, List.length_append, hy, List.map_cons, List.sum_cons]
        omega
  have := key (l.map TL.tl)
  rw [List.map_map] at this
  unfold wt
  have e2 : (l.map fun s => s.length + 1) = l.map ((fun s : List Nat => s.length + 1) ∘ TL.tl) := List.map_congr_left fun s _ => by
    show s.length + 1 = (TL.tl s).length + 1
    rw [tl_len]
  rw [e2]; exact this
theorem join_tx {y : Str} {c : Nat} (hy : TL.tl y = [c]) (hc : c < 128) {n : Nat} {l : List Str} (h : ∀ s ∈ l, ∀ c ∈ TL.tl s, c < 128) (hw : wt l ≤ n) : TxOk n (Txt.join y l) := by
  refine ⟨Nat.le_trans (join_len y (by rw [tl_len, hy]; rfl) l) hw, fun x hx => ?_⟩
  rw [TL.join_eq] at hx
  rcases (PyProof.Rows.mem_join y x l).mp hx with ⟨t, ht, hm⟩ | ⟨_, hm⟩
  · exact h t ht x hm
  · have : x ∈ TL.tl y := hm
    rw [hy] at this
    rw [List.mem_singleton.mp this]; exact hc
theorem wt_le {n : Nat} : ∀ (l : List Str), (∀ s ∈ l, s.length ≤ n) → wt l ≤ l.length * (n + 1)
  | [], _ => Nat.zero_le _
  | s :: l, h => by
    have := wt_le l fun t ht => h t (List.mem_cons_of_mem _ ht)
    have := h s List.mem_cons_self
    unfold wt at *
    rw [List.map_cons, List.sum_cons, List.length_cons, Nat.add_mul]
    omega
theorem qS_free {p : Rat} {s : Nat} (h : s < 47 ∨ 57 < s) : s ∉ TL.tl (qS p) := by
  have f : ∀ k, s ∉ TL.numL k := fun k => TL.numL_free (by omega)
  unfold qS
  split
  · rw [nS_tl]; exact f _
  · rw [TL.tl_append, TL.tl_append, nS_tl, nS_tl, tl_sl]
    simp only [List.mem_append, List.mem_singleton, not_or]
    exact ⟨⟨f _, by omega⟩, f _⟩
theorem word_free {m : Mk} (hm : MkOk0 m) {s : Nat} (h : s < 47) : ∀ l ∈ mkLs m, ∀ w ∈ l, s ∉ TL.tl w := by
  have fi : ∀ i : Int, 0 ≤ i → s ∉ TL.tl (iS i) := fun i hi => by rw [iS_n hi, nS_tl]; exact TL.numL_free (by omega)
  intro l hl w hw
  rcases List.mem_cons.mp hl with rfl | hl
  · rcases List.mem_cons.mp hw with rfl | hw
    · rw [tl_ams]; unfold amsL; simp; omega
    · obtain ⟨i, hi, rfl⟩ := List.mem_map.mp hw
      exact fi i (by have := hm.am i hi; omega)
  · obtain ⟨x, hx, rfl⟩ := List.mem_map.mp hl
    obtain ⟨_, h2⟩ := List.of_mem_zip (a := x.1) (b := x.2) hx
    rcases List.mem_cons.mp hw with rfl | hw
    · rw [tl_buy]; unfold buyL; simp; omega
    · rcases List.mem_cons.mp hw with rfl | hw
      · exact qS_free (.inl h)
      · obtain ⟨i, hi, rfl⟩ := List.mem_map.mp hw
        exact fi i ((hm.wi _ h2).2 i hi).1
theorem mkT_lines {m : Mk} (hm : MkOk0 m) : linesS (mkT m) = mkLs m := by
  have k1 : ("\n" : Str).cps.all (fun x => decide (x < 256)) = true := by decide +kernel
  have k2 : (" " : Str).cps.all (fun x => decide (x < 256)) = true := by decide +kernel
  have inner : ∀ l ∈ mkLs m, l ≠ [] := fun l hl => by
    rcases List.mem_cons.mp hl with rfl | hl
    · exact List.cons_ne_nil _ _
    · obtain ⟨x, _, rfl⟩ := List.mem_map.mp hl
      exact List.cons_ne_nil _ _
  have e1 : Txt.split (mkT m) "\n" = (mkLs m).map blJ := TL.split_join tl_nl k1 (by unfold mkLs; exact List.cons_ne_nil _ _) fun p hp => by
    obtain ⟨l, hl, rfl⟩ := List.mem_map.mp hp
    intro hx
    have hx : 10 ∈ (Txt.join " " l).cps.toList := hx
    rw [TL.join_eq] at hx
    rcases (PyProof.Rows.mem_join " " 10 l).mp hx with ⟨t, ht, hm'⟩ | ⟨_, hm'⟩
    · exact word_free hm (by omega) l hl t ht hm'
    · have : 10 ∈ TL.tl " " := hm'
      rw [tl_bl] at this
      have := List.mem_singleton.mp this
      omega
  unfold linesS
  rw [e1, List.map_map]
  have : ∀ l ∈ mkLs m, (wordsS ∘ blJ) l = l := fun l hl => TL.split_join tl_bl k2 (inner l hl) fun w hw => word_free hm (by omega) l hl w hw
  rw [List.map_congr_left this, List.map_id']
theorem nQ_iS {i : Int} (h0 : 0 ≤ i) (h : i ≤ 100) : nQ (iS i) = some i := by
  rw [iS_n h0]
  have t : TxOk 3 (nS i.toNat) := nS_tx (by omega) (by omega)
  unfold nQ
  rw [if_neg (by have := t.1; omega), figN_L, nS_tl, figL_num, Int.toNat_of_nonneg h0]
theorem fQ_qS {p : Rat} (h : PuOk1 p) : fQ (qS p) = some (p.num, (p.den : Int)) := by
  have hn : 0 < p.num := num_pos h.pos
  have h1 := h.num
  have h2 := h.den
  have e : numsB (qS p) 9 = numsL (qS p) := by
    unfold numsB numsL
    apply List.map_congr_left
    intro w hw
    have hm : TL.tl w ∈ (Txt.split (qS p) "/").map TL.tl := List.mem_map_of_mem hw
    rw [split_tl _ tl_sl (by omega)] at hm
    have lw : w.length ≤ 7 := by
      rw [tl_len]
      have n1 : (TL.numL p.num.toNat).length ≤ 7 := TL.numL_len (by omega) (by omega)
      have n2 : (TL.numL p.den).length ≤ 7 := TL.numL_len (by omega) (by omega)
      unfold qS at hm
      split at hm
      · rw [nS_tl] at hm
        have sj := TL.spl_join (s := 47) (S := []) (parts := [TL.numL p.num.toNat]) (List.cons_ne_nil _ _) (fun p hp => by
          rw [List.mem_singleton.mp hp]; exact TL.numL_free (by omega))
        rw [TL.joinL.eq_2] at sj
        rw [sj] at hm
        rw [List.mem_singleton.mp hm]; exact n1
      · rw [TL.tl_append, TL.tl_append, nS_tl, nS_tl, tl_sl, List.append_assoc] at hm
        have sj := TL.spl_join (s := 47) (S := []) (parts := [TL.numL p.num.toNat, TL.numL p.den]) (List.cons_ne_nil _ _) (fun p hp => by
          rcases List.mem_cons.mp hp with rfl | hp
          · exact TL.numL_free (by omega)
          · rw [List.mem_singleton.mp hp]; exact TL.numL_free (by omega))
        rw [TL.joinL.eq_3, TL.joinL.eq_2] at sj
        rw [sj] at hm
        rcases List.mem_cons.mp hm with hm | hm
        · rw [hm]; exact n1
        · rw [List.mem_singleton.mp hm]; exact n2
    rw [if_neg (by omega)]
  unfold fQ
  rw [e]
  exact qS_read (Rat.le_of_lt h.pos)
theorem mkT_due {m : Mk} (hm : MkOk m) : dueQ (linesS (mkT m)) = some (mkD m) := by
  have hm0 := hm.toMkOk0
  rw [mkT_lines hm0]
  have ok : okLs (mkLs m) = true := by
    unfold okLs
    rw [Bool.and_eq_true, List.all_eq_true]
    refine ⟨decide_eq_true tl_ams, fun l hl => ?_⟩
    have hl : l ∈ (m.pu.zip m.wi).map fun x => buLn x.1 x.2 := hl
    obtain ⟨x, hx, rfl⟩ := List.mem_map.mp hl
    unfold okLn
    rw [Bool.and_eq_true]
    exact ⟨decide_eq_true (by unfold buLn; simp), decide_eq_true tl_buy⟩
  have e1 : amQ (mkLs m) = amD m := by
    show D.tup ((m.am.map iS).map fun w => figD (nQ w)) = _
    rw [List.map_map]
    unfold amD
    congr 1
    apply List.map_congr_left
    intro i hi
    have := hm.am i hi
    show figD (nQ (iS i)) = _
    rw [nQ_iS (by omega) (by omega)]; rfl
  have e2 : puQ (mkLs m) = puD m := by
    show D.tup (((m.pu.zip m.wi).map fun x => buLn x.1 x.2).map fun l => fracD (fQ (l.getD 1 ""))) = _
    rw [List.map_map]
    unfold puD
    congr 1
    have : m.pu = (m.pu.zip m.wi).map Prod.fst := (List.map_fst_zip (Nat.le_of_eq hm.pl)).symm
    conv => rhs; rw [this, List.map_map]
    apply List.map_congr_left
    intro x hx
    obtain ⟨h1, _⟩ := List.of_mem_zip (a := x.1) (b := x.2) hx
    show fracD (fQ (qS x.1)) = qD x.1
    rw [fQ_qS (hm.ps _ h1)]; rfl
  have e3 : wiQ (mkLs m) = wiD m := by
    show D.tup (((m.pu.zip m.wi).map fun x => buLn x.1 x.2).map wrQ) = _
    rw [List.map_map]
    unfold wiD
    congr 1
    have : m.wi = (m.pu.zip m.wi).map Prod.snd := (List.map_snd_zip (Nat.le_of_eq hm.pl.symm)).symm
    conv => rhs; rw [this, List.map_map]
    apply List.map_congr_left
    intro x hx
    obtain ⟨_, h2⟩ := List.of_mem_zip (a := x.1) (b := x.2) hx
    show D.tup ((x.2.map iS).map fun w => figD (nQ w)) = rD x.2
    rw [List.map_map]
    unfold rD
    congr 1
    apply List.map_congr_left
    intro i hi
    have := (hm.wi _ h2).2 i hi
    show figD (nQ (iS i)) = _
    rw [nQ_iS (by omega) (by omega)]; rfl
  have e : mkQ (mkLs m) = mkD m := by
    unfold mkQ mkD
    rw [e1, e2, e3]
  unfold dueQ
  rw [e, if_pos ⟨ok, isMk_ok hm⟩]
theorem mkT_words {m : Mk} (hm : MkOk m) : ∀ l ∈ mkLs m, l.length ≤ 8 ∧ ∀ w ∈ l, TxOk 15 w := by
  have fi : ∀ i : Int, 0 ≤ i → i ≤ 100 → TxOk 15 (iS i) := fun i h0 h => by
    rw [iS_n h0]
    exact (nS_tx (n := 3) (by omega) (by omega)).mono (by omega)
  have ta : TxOk 15 "amounts" := ⟨by rw [tl_len, tl_ams]; decide, fun c hc => by rw [tl_ams] at hc; revert c; decide⟩
  have tb : TxOk 15 "buyer" := ⟨by rw [tl_len, tl_buy]; decide, fun c hc => by rw [tl_buy] at hc; revert c; decide⟩
  intro l hl
  rcases List.mem_cons.mp hl with rfl | hl
  · refine ⟨by unfold amLn; simp; have := hm.g2; omega, fun w hw => ?_⟩
    rcases List.mem_cons.mp hw with rfl | hw
    · exact ta
    · obtain ⟨i, hi, rfl⟩ := List.mem_map.mp hw
      have := hm.am i hi
      exact fi i (by omega) (by omega)
  · obtain ⟨x, hx, rfl⟩ := List.mem_map.mp hl
    obtain ⟨h1, h2⟩ := List.of_mem_zip (a := x.1) (b := x.2) hx
    have hw2 := hm.wi _ h2
    refine ⟨by unfold buLn; simp; have := hm.g2; have := hw2.1; omega, fun w hw => ?_⟩
    rcases List.mem_cons.mp hw with rfl | hw
    · exact tb
    · rcases List.mem_cons.mp hw with rfl | hw
      · have hp := hm.ps _ h1
        have := num_pos hp.pos
        have := hp.num
        have := hp.den
        exact qS_tx (n := 7) (by omega) (by omega) (by omega)
      · obtain ⟨i, hi, rfl⟩ := List.mem_map.mp hw
        have := hw2.2 i hi
        exact fi i (by omega) (by omega)
theorem blJ_tx {m : Mk} (hm : MkOk m) : ∀ l ∈ mkLs m, TxOk 128 (blJ l) := fun l hl => by
  obtain ⟨h1, h2⟩ := mkT_words hm l hl
  refine join_tx tl_bl (by omega) (fun s hs => (h2 s hs).2) ?_
  have := wt_le l fun s hs => (h2 s hs).1
  have : l.length * 16 ≤ 8 * 16 := Nat.mul_le_mul_right _ h1
  omega
theorem mkLs_len {m : Mk} (hm : MkOk m) : (mkLs m).length ≤ 7 := by
  unfold mkLs
  simp
  have := hm.b2
  omega
theorem mkT_tx {m : Mk} (hm : MkOk m) : TxOk 903 (mkT m) := by
  have b := blJ_tx hm
  refine join_tx tl_nl (by omega) (fun s hs => ?_) ?_
  · obtain ⟨l, hl, rfl⟩ := List.mem_map.mp hs
    exact (b l hl).2
  · have := wt_le (n := 128) ((mkLs m).map blJ) fun s hs => by
      obtain ⟨l, hl, rfl⟩ := List.mem_map.mp hs
      exact (b l hl).1
    rw [List.length_map] at this
    have : (mkLs m).length * 129 ≤ 7 * 129 := Nat.mul_le_mul_right _ (mkLs_len hm)
    omega
theorem strs_map (ys : List Str) : D.strs? (ys.map D.str) = some ys := by
  induction ys with
  | nil => rfl
  | cons y ys ih => rw [List.map_cons]; unfold D.strs?; rw [ih]; rfl
theorem wt_join {y : Str} (h : y.length = 1) (l : List Str) : (l.map (·.length)).sum + l.length * y.length = wt l := by
  rw [h]
  unfold wt
  induction l with
  | nil => rfl
  | cons a l ih => simp only [List.map_cons, List.sum_cons, List.length_cons]; omega
theorem join_lot {y : Str} (h : y.length = 1) {l : List Str} (hw : wt l ≤ 16777216) {x : Vl} (hx : x.look.lot? = some (l.map D.str)) : joinV (dv (.str y)) x = some (dv (.str (Txt.join y l))) := by
  show (x.look.lot?.bind D.strs?).bind _ = _
  rw [hx]
  show (D.strs? (l.map D.str)).bind _ = _
  rw [strs_map]
  show (if _ then _ else _) = _
  rw [if_pos]
  rw [wt_join h]
  exact decide_eq_true hw
theorem join_own {y : Str} (h : y.length = 1) {l : List Str} (hw : wt l ≤ 16777216) : joinV (dv (.str y)) (.ow (.l (l.map fun s => Ow.d (.str s)))) = some (dv (.str (Txt.join y l))) :=
  join_lot h hw (by show some (Ow.toDs _) = _; rw [toDs_map' D.str])
theorem join_dat {y : Str} (h : y.length = 1) {l : List Str} (hw : wt l ≤ 16777216) : joinV (dv (.str y)) (dv (.lst (l.map D.str))) = some (dv (.str (Txt.join y l))) :=
  join_lot h hw rfl
theorem join_bw {y : Str} (h : y.length = 1) {l : List Str} (hw : wt l ≤ 16777216) : joinV (dv (.str y)) (.bw (.l (l.map fun s => Ow.d (.str s)))) = some (dv (.str (Txt.join y l))) :=
  join_lot h hw (by show some (Ow.toDs _) = _; rw [toDs_map' D.str])
theorem len_bl : (" " : Str).length = 1 := by rw [tl_len, tl_bl]; rfl
theorem len_nl : ("\n" : Str).length = 1 := by rw [tl_len, tl_nl]; rfl
end WMk

namespace WMk
open PySem L2 WM
theorem zip_pos {p : Rat} {r : List Int} {m : Mk} (hm : MkOk m) (h : (p, r) ∈ m.pu.zip m.wi) : 0 ≤ p ∧ Sz 20 p ∧ (∀ i ∈ r, 0 ≤ i ∧ i ≤ 100) ∧ r.length ≤ 6 := by
  obtain ⟨h1, h2⟩ := List.of_mem_zip h
  have hp := hm.ps _ h1
  have := num_pos hp.pos
  have := hp.num
  have := hp.den
  have hw := hm.wi _ h2
  exact ⟨Rat.le_of_lt hp.pos, ⟨by omega, by omega⟩, hw.2, by rw [hw.1]; exact hm.g2⟩
theorem line_wt {m : Mk} (hm : MkOk m) {l : List Str} (h : l ∈ mkLs m) : wt l ≤ 16777216 := by
  obtain ⟨h1, h2⟩ := mkT_words hm l h
  have := wt_le l fun s hs => (h2 s hs).1
  have : l.length * 16 ≤ 8 * 16 := Nat.mul_le_mul_right _ h1
  omega
theorem lines_wt {m : Mk} (hm : MkOk m) : wt ((mkLs m).map blJ) ≤ 16777216 := by
  have := wt_le (n := 128) ((mkLs m).map blJ) fun s hs => by
    obtain ⟨l, hl, rfl⟩ := List.mem_map.mp hs
    exact (blJ_tx hm l hl).1
  rw [List.length_map] at this
  have : (mkLs m).length * 129 ≤ 7 * 129 := Nat.mul_le_mul_right _ (mkLs_len hm)
  omega
theorem am_cat (m : Mk) (h : m.am.length ≤ 6) : binV .cat (.ow (.l [Ow.d (.str "amounts")])) (.ow (.l (m.am.map fun i => Ow.d (.str (iS i))))) = some (.ow (.l ((amLn m).map fun s => Ow.d (.str s)))) := by
  rw [x_catO (by simp; omega)]
  unfold amLn
  rw [List.map_cons, List.map_map]; rfl
theorem bu_cat (p : Rat) (r : List Int) (h : r.length ≤ 6) : binV .cat (.ow (.l [Ow.d (.str "buyer"), Ow.d (.str (qS p))])) (.ow (.l (r.map fun i => Ow.d (.str (iS i))))) = some (.ow (.l ((buLn p r).map fun s => Ow.d (.str s)))) := by
  rw [x_catO (by simp; omega)]
  unfold buLn
  rw [List.map_cons, List.map_cons, List.map_map]; rfl
theorem flat1 {α β : Type} (f : α → β) (xs : List α) : xs.flatMap (fun x => [f x]) = xs.map f := by
  induction xs with
  | nil => rfl
  | cons x xs ih => rw [List.flatMap_cons, List.map_cons, ih]; rfl
theorem zip_rangeT (m : Mk) (h : m.pu.length = m.wi.length) : (List.range m.pu.length).map (fun k => buLn (m.pu.getD k 0) (m.wi.getD k [])) = (m.pu.zip m.wi).map fun x => buLn x.1 x.2 := by
  apply List.ext_getElem
  · simp [h]
  · intro k h1 h2
    simp at h1 h2
    rw [List.getElem_map, List.getElem_map, List.getElem_range, List.getElem_zip]
    congr 1
    · rw [List.getD_eq_getElem?_getD, List.getElem?_eq_getElem h1]; rfl
    · rw [List.getD_eq_getElem?_getD, List.getElem?_eq_getElem (by omega)]; rfl
section
variable {fns : Nat → Option IFn} {gv : Nat → Option D}
theorem mtext_eq [HasF fns 416 f416] [HasF fns 421 f421] (d : Nat) {m : Mk} (hm : MkOk m) : cs fns gv (d + 2) 421 [.v (dv (mkD m))] = .ok (.d (.str (mkT m))) [] := by
  have g2 := hm.g2
  have em1 : (((m.am.map D.int).map dv).map Itm.one) = m.am.map fun i => Itm.one (dv (.int i)) := it_lst D.int m.am
  have im1 : ∀ M, itemsM M (dv (amD m)) = some ((m.am.map D.int).map dv) := fun M => x_imT
  have l1 := lc_map (M := Mof [4]) (t := .n 7) (body := lcBody false (ev (cs fns gv (d + 1)) gv (Mof [4]) (.c (.bl true))) (ev (cs fns gv (d + 1)) gv (Mof [4]) (.un .str (.v 7)))) (ρ := [.val (.d (mkD m)), .val (.d (amD m)), .val (.d (puD m)), .val (.d (wiD m)), .no, .no, .no, .no, .no]) (xs := m.am) (it := fun i => Itm.one (dv (.int i))) (fun i => Ow.d (.str (iS i))) (fun i hi => by
    have := hm.am i hi
    have e := iS_eq (i := i) (by omega)
    simp_arith [e]) (by omega)
  have c1 := am_cat m g2
  have jn := join_own len_bl (line_wt hm (l := amLn m) (by unfold mkLs; exact List.mem_cons_self))
  have ez : zipV (Mof [4]) (dv (puD m)) (dv (wiD m)) = some ((m.pu.zip m.wi).map fun x => Itm.many [dv (qD x.1), dv (rD x.2)]) := by
    unfold puD wiD; rw [x_zipT, zipI_map]
  have loop := for_app (t := .t [5, 6]) (body := exs (cs fns gv (d + 1)) gv b421_0) (it := fun x : Rat × List Int => Itm.many [dv (qD x.1), dv (rD x.2)]) (B := 100) (fun acc => [.val (.d (mkD m)), .val (.d (amD m)), .val (.d (puD m)), .val (.d (wiD m)), .val (.l (acc)), .no, .no, .no, .no]) (fun x => [Ow.d (.str (blJ (buLn x.1 x.2)))]) (m.pu.zip m.wi) [Ow.d (.str (blJ (amLn m)))] (fun acc x hx hl => by
    obtain ⟨p, r⟩ := x
    obtain ⟨p0, pz, hr, hrl⟩ := zip_pos hm hx
    have e := fracText_eq (fns := fns) (gv := gv) d p0 pz (by omega)
    have im : ∀ M, itemsM M (dv (rD r)) = some ((r.map D.int).map dv) := fun M => x_imT
    have em := it_lst D.int r
    have l := lc_map (M := Mof [4]) (t := .n 8) (body := lcBody false (ev (cs fns gv (d + 1)) gv (Mof [4]) (.c (.bl true))) (ev (cs fns gv (d + 1)) gv (Mof [4]) (.un .str (.v 8)))) (ρ := [.val (.d (mkD m)), .val (.d (amD m)), .val (.d (puD m)), .val (.d (wiD m)), .val (.l (acc)), .val (.d (qD p)), .val (.d (rD r)), .no, .no]) (xs := r) (it := fun i => Itm.one (dv (.int i))) (fun i => Ow.d (.str (iS i))) (fun i hi => by
      have := hr i hi
      have e := iS_eq (i := i) (by omega)
      simp_arith [e]) (by omega)
    have c := bu_cat p r hrl
    have j := join_own len_bl (line_wt hm (l := buLn p r) (by
      unfold mkLs
      exact List.mem_cons_of_mem _ (List.mem_map.mpr ⟨(p, r), hx, rfl⟩)))
    have sm : small acc.length = true := small_of (by simp at hl; omega)
    have jb : Txt.join " " (buLn p r) = blJ (buLn p r) := rfl
    rw [jb] at j
    refine ⟨_, rfl, ?_⟩
    simp_arith [b421_0, e, im, em, l, c, j, sm]) (by
      have := hm.b2
      have := hm.pl
      rw [flat1 (fun x : Rat × List Int => Ow.d (.str (blJ (buLn x.1 x.2)))), List.length_map, List.length_zip]
      show 1 + _ ≤ 100
      omega)
  have fl : [Ow.d (.str (blJ (amLn m)))] ++ (m.pu.zip m.wi).flatMap (fun x => [Ow.d (.str (blJ (buLn x.1 x.2)))]) = ((mkLs m).map blJ).map fun s => Ow.d (.str s) := by
    unfold mkLs
    rw [List.map_cons, List.map_cons, List.map_map, List.map_map]
    have : (m.pu.zip m.wi).flatMap (fun x => [Ow.d (.str (blJ (buLn x.1 x.2)))]) = (m.pu.zip m.wi).map fun x => Ow.d (.str (blJ (buLn x.1 x.2))) := by
      exact flat1 (fun x : Rat × List Int => Ow.d (.str (blJ (buLn x.1 x.2)))) _
    rw [this]; rfl
  rw [fl] at loop
  have j2 := join_bw len_nl (lines_wt hm)
  have mt : Txt.join "\n" ((mkLs m).map blJ) = mkT m := rfl
  have jb : Txt.join " " (amLn m) = blJ (amLn m) := rfl
  rw [mt] at j2
  rw [jb] at jn
  have up : mkD m = .tup [amD m, puD m, wiD m] := rfl
  have s1 : small 1 = true := rfl
  rw [r421]
  rw [up] at loop l1 ⊢
  simp_arith [f421, im1, em1, l1, c1, jn, s1, ez, loop, j2]
theorem ltextf_eq [HasF fns 419 f419] (d : Nat) {r : Rat} (r0 : 0 ≤ r) (zr : Sz 20 r) : cs fns gv (d + 1) 419 [.v (dv (qD r))] = .ok (.d (.str (qS r))) [] := by
  have hnn : 0 ≤ r.num := Rat.num_nonneg.mpr r0
  have en : ((r.num.toNat : Nat) : Int) = r.num := Int.toNat_of_nonneg hnn
  have n1 := zr.num
  have n2 := zr.den
  have s1 : unV .str (dv (.int r.num)) = some (dv (.str (nS r.num.toNat))) := by
    have := iS_eq (i := r.num) (by omega)
    rw [iS_n hnn] at this
    exact this
  have s2 : unV .str (dv (.int (r.den : Int))) = some (dv (.str (nS r.den))) := iS_eq (i := (r.den : Int)) (by omega)
  have i0 := qd_ix0 r
  have i1 := qd_ix1 r
  have t1 : TxOk 34 (nS r.num.toNat) := nS_tx (by omega) (by omega)
  have t2 : TxOk 34 (nS r.den) := nS_tx (by omega) (by omega)
  have c1 : binV .scat (dv (.str "/")) (dv (.str (nS r.den))) = some (dv (.str ("/" ++ nS r.den))) := x_scat (small_of (by have := tx_sl.1; have := t2.1; omega))
  have t3 := app_tx tx_sl t2
  have sm3 := small_of (n := ("/" ++ nS r.den).length) (by have := t3.1; omega)
  obtain ⟨w, c2, hw⟩ : ∃ w : Str, binV .srep (dv (.str ("/" ++ nS r.den))) (dv (.int (if (!((r.den : Int) == 1)) = true then 1 else 0))) = some (dv (.str w)) ∧ (TxOk 35 w ∧ nS r.num.toNat ++ w = qS r) := by
    by_cases hd : r.den = 1
    · have h1 : ((r.den : Int) == 1) = true := by rw [hd]; rfl
      rw [h1]
      refine ⟨Str.empty, x_srep0 sm3, ⟨Nat.zero_le _, fun c hc => ?_⟩, ?_⟩
      · exact absurd hc (by simp [TL.tl, Str.empty])
      · rw [show qS r = nS r.num.toNat from if_pos hd]
        exact str_ext (by rw [TL.tl_append, show TL.tl Str.empty = [] from rfl, List.append_nil])
    · have h1 : ((r.den : Int) == 1) = false := by simp; omega
      rw [h1]
      refine ⟨_, x_srep1 sm3, t3, ?_⟩
      rw [show qS r = nS r.num.toNat ++ "/" ++ nS r.den from if_neg hd]
      exact str_ext (by rw [TL.tl_append, TL.tl_append, TL.tl_append, TL.tl_append, List.append_assoc])
  have c3 : binV .scat (dv (.str (nS r.num.toNat))) (dv (.str w)) = some (dv (.str (qS r))) := by
    rw [x_scat (small_of (by have := t1.1; have := hw.1.1; omega)), hw.2]
  rw [r419]
  simp_arith [f419, i0, i1, s1, s2, c1, c2, c3]
theorem ltext_eq [HasF fns 419 f419] [HasF fns 434 f434] (d : Nat) {m : Mk} (hm : MkOk m) : cs fns gv (d + 2) 434 [.v (dv (mkD m))] = .ok (.d (.str (mkT m))) [] := by
  have g2 := hm.g2
  have b2 := hm.b2
  have pl := hm.pl
  have k0 := mk_ix0 m
  have k1 := mk_ix1 m
  have k2 := mk_ix2 m
  have pn := pu_len m
  have em1 : (((m.am.map D.int).map dv).map Itm.one) = m.am.map fun i => Itm.one (dv (.int i)) := it_lst D.int m.am
  have im1 : ∀ M, itemsM M (dv (amD m)) = some ((m.am.map D.int).map dv) := fun M => x_imT
  have l1 := lc_map (M := Mof [1]) (t := .n 4) (body := lcBody false (ev (cs fns gv (d + 1)) gv (Mof [1]) (.c (.bl true))) (ev (cs fns gv (d + 1)) gv (Mof [1]) (.un .str (.v 4)))) (ρ := [.val (.d (mkD m)), .no, .no, .no, .no, .no]) (xs := m.am) (it := fun i => Itm.one (dv (.int i))) (fun i => Ow.d (.str (iS i))) (fun i hi => by
    have := hm.am i hi
    have e := iS_eq (i := i) (by omega)
    simp_arith [e]) (by omega)
  have c1 := am_cat m g2
  have jn := join_own len_bl (line_wt hm (l := amLn m) (by unfold mkLs; exact List.mem_cons_self))
  have loop := for_app (t := .n 2) (body := exs (cs fns gv (d + 1)) gv b434_0) (it := fun k : Nat => Itm.one (dv (.int (k : Int)))) (B := 100) (fun acc => [.val (.d (mkD m)), .val (.l (acc)), .no, .no, .no, .no]) (fun k => [Ow.d (.str (blJ (buLn (m.pu.getD k 0) (m.wi.getD k []))))]) (List.range m.pu.length) [Ow.d (.str (blJ (amLn m)))] (fun acc k hk hl => by
    have hk := List.mem_range.mp hk
    have hz : (m.pu.getD k 0, m.wi.getD k []) ∈ m.pu.zip m.wi := by
      rw [List.getD_eq_getElem?_getD, List.getD_eq_getElem?_getD, List.getElem?_eq_getElem hk, List.getElem?_eq_getElem (by omega : k < m.wi.length)]
      show (m.pu[k], m.wi[k]) ∈ _
      rw [← List.getElem_zip (h := by simp; omega)]
      exact List.getElem_mem _
    obtain ⟨p0, pz, hr, hrl⟩ := zip_pos hm hz
    have x1 := pu_ix m hk
    have x2 := wi_ix m (g := k) (by omega)
    have hin : buLn (m.pu.getD k 0) (m.wi.getD k []) ∈ mkLs m := by
      unfold mkLs
      exact List.mem_cons_of_mem _ (List.mem_map.mpr ⟨_, hz, rfl⟩)
    generalize m.pu.getD k 0 = p at *
    generalize m.wi.getD k [] = r at *
    have e := ltextf_eq (fns := fns) (gv := gv) d p0 pz
    have im : ∀ M, itemsM M (dv (rD r)) = some ((r.map D.int).map dv) := fun M => x_imT
    have em := it_lst D.int r
    have l := lc_map (M := Mof [1]) (t := .n 5) (body := lcBody false (ev (cs fns gv (d + 1)) gv (Mof [1]) (.c (.bl true))) (ev (cs fns gv (d + 1)) gv (Mof [1]) (.un .str (.v 5)))) (ρ := [.val (.d (mkD m)), .val (.l (acc)), .val (.d (.int ((k : Nat) : Int))), .no, .no, .no]) (xs := r) (it := fun i => Itm.one (dv (.int i))) (fun i => Ow.d (.str (iS i))) (fun i hi => by
      have := hr i hi
      have e := iS_eq (i := i) (by omega)
      simp_arith [e]) (by omega)
    have c := bu_cat p r hrl
    have j := join_dat len_bl (line_wt hm hin)
    have td := toDs_map' D.str (buLn p r)
    have sm : small acc.length = true := small_of (by simp at hl; omega)
    have jb : Txt.join " " (buLn p r) = blJ (buLn p r) := rfl
    rw [jb] at j
    refine ⟨_, rfl, ?_⟩
    simp_arith [b434_0, k1, k2, x1, x2, e, im, em, l, c, td, j, sm]) (by
      rw [flat1 (fun k : Nat => Ow.d (.str (blJ (buLn (m.pu.getD k 0) (m.wi.getD k []))))), List.length_map, List.length_range]
      show 1 + _ ≤ 100
      omega)
  have fl : [Ow.d (.str (blJ (amLn m)))] ++ (List.range m.pu.length).flatMap (fun k => [Ow.d (.str (blJ (buLn (m.pu.getD k 0) (m.wi.getD k []))))]) = ((mkLs m).map blJ).map fun s => Ow.d (.str s) := by
    unfold mkLs
    rw [← zip_rangeT m pl]
    rw [List.map_cons, List.map_cons, List.map_map, List.map_map]
    have : (List.range m.pu.length).flatMap (fun k => [Ow.d (.str (blJ (buLn (m.pu.getD k 0) (m.wi.getD k []))))]) = (List.range m.pu.length).map fun k => Ow.d (.str (blJ (buLn (m.pu.getD k 0) (m.wi.getD k [])))) := by
      exact flat1 (fun k : Nat => Ow.d (.str (blJ (buLn (m.pu.getD k 0) (m.wi.getD k []))))) _
    rw [this]; rfl
  rw [fl] at loop
  have j2 := join_bw len_nl (lines_wt hm)
  have mt : Txt.join "\n" ((mkLs m).map blJ) = mkT m := rfl
  have jb : Txt.join " " (amLn m) = blJ (amLn m) := rfl
  rw [mt] at j2
  rw [jb] at jn
  have sn : inSmall (m.pu.length : Int) = true := inSmall_nat (by omega)
  have s1 : small 1 = true := rfl
  have rg : rngI 0 ((m.pu.length : Int)).toNat = (List.range m.pu.length).map fun (k : Nat) => Itm.one (dv (.int (k : Int))) := by rw [Int.toNat_natCast, rngI0]
  rw [r434]
  simp_arith [f434, rg, k0, k1, im1, em1, l1, c1, jn, s1, pn, sn, loop, j2]
end
end WMk

namespace WMk
open PySem L2 WM
def WtOk (n : Nat) (l : List Str) : Prop := wt l ≤ n ∧ ∀ s ∈ l, ∀ c ∈ TL.tl s, c < 128
theorem wt_app (a b : List Str) : wt (a ++ b) = wt a + wt b := by unfold wt; rw [List.map_append, List.sum_append]
theorem wt_take (n : Nat) (l : List Str) : wt (l.take n) ≤ wt l := by
  have := wt_app (l.take n) (l.drop n)
  rw [List.take_append_drop] at this
  omega
theorem wt_drop (n : Nat) (l : List Str) : wt (l.drop n) ≤ wt l := by
  have := wt_app (l.take n) (l.drop n)
  rw [List.take_append_drop] at this
  omega
theorem wt_rev (l : List Str) : wt l.reverse = wt l := by
  unfold wt
  rw [List.map_reverse, List.sum_reverse]
theorem wt_len (l : List Str) : l.length ≤ wt l := by
  unfold wt
  induction l with
  | nil => exact Nat.zero_le _
  | cons s l ih => rw [List.map_cons, List.sum_cons, List.length_cons]; omega
theorem cut_wt {n : Nat} {l : List Str} (h : WtOk n l) (lo hi : Option Int) : WtOk n (cutD l lo hi) := by
  unfold cutD
  refine ⟨Nat.le_trans (wt_take _ _) (Nat.le_trans (wt_drop _ _) h.1), fun s hs => h.2 s (List.mem_of_mem_drop (List.mem_of_mem_take hs))⟩
theorem rev_wt {n : Nat} {l : List Str} (h : WtOk n l) : WtOk n l.reverse := ⟨by rw [wt_rev]; exact h.1, fun s hs => h.2 s (List.mem_reverse.mp hs)⟩
theorem app_wt {n m : Nat} {a b : List Str} (h : WtOk n a) (k : WtOk m b) : WtOk (n + m) (a ++ b) := ⟨by rw [wt_app]; have := h.1; have := k.1; omega, fun s hs => by
  rcases List.mem_append.mp hs with hs | hs
  · exact h.2 s hs
  · exact k.2 s hs⟩
theorem WtOk.mono {n m : Nat} {l : List Str} (h : WtOk n l) (k : n ≤ m) : WtOk m l := ⟨by have := h.1; omega, h.2⟩
theorem cut_map (l : List Str) (lo hi : Option Int) : cutD (l.map D.str) lo hi = (cutD l lo hi).map D.str := by
  unfold cutD
  rw [List.length_map, List.map_take, List.map_drop]
theorem split_wt {n : Nat} {z y : Str} {s : Nat} (hz : TxOk n z) (hy : TL.tl y = [s]) (hs : s < 128) : WtOk (n + 1) (Txt.split z y) := by
  have e := split_tl z hy hs
  have key : ∀ (l acc : List Nat), ((TL.spl [s] 0 acc l).map fun p => p.length + 1).sum = acc.length + l.length + 1 := by
    intro l
    induction l with
    | nil => intro acc; rw [TL.spl.eq_1]; simp
    | cons c r ih =>
      intro acc
      rw [TL.spl.eq_2]
      split
      · have := ih []
        rw [List.map_cons, List.sum_cons]
        show acc.length + 1 + ((TL.spl [s] 0 [] r).map _).sum = _
        rw [this]; simp; omega
      · rw [ih]; simp; omega
  refine ⟨?_, fun p hp => ((split_ok hz hy hs).2 p hp).1.2⟩
  have h2 : wt (Txt.split z y) = (((Txt.split z y).map TL.tl).map fun p => p.length + 1).sum := by
    unfold wt
    rw [List.map_map]
    rfl
  rw [h2, e, key]
  have := hz.1
  rw [tl_len] at this
  show 0 + (TL.tl z).length + 1 ≤ n + 1
  omega
theorem one_wt {n : Nat} {w : Str} (h : TxOk n w) : WtOk (n + 1) [w] := ⟨by unfold wt; simp; exact h.1, fun s hs => by rw [List.mem_singleton.mp hs]; exact h.2⟩
theorem ix_last {γ : Type} (f : γ → D) (l : List γ) (u : γ) : ixV (dv (.lst ((l ++ [u]).map f))) (-1) = some (dv (f u)) := by
  show (atI ((l ++ [u]).map f) (-1)).map dv = _
  have e : ixN ((l ++ [u]).map f).length (-1) = some l.length := by
    unfold ixN
    simp
    omega
  unfold atI
  rw [e]
  show (((l ++ [u]).map f)[l.length]?).map dv = _
  rw [List.map_append, List.getElem?_append_right (by simp)]
  simp
section
variable {fns : Nat → Option IFn} {gv : Nat → Option D}
theorem moved33_eq [HasF fns 2 f2] [HasF fns 441 f441] (d : Nat) (x : Bg) {n k : Nat} {ss : List Str} {w : Str} (hz : WtOk n ss) (hw : WtOk k [w]) (hn : n ≤ 20000) (hk : k ≤ 20000) :
    ∃ v x', WtOk (3 * n + k) v ∧ cs fns gv (d + 2) 441 [.r (bagL x), .v (dv (.lst (ss.map D.str))), .v (.ow (.l [.d (.str w)]))] = .ok (.l ((List.map D.str (v)).map Ow.d)) [bagL x'] := by
  have T := fun (y : Bg) (m : Int) (hm : tkM m = true) => take_eq (fns := fns) (gv := gv) d y m hm
  have hl := Nat.le_trans (wt_len ss) hz.1
  have len : unV .len (dv (.lst (ss.map D.str))) = some (dv (.int (ss.length : Int))) := len_lst D.str ss
  have lm : (ss.map D.str).length = ss.length := List.length_map _
  have tz : tkM ((ss.length : Int) + 1) = true := by unfold tkM; simp; omega
  have t5 : tkM 5 = true := rfl
  have cm := fun lo hi => cut_map ss lo hi
  have r := (x.nx ((ss.length : Int) + 1)).tk_rng t5
  have ll : ∀ {m : Nat} {a : List Str}, WtOk m a → a.length ≤ m := fun h => Nat.le_trans (wt_len _) h.1
  have cat : ∀ a b : List Str, a.length + b.length ≤ 100000 → binV .cat (.ow (.l ((List.map D.str (a)).map Ow.d))) (.ow (.l ((List.map D.str (b)).map Ow.d))) = some (.ow (.l ((List.map D.str (a ++ b)).map Ow.d))) := fun a b h => by
    rw [x_catO (by rw [List.length_map, List.length_map, List.length_map, List.length_map]; exact h), List.map_append, List.map_append]
  have cat2 : ∀ a : List Str, a.length + 1 ≤ 100000 → binV .cat (.ow (.l ((List.map D.str (a)).map Ow.d))) (dv (.lst [.str w])) = some (.ow (.l ((List.map D.str (a ++ [w])).map Ow.d))) := fun a h => by
    show (if _ then _ else _) = _
    rw [if_pos (small_of (by rw [List.length_map, List.length_map]; exact h)), List.map_append, List.map_append]; rfl
  have c0 := fun lo hi => cut_wt hz lo hi
  have wf : Ow.toDs [Ow.d (.str w)] = [.str w] := rfl
  rw [r441]
  obtain ⟨at_, hat⟩ : ∃ a, x.tk ((ss.length : Int) + 1) = a := ⟨_, rfl⟩
  have cases5 : (x.nx ((ss.length : Int) + 1)).tk 5 = 0 ∨ (x.nx ((ss.length : Int) + 1)).tk 5 = 1 ∨ (x.nx ((ss.length : Int) + 1)).tk 5 = 2 ∨ (x.nx ((ss.length : Int) + 1)).tk 5 = 3 ∨ (x.nx ((ss.length : Int) + 1)).tk 5 = 4 := by omega
  obtain ⟨x2, hx2⟩ : ∃ y, (x.nx ((ss.length : Int) + 1)).nx 5 = y := ⟨_, rfl⟩
  rcases cases5 with q | q | q | q | q
  · refine ⟨cutD ss none (some at_) ++ cutD ss (some (at_ + 1)) none, x2, (app_wt (c0 _ _) (c0 _ _)).mono (by omega), ?_⟩
    have k := cat _ _ (Nat.le_trans (Nat.add_le_add (ll (c0 none (some at_))) (ll (c0 (some (at_ + 1)) none))) (by omega))
    unfold bagL at *
    simp_arith [f441, T, lm, len, tz, t5, hat, q, cm, k, hx2, wf, c441_0, c441_1, c441_2, c441_3]
  · refine ⟨cutD ss none (some (at_ + 1)) ++ cutD ss (some at_) none, x2, (app_wt (c0 _ _) (c0 _ _)).mono (by omega), ?_⟩
    have k := cat _ _ (Nat.le_trans (Nat.add_le_add (ll (c0 none (some (at_ + 1)))) (ll (c0 (some at_) none))) (by omega))
    unfold bagL at *
    simp_arith [f441, T, lm, len, tz, t5, hat, q, cm, k, hx2, wf, c441_0, c441_1, c441_2, c441_3]
  · have h1 := app_wt (c0 none (some at_)) hw
    refine ⟨cutD ss none (some at_) ++ [w] ++ cutD ss (some at_) none, x2, (app_wt h1 (c0 _ _)).mono (by omega), ?_⟩
    have k := cat2 _ (Nat.le_trans (Nat.add_le_add_right (ll (c0 none (some at_))) 1) (by omega))
    have k2 := cat _ _ (Nat.le_trans (Nat.add_le_add (ll h1) (ll (c0 (some at_) none))) (by omega))
    unfold bagL at *
    simp_arith [f441, T, lm, len, tz, t5, hat, q, cm, k, k2, hx2, wf, c441_0, c441_1, c441_2, c441_3]
  · have h1 := app_wt (c0 none (some at_)) (rev_wt (c0 (some at_) (some (at_ + 2))))
    refine ⟨cutD ss none (some at_) ++ (cutD ss (some at_) (some (at_ + 2))).reverse ++ cutD ss (some (at_ + 2)) none, x2, (app_wt h1 (c0 _ _)).mono (by omega), ?_⟩
    have k := cat _ _ (Nat.le_trans (Nat.add_le_add (ll (c0 none (some at_))) (ll (rev_wt (c0 (some at_) (some (at_ + 2)))))) (by omega))
    have k2 := cat _ _ (Nat.le_trans (Nat.add_le_add (ll h1) (ll (c0 (some (at_ + 2)) none))) (by omega))
    have rv : ((cutD ss (some at_) (some (at_ + 2))).map D.str).reverse = (cutD ss (some at_) (some (at_ + 2))).reverse.map D.str := List.map_reverse.symm
    unfold bagL at *
    simp_arith [f441, T, lm, len, tz, t5, hat, q, cm, rv, k, k2, hx2, wf, c441_0, c441_1, c441_2, c441_3]
  · have h1 := app_wt (c0 none (some at_)) hw
    refine ⟨cutD ss none (some at_) ++ [w] ++ cutD ss (some (at_ + 1)) none, x2, (app_wt h1 (c0 _ _)).mono (by omega), ?_⟩
    have k := cat2 _ (Nat.le_trans (Nat.add_le_add_right (ll (c0 none (some at_))) 1) (by omega))
    have k2 := cat _ _ (Nat.le_trans (Nat.add_le_add (ll h1) (ll (c0 (some (at_ + 1)) none))) (by omega))
    unfold bagL at *
    simp_arith [f441, T, lm, len, tz, t5, hat, q, cm, k, k2, hx2, wf, c441_0, c441_1, c441_2, c441_3]
theorem tx_c {n : Nat} {z : Str} (h : (decide (z.length ≤ n) && (TL.tl z).all fun c => decide (c < 128)) = true) : TxOk n z := by
  simp only [Bool.and_eq_true, decide_eq_true_eq, List.all_eq_true] at h
  exact h
theorem join_W {y : Str} (h : y.length = 1) {l : List Str} (hw : wt l ≤ 16777216) : joinV (dv (.str y)) (.ow (.l ((List.map D.str (l)).map Ow.d))) = some (dv (.str (Txt.join y l))) :=
  join_lot h hw (by show some (Ow.toDs _) = _; rw [toDs_map])
theorem spoilt33_eq [HasF fns 2 f2] [HasF fns 427 f427] [HasF fns 441 f441] [HasF fns 442 f442] (d : Nat) (x : Bg) {n : Nat} {z : Str} (hz : TxOk n z) (hn : n ≤ 6000) :
    ∃ v x', TxOk (4 * n + 13) v ∧ cs fns gv (d + 3) 442 [.r (bagL x), .v (dv (.str z))] = .ok (.d (.str v)) [bagL x'] := by
  have T := fun (y : Bg) (m : Int) (hm : tkM m = true) => take_eq (fns := fns) (gv := gv) (d + 1) y m hm
  have t95 : tkM 95 = true := rfl
  have t4 : tkM 4 = true := rfl
  have t3 : tkM 3 = true := rfl
  have t12 : tkM 12 = true := rfl
  have cat : binV .scat (dv (.str signsA)) (dv (.str signsB)) = some (dv (.str (signsA ++ signsB))) := x_scat (small_of (by rw [signs_lenA, signs_lenB]; omega))
  have len := len_str (z := signsA ++ signsB) (by rw [signs_len]; omega)
  rw [signs_len] at len
  have n95 : ((95 : Nat) : Int) = 95 := rfl
  rw [n95] at len
  have sa : (" !\"#$&'()*+,-./0123456789:;<=>?@ABCDEFGHIJKLMNOPQRSTUVWXYZ[\\]^_`" : Str) = signsA := rfl
  have sb : ("abcdefghijklmnopqrstuvwxyz{|}~\n" : Str) = signsB := rfl
  have r := x.tk_rng t3
  have cases3 : x.tk 3 = 0 ∨ x.tk 3 = 1 ∨ x.tk 3 = 2 := by omega
  obtain ⟨y, hy⟩ : ∃ y, x.nx 3 = y := ⟨_, rfl⟩
  rw [r442]
  rcases cases3 with q | q | q
  · obtain ⟨c, hc, ea⟩ := sign_at y
    obtain ⟨o, e4, hm⟩ := pick (xs := [Ow.d (.str ⟨#[c]⟩), Ow.d (.str " "), Ow.d (.str "\n"), Ow.d (.str "0")]) (y := y.nx 95) t4 (by simp)
    obtain ⟨w, rfl, hw⟩ : ∃ w : Str, o = Ow.d (.str w) ∧ TxOk 1 w := by
      simp only [List.mem_cons, List.not_mem_nil, or_false] at hm
      rcases hm with rfl | rfl | rfl | rfl
      · exact ⟨_, rfl, tx_one hc⟩
      · exact ⟨_, rfl, tx_c (by decide +kernel)⟩
      · exact ⟨_, rfl, tx_c (by decide +kernel)⟩
      · exact ⟨_, rfl, tx_0⟩
    obtain ⟨v, x', hv, em⟩ := moved32_eq (fns := fns) (gv := gv) d ((y.nx 95).nx 4) hz hw (by omega)
    refine ⟨v, x', hv.mono (by omega), ?_⟩
    unfold bagL at *
    simp_arith [f442, sa, sb, cat, len, T, t3, q, hy, t95, t4, ea, e4, em, c442_0, c442_1]
  · obtain ⟨o, e4, hm⟩ := pick (xs := [D.str "", D.str "0", D.str "1", D.str "61", D.str "101", D.str "1/2", D.str "2/4", D.str "amounts", D.str "buyer", D.str "1000001", D.str "1/1000001", D.str "\nbuyer"]) (y := y) t12 (by simp)
    obtain ⟨w, rfl, hw⟩ : ∃ w : Str, o = D.str w ∧ TxOk 9 w := by
      simp only [List.mem_cons, List.not_mem_nil, or_false] at hm
      rcases hm with rfl | rfl | rfl | rfl | rfl | rfl | rfl | rfl | rfl | rfl | rfl | rfl <;> exact ⟨_, rfl, tx_c (by decide +kernel)⟩
    have sp := split_v hz (by omega) tl_bl
    have td := toDs_map' D.str (Txt.split z " ")
    obtain ⟨v, x', hv, em⟩ := moved33_eq (fns := fns) (gv := gv) d (y.nx 12) (split_wt hz tl_bl (by omega)) (one_wt hw) (by omega) (by omega)
    have j := join_W len_bl (l := v) (by have := hv.1; omega)
    refine ⟨Txt.join " " v, x', join_tx tl_bl (by omega) hv.2 (Nat.le_trans hv.1 (by omega)), ?_⟩
    have s12 : small 12 = true := rfl
    have s1 : small 1 = true := rfl
    unfold bagL at *
    simp_arith [f442, sa, sb, cat, T, t3, q, hy, t12, sp, td, e4, em, j, s12, s1, c442_0, c442_1]
  · have sp := split_v hz (by omega) tl_nl
    have td := toDs_map' D.str (Txt.split z "\n")
    obtain ⟨ne, po⟩ := split_ok hz tl_nl (by omega)
    obtain ⟨ll, hll, el⟩ : ∃ ll, TxOk n ll ∧ ixV (dv (.lst ((Txt.split z "\n").map D.str))) (-1) = some (dv (.str ll)) := by
      obtain ⟨ini, ll, e⟩ : ∃ ini ll, Txt.split z "\n" = ini ++ [ll] := ⟨_, _, (List.dropLast_concat_getLast ne).symm⟩
      refine ⟨ll, (po ll (by rw [e]; simp)).1, ?_⟩
      rw [e]
      exact ix_last D.str ini ll
    obtain ⟨o, e4, hm⟩ := pick (xs := [Ow.d (.str ""), Ow.d (.str "buyer 1"), Ow.d (.str "amounts 1"), Ow.d (.str ll)]) (y := y) t4 (by simp)
    obtain ⟨w, rfl, hw⟩ : ∃ w : Str, o = Ow.d (.str w) ∧ TxOk (n + 9) w := by
      simp only [List.mem_cons, List.not_mem_nil, or_false] at hm
      rcases hm with rfl | rfl | rfl | rfl
      · exact ⟨_, rfl, (tx_c (n := 9) (by decide +kernel)).mono (by omega)⟩
      · exact ⟨_, rfl, (tx_c (n := 9) (by decide +kernel)).mono (by omega)⟩
      · exact ⟨_, rfl, (tx_c (n := 9) (by decide +kernel)).mono (by omega)⟩
      · exact ⟨_, rfl, hll.mono (by omega)⟩
    obtain ⟨v, x', hv, em⟩ := moved33_eq (fns := fns) (gv := gv) d (y.nx 4) (split_wt hz tl_nl (by omega)) (one_wt hw) (by omega) (by omega)
    have j := join_W len_nl (l := v) (by have := hv.1; omega)
    refine ⟨Txt.join "\n" v, x', join_tx tl_nl (by omega) hv.2 (Nat.le_trans hv.1 (by omega)), ?_⟩
    have s1 : small 1 = true := rfl
    unfold bagL at *
    simp_arith [f442, sa, sb, cat, T, t3, q, hy, t4, sp, td, el, e4, em, j, s1, c442_0, c442_1]
end
end WMk

namespace WMk
open PySem L2 WM
def readQ : Option D → Ow
  | some x => .l [.d (.str ""), .d x]
  | none => .l [.d (.str "NoText+"), .d .non]
theorem pl_figD (o : Option Int) (n : Nat) : plD n (figD o) = true := by cases o <;> cases n <;> rfl
theorem pl_mkQ (ls : List (List Str)) : plD 3 (mkQ ls) = true := by
  have h1 : plD 2 (amQ ls) = true := (plDs_all 1 _).mpr fun x hx => by
    obtain ⟨w, _, rfl⟩ := List.mem_map.mp hx
    exact pl_figD _ 1
  have h2 : plD 2 (puQ ls) = true := (plDs_all 1 _).mpr fun x hx => by
    obtain ⟨w, _, rfl⟩ := List.mem_map.mp hx
    rcases fQ (w.getD 1 "") with _ | ⟨a, b⟩ <;> rfl
  have h3 : plD 2 (wiQ ls) = true := (plDs_all 1 _).mpr fun x hx => by
    obtain ⟨l, _, rfl⟩ := List.mem_map.mp hx
    exact (plDs_all 0 _).mpr fun x hx => by
      obtain ⟨w, _, rfl⟩ := List.mem_map.mp hx
      exact pl_figD _ 0
  exact (plDs_all 2 _).mpr fun x hx => by
    simp only [List.mem_cons, List.not_mem_nil, or_false] at hx
    rcases hx with rfl | rfl | rfl
    · exact h1
    · exact h2
    · exact h3
theorem ne_readQ (ls : List (List Str)) : binV .ne (.ow (readQ (dueQ ls))) (.ow (readQ (dueQ ls))) = some (dv (.bl false)) := by
  unfold dueQ
  split
  · show binV .ne (.ow (.l [.d (.str ""), .d (mkQ ls)])) (.ow (.l [.d (.str ""), .d (mkQ ls)])) = _
    rw [ne_kp (n := 3) (m := 3) good_e good_e (pl_mkQ ls) (pl_mkQ ls) (by omega) (by omega), eqv_refl 3 _ (pl_mkQ ls)]
    simp
  · exact ne_read none
section
variable {fns : Nat → Option IFn} {gv : Nat → Option D}
theorem lread33_eq [HasF fns 0 f0] [HasF fns 12 f12] [HasF fns 13 f13] [HasF fns 163 f163] [HasF fns 164 f164] [HasF fns 165 f165] [HasF fns 166 f166] [HasF fns 167 f167] [HasF fns 168 f168] [HasF fns 424 f424] [HasF fns 425 f425] [HasF fns 433 f433] [HasF fns 437 f437] (hg : GvM gv) (hf : gv 7 = some (.str "0123456789")) (h8 : gv 8 = some (.int 9)) (d : Nat) {N : Nat} {z : Str} (h : TxOk N z) (h3 : 3 ≤ N) (hN : N ≤ 90000) :
    cs fns gv (d + 7) 437 [.v (dv (.str z))] = .ok (readQ (dueQ (linesS z))) [] := by
  have e := readm_eq (fns := fns) (gv := gv) hg hf h8 d h h3 hN
  have dr : ∀ ρ : WM.Env, dropArs ρ [] = ρ := fun _ => rfl
  rw [r437]
  cases hq : dueQ (linesS z) with
  | none =>
    rw [hq] at e
    simp_arith [f437, e, dr, readQ]
  | some p =>
    rw [hq] at e
    simp_arith [f437, e, dr, readQ]
theorem lread33_no [HasF fns 0 f0] [HasF fns 12 f12] [HasF fns 13 f13] [HasF fns 163 f163] [HasF fns 164 f164] [HasF fns 165 f165] [HasF fns 166 f166] [HasF fns 167 f167] [HasF fns 168 f168] [HasF fns 424 f424] [HasF fns 425 f425] [HasF fns 433 f433] [HasF fns 437 f437] (d : Nat) {x : D} (h : isaV .str x = false) : cs fns gv (d + 7) 437 [.v (dv x)] = .ok (readQ none) [] := by
  have e := readm_no (fns := fns) (gv := gv) (d + 5) h
  have dr : ∀ ρ : WM.Env, dropArs ρ [] = ρ := fun _ => rfl
  rw [r437]
  simp_arith [f437, e, dr, readQ]
theorem turn33 [HasF fns 0 f0] [HasF fns 1 f1] [HasF fns 2 f2] [HasF fns 3 f3] [HasF fns 12 f12] [HasF fns 13 f13] [HasF fns 28 f28] [HasF fns 29 f29] [HasF fns 34 f34] [HasF fns 163 f163] [HasF fns 164 f164] [HasF fns 165 f165] [HasF fns 166 f166] [HasF fns 167 f167] [HasF fns 168 f168] [HasF fns 416 f416] [HasF fns 419 f419] [HasF fns 421 f421] [HasF fns 424 f424] [HasF fns 425 f425] [HasF fns 427 f427] [HasF fns 433 f433] [HasF fns 434 f434] [HasF fns 437 f437] [HasF fns 441 f441] [HasF fns 442 f442] [HasF fns 445 f445] [HasF fns 446 f446] [HasF fns 447 f447] [HasF fns 448 f448] (hg : GvM gv) (hf : gv 7 = some (.str "0123456789")) (h8 : gv 8 = some (.int 9)) (d : Nat) (ns : List Int) (hns : ns.length ≤ 63) (k : Nat) (hk : k ≤ 100) :
    exs (cs fns gv (d + 7)) gv b448_2 [.val (.d (.scr ns)), .val (.d (.int (k : Int))), .no, .no, .no, .no, .no, .no] = .nx [.val (.d (.scr ns)), .no, .no, .no, .no, .no, .no, .no] := by
  obtain ⟨x0, e0⟩ := bag_ok (fns := fns) (gv := gv) (d + 6) ns (by omega) k (by omega)
  obtain ⟨m, x1, hm, e1⟩ := market_ok (fns := fns) (gv := gv) (d + 4) x0
  have e2 := ltext_eq (fns := fns) (gv := gv) (d + 5) hm
  have e3 := mtext_eq (fns := fns) (gv := gv) (d + 5) hm
  have tq := mkT_tx hm
  have e5 := lread33_eq (fns := fns) (gv := gv) hg hf h8 d tq (by omega) (by omega)
  have k2 := ne_readQ (linesS (mkT m))
  rw [mkT_due hm] at e5 k2
  have k1 := tx_ne tq.good tq.good
  rw [decide_eq_true rfl] at k1
  obtain ⟨st, hst, loop⟩ := for_rngE (S := Str × Bg) (t := .n 5) (body := exs (cs fns gv (d + 7)) gv b448_0) (it := fun (j : Nat) => Itm.one (dv (.int (j : Int)))) (fun s => [.val (.d (.scr ns)), .val (.d (.int (k : Int))), .val (bagL (s.2)), .val (.d (mkD m)), .val (.d (.str (s.1))), .no, .no, .no]) (fun j s => TxOk (if j = 0 then 903 else if j = 1 then 3625 else 14513) s.1) 2 (mkT m, x1) tq (fun j s hj hi => by
    obtain ⟨z, y⟩ := s
    have hz : TxOk (if j = 0 then 903 else if j = 1 then 3625 else 14513) z := hi
    obtain ⟨v, y', hv, es⟩ := spoilt33_eq (fns := fns) (gv := gv) (d + 4) y hz (by
      match j, hj with
      | 0, _ => decide
      | 1, _ => decide)
    have hv2 : TxOk (if j + 1 = 0 then 903 else if j + 1 = 1 then 3625 else 14513) v := hv.mono (by
      match j, hj with
      | 0, _ => decide
      | 1, _ => decide)
    have hv3 : TxOk 20000 v := hv2.mono (by split <;> (try split) <;> omega)
    have ed := due33_eq (fns := fns) (gv := gv) hg (d + 1) hv3 (by omega) (by omega)
    have er := lread33_eq (fns := fns) (gv := gv) hg hf h8 d hv3 (by omega) (by omega)
    refine ⟨(v, y'), _, hv2, rfl, ?_⟩
    have kk := ne_readQ (linesS v)
    have due : ∀ x, dueQ (linesS v) = some x → x = mkQ (linesS v) := fun x h => by
      unfold dueQ at h
      split at h
      · cases h; rfl
      · cases h
    unfold bagL at *
    cases hq : dueQ (linesS v) with
    | none =>
      rw [hq] at ed er kk
      simp only [readQ, Option.getD_none] at ed er kk
      simp_arith [b448_0, c448_1, es, ed, er, kk, D.isNon]
    | some p =>
      have hp : p.isNon = false := by rw [due p hq]; rfl
      rw [hq] at ed er kk
      simp only [readQ, Option.getD_some] at ed er kk
      simp_arith [b448_0, c448_1, es, ed, er, kk, hp])
  obtain ⟨tz, xz⟩ := st
  dsimp only at loop
  have em : cs fns gv (d + 7) 437 [.v (dv (.str ""))] = .ok (readQ none) [] := by
    rw [lread33_eq hg hf h8 d (z := "") (N := 3) (tx_c (by decide +kernel)) (by omega) (by omega)]
    have q : dueQ (linesS "") = none := by
      unfold dueQ
      rw [if_neg]
      rintro ⟨h, _⟩
      exact absurd h (by decide +kernel)
    rw [q]
  have fin := for_same (ρ := [.val (.d (.scr ns)), .val (.d (.int (k : Int))), .val (bagL (xz)), .val (.d (mkD m)), .val (.d (.str (tz))), .no, .no, .no]) (t := .n 7) (body := exs (cs fns gv (d + 7)) gv b448_1) (it := fun x => Itm.one (dv x)) [.non, .int 5, mkD m, .str "", .lst [.str tz]] (fun x hx => by
    have er : cs fns gv (d + 7) 437 [.v (dv x)] = .ok (readQ none) [] := by
      simp only [List.mem_cons, List.not_mem_nil, or_false] at hx
      rcases hx with rfl | rfl | rfl | rfl | rfl
      · exact lread33_no d rfl
      · exact lread33_no d rfl
      · exact lread33_no d rfl
      · exact em
      · exact lread33_no d rfl
    have kk := ne_read none
    simp only [readL, readQ] at er kk
    refine ⟨_, rfl, ?_⟩
    simp_arith [b448_1, c448_2, er, kk])
  unfold bagL at *
  simp only [readQ] at e5 k2
  simp only [List.map_cons, List.map_nil] at fin
  have i2 : inSmall 2 = true := rfl
  have rI : rngI 0 2 = (List.range 2).map fun (j : Nat) => Itm.one (dv (.int (j : Int))) := by unfold rngI; simp
  have s5 : small 5 = true := rfl
  simp_arith [b448_2, i2, rI, s5, e0, e1, e2, c448_0, e3, e5, k1, k2, loop, fin]
theorem law33 [HasF fns 0 f0] [HasF fns 1 f1] [HasF fns 2 f2] [HasF fns 3 f3] [HasF fns 12 f12] [HasF fns 13 f13] [HasF fns 28 f28] [HasF fns 29 f29] [HasF fns 34 f34] [HasF fns 163 f163] [HasF fns 164 f164] [HasF fns 165 f165] [HasF fns 166 f166] [HasF fns 167 f167] [HasF fns 168 f168] [HasF fns 416 f416] [HasF fns 419 f419] [HasF fns 421 f421] [HasF fns 424 f424] [HasF fns 425 f425] [HasF fns 427 f427] [HasF fns 433 f433] [HasF fns 434 f434] [HasF fns 437 f437] [HasF fns 441 f441] [HasF fns 442 f442] [HasF fns 445 f445] [HasF fns 446 f446] [HasF fns 447 f447] [HasF fns 448 f448] (hg : GvM gv) (hf : gv 7 = some (.str "0123456789")) (h8 : gv 8 = some (.int 9)) (d : Nat) (ns : List Int) (hns : ns.length ≤ 63) : cs fns gv (d + 8) 448 [.v (dv (.scr ns))] = .ok (.d (.bl true)) [] := by
  rw [r448]
  exact law_loop (r := 6) (by omega) hns rfl rfl fun k hk => turn33 hg hf h8 d ns hns k hk
end
end WMk

theorem WMk.law_true (ns : List Int) (h : ns.length ≤ 63) : WM.cs WMk.fns WMk.gv WMk.dep 448 [.v (.ow (.d (.scr ns)))] = .ok (.d (.bl true)) [] := WMk.law33 (fns := WMk.fns) (gv := WMk.gv) ⟨rfl, rfl, rfl, rfl⟩ rfl rfl 12 ns h

open PySem PySem.W PyProof.Rows
set_option maxHeartbeats 0 in
theorem PySem.Challenge.cw_wishmart_k33_markets_as_texts_holds : PySem.Challenge.rw_wishmart_k33_markets_as_texts.Holds := by
  w_on; o_law; k_head; (case hw => w_witness2)
  k_fill
  refine WM.walk_seer (l := PySem.Challenge.rw_wishmart_k33_markets_as_texts) (n := 63) (k := WMk.dep + 33) (x := "script") (CX := fun w => L2N.CX (PySem.Challenge.rw_wishmart_k33_markets_as_texts).prog w) (sp := fun w => WM.lawSp _) rfl (by decide) rfl ⟨rfl, by decide, by decide⟩ (by decide +kernel) (fun w h Y => PySem.W.kIn_of Y) ?F (fun _ _ a ns hl hS => WM.law_sp2 hl hS) (fun _ _ _ _ _ h => WM.cx_no h)
  case F =>
    intro w mg fa h KX G hmg
    refine' WMk.all_mk WMk.law_true rfl KX G hmg ?a12 ?l12 ?c12 ?k12 ?a0 ?l0 ?c0 ?k0 ?a13 ?l13 ?c13 ?k13 ?a163 ?l163 ?c163 ?k163 ?a164 ?l164 ?c164 ?k164 ?a165 ?l165 ?c165 ?k165 ?a166 ?l166 ?c166 ?k166 ?a167 ?l167 ?c167 ?k167 ?a168 ?l168 ?c168 ?k168 ?a424 ?l424 ?c424 ?k424 ?a425 ?l425 ?c425 ?k425 ?a416 ?l416 ?c416 ?k416 ?a421 ?l421 ?c421 ?k421 ?a433 ?l433 ?c433 ?k433 ?a1 ?l1 ?c1 ?k1 ?a2 ?l2 ?c2 ?k2 ?a3 ?l3 ?c3 ?k3 ?a28 ?l28 ?c28 ?k28 ?a29 ?l29 ?c29 ?k29 ?a34 ?l34 ?c34 ?k34 ?a419 ?l419 ?c419 ?k419 ?a434 ?l434 ?c434 ?k434 ?a445 ?l445 ?c445 ?k445 ?a446 ?l446 ?c446 ?k446 ?a427 ?l427 ?c427 ?k427 ?a441 ?l441 ?c441 ?k441 ?a447 ?l447 ?c447 ?k447 ?a437 ?l437 ?c437 ?k437 ?a442 ?l442 ?c442 ?k442 ?a448 ?l448 ?c448 ?k448 ?z0 ?z1 ?z2 ?z3 ?z4 ?z5 ?z6 ?z7 ?z8 ?z9 ?z10 ?z11 ?z12 ?z13 ?z14 ?z15 ?z16 ?z17 ?ga0 ?gx0 ?gk0 ?gb0 ?gt0 ?ga1 ?gx1 ?gk1 ?gb1 ?gt1 ?ga2 ?gx2 ?gk2 ?gb2 ?gt2 ?ga3 ?gx3 ?gk3 ?gb3 ?gt3 ?ga4 ?gx4 ?gk4 ?gb4 ?gt4 ?ga5 ?gx5 ?gk5 ?gb5 ?gt5 ?ga6 ?gx6 ?gk6 ?gb6 ?gt6 ?ga7 ?gx7 ?gk7 ?gb7 ?gt7 ?ga8 ?gx8 ?gk8 ?gb8 ?gt8 ?ga9 ?gx9 ?gk9 ?gb9 ?gt9 ?ga10 ?gx10 ?gk10 ?gb10 ?gt10 ?v2 ?v3 ?v4 ?v5 ?v7 ?v8 ?aK ?lK ?cK ?kK ?aB ?vE ?bB ?dB ?tB ?hnK ?htK ?gg0 ?gh0 ?gd0 ?gc0 ?gm0 ?gv0 ?gz0 ?kt0_0 ?kt0_1 ?kt0_2 ?kt0_3 ?kt0_4 ?kt0_5 ?kt0_6 ?kt0_7 ?kt0_8 ?kt0_9 ?kt0_10 ?gg1 ?gh1 ?gd1 ?gc1 ?gm1 ?gv1 ?gz1 ?kt1_0 ?kt1_1 ?kt1_2 ?kt1_3 ?kt1_4 ?kt1_5 ?kt1_6 ?kt1_7 ?kt1_8 ?kt1_9 ?kt1_10 ?gg2 ?gh2 ?gd2 ?gc2 ?gm2 ?gv2 ?gz2 ?kt2_0 ?kt2_1 ?kt2_2 ?kt2_3 ?kt2_4 ?kt2_5 ?kt2_6 ?kt2_7 ?kt2_8 ?kt2_9 ?kt2_10 ?gg3 ?gh3 ?gd3 ?gc3 ?gm3 ?gv3 ?gz3 ?kt3_0 ?kt3_1 ?kt3_2 ?kt3_3 ?kt3_4 ?kt3_5 ?kt3_6 ?kt3_7 ?kt3_8 ?kt3_9 ?kt3_10 ?gg4 ?gh4 ?gd4 ?gc4 ?gm4 ?gv4 ?gz4 ?kt4_0 ?kt4_1 ?kt4_2 ?kt4_3 ?kt4_4 ?kt4_5 ?kt4_6 ?kt4_7 ?kt4_8 ?kt4_9 ?kt4_10 ?gg5 ?gh5 ?gd5 ?gc5 ?gm5 ?gv5 ?gz5 ?kt5_0 ?kt5_1 ?kt5_2 ?kt5_3 ?kt5_4 ?kt5_5 ?kt5_6 ?kt5_7 ?kt5_8 ?kt5_9 ?kt5_10 ?gg6 ?gh6 ?gd6 ?gc6 ?gm6 ?gv6 ?gz6 ?kt6_0 ?kt6_1 ?kt6_2 ?kt6_3 ?kt6_4 ?kt6_5 ?kt6_6 ?kt6_7 ?kt6_8 ?kt6_9 ?kt6_10 ?gg7 ?gh7 ?gd7 ?gc7 ?gm7 ?gv7 ?gz7 ?kt7_0 ?kt7_1 ?kt7_2 ?kt7_3 ?kt7_4 ?kt7_5 ?kt7_6 ?kt7_7 ?kt7_8 ?kt7_9 ?kt7_10 ?gg8 ?gh8 ?gd8 ?gc8 ?gm8 ?gv8 ?gz8 ?kt8_0 ?kt8_1 ?kt8_2 ?kt8_3 ?kt8_4 ?kt8_5 ?kt8_6 ?kt8_7 ?kt8_8 ?kt8_9 ?kt8_10 ?gg9 ?gh9 ?gd9 ?gc9 ?gm9 ?gv9 ?gz9 ?kt9_0 ?kt9_1 ?kt9_2 ?kt9_3 ?kt9_4 ?kt9_5 ?kt9_6 ?kt9_7 ?kt9_8 ?kt9_9 ?kt9_10 ?gg10 ?gh10 ?gd10 ?gc10 ?gm10 ?gv10 ?gz10 ?kt10_0 ?kt10_1 ?kt10_2 ?kt10_3 ?kt10_4 ?kt10_5 ?kt10_6 ?kt10_7 ?kt10_8 ?kt10_9 ?kt10_10
    (case a12 => k_is); (case l12 => k_is); (case c12 => k_is); (case k12 => k_is); (case a0 => k_is); (case l0 => k_is); (case c0 => k_is); (case k0 => k_is); (case a13 => k_is); (case l13 => k_is); (case c13 => k_is); (case k13 => k_is); (case a163 => k_is); (case l163 => k_is); (case c163 => k_is); (case k163 => k_is); (case a164 => k_is); (case l164 => k_is); (case c164 => k_is); (case k164 => k_is); (case a165 => k_is); (case l165 => k_is); (case c165 => k_is); (case k165 => k_is); (case a166 => k_is); (case l166 => k_is); (case c166 => k_is); (case k166 => k_is); (case a167 => k_is); (case l167 => k_is); (case c167 => k_is); (case k167 => k_is); (case a168 => k_is); (case l168 => k_is); (case c168 => k_is); (case k168 => k_is); (case a424 => k_is); (case l424 => k_is); (case c424 => k_is); (case k424 => k_is); (case a425 => k_is); (case l425 => k_is); (case c425 => k_is); (case k425 => k_is); (case a416 => k_is); (case l416 => k_is); (case c416 => k_is); (case k416 => k_is); (case a421 => k_is); (case l421 => k_is); (case c421 => k_is); (case k421 => k_is); (case a433 => k_is); (case l433 => k_is); (case c433 => k_is); (case k433 => k_is); (case a1 => k_is); (case l1 => k_is); (case c1 => k_is); (case k1 => k_is); (case a2 => k_is); (case l2 => k_is); (case c2 => k_is); (case k2 => k_is); (case a3 => k_is); (case l3 => k_is); (case c3 => k_is); (case k3 => k_is); (case a28 => k_is); (case l28 => k_is); (case c28 => k_is); (case k28 => k_is); (case a29 => k_is); (case l29 => k_is); (case c29 => k_is); (case k29 => k_is); (case a34 => k_is); (case l34 => k_is); (case c34 => k_is); (case k34 => k_is); (case a419 => k_is); (case l419 => k_is); (case c419 => k_is); (case k419 => k_is); (case a434 => k_is); (case l434 => k_is); (case c434 => k_is); (case k434 => k_is); (case a445 => k_is); (case l445 => k_is); (case c445 => k_is); (case k445 => k_is); (case a446 => k_is); (case l446 => k_is); (case c446 => k_is); (case k446 => k_is); (case a427 => k_is); (case l427 => k_is); (case c427 => k_is); (case k427 => k_is); (case a441 => k_is); (case l441 => k_is); (case c441 => k_is); (case k441 => k_is); (case a447 => k_is); (case l447 => k_is); (case c447 => k_is); (case k447 => k_is); (case a437 => k_is); (case l437 => k_is); (case c437 => k_is); (case k437 => k_is); (case a442 => k_is); (case l442 => k_is); (case c442 => k_is); (case k442 => k_is); (case a448 => k_is); (case l448 => k_is); (case c448 => k_is); (case k448 => k_is); (case z0 => k_is); (case z1 => k_is); (case z2 => k_is); (case z3 => k_is); (case z4 => k_is); (case z5 => k_is); (case z6 => k_is); (case z7 => k_is); (case z8 => k_is); (case z9 => k_is); (case z10 => k_is); (case z11 => k_is); (case z12 => k_is); (case z13 => k_is); (case z14 => k_is); (case z15 => k_is); (case z16 => k_is); (case z17 => k_is); (case ga0 => k_is); (case gx0 => k_exc); (case gk0 => k_is); (case gb0 => k_is); (case gt0 => k_is); (case ga1 => k_is); (case gx1 => k_exc); (case gk1 => k_is); (case gb1 => k_is); (case gt1 => k_is); (case ga2 => k_is); (case gx2 => k_exc); (case gk2 => k_is); (case gb2 => k_is); (case gt2 => k_is); (case ga3 => k_is); (case gx3 => k_exc); (case gk3 => k_is); (case gb3 => k_is); (case gt3 => k_is); (case ga4 => k_is); (case gx4 => k_exc); (case gk4 => k_is); (case gb4 => k_is); (case gt4 => k_is); (case ga5 => k_is); (case gx5 => k_exc); (case gk5 => k_is); (case gb5 => k_is); (case gt5 => k_is); (case ga6 => k_is); (case gx6 => k_exc); (case gk6 => k_is); (case gb6 => k_is); (case gt6 => k_is); (case ga7 => k_is); (case gx7 => k_exc); (case gk7 => k_is); (case gb7 => k_is); (case gt7 => k_is); (case ga8 => k_is); (case gx8 => k_exc); (case gk8 => k_is); (case gb8 => k_is); (case gt8 => k_is); (case ga9 => k_is); (case gx9 => k_exc); (case gk9 => k_is); (case gb9 => k_is); (case gt9 => k_is); (case ga10 => k_is); (case gx10 => k_exc); (case gk10 => k_is); (case gb10 => k_is); (case gt10 => k_is); (case v2 => k_is); (case v3 => k_is); (case v4 => k_is); (case v5 => k_is); (case v7 => k_is); (case v8 => k_is); (case aK => k_is); (case lK => k_is); (case cK => k_is); (case kK => k_is); (case aB => k_is); (case vE => k_is); (case bB => k_is); (case dB => k_is); (case tB => k_is); (case hnK => k_is); (case htK => k_is); (case gg0 => k_is); (case gh0 => k_is); (case gd0 => k_is); (case gc0 => k_is); (case gm0 => k_is); (case gv0 => kit_is); (case gz0 => k_is); (case kt0_0 => kit_is); (case kt0_1 => kit_is); (case kt0_2 => kit_is); (case kt0_3 => kit_is); (case kt0_4 => kit_is); (case kt0_5 => kit_is); (case kt0_6 => kit_is); (case kt0_7 => kit_is); (case kt0_8 => kit_is); (case kt0_9 => kit_is); (case kt0_10 => kit_is); (case gg1 => k_is); (case gh1 => k_is); (case gd1 => k_is); (case gc1 => k_is); (case gm1 => k_is); (case gv1 => kit_is); (case gz1 => k_is); (case kt1_0 => kit_is); (case kt1_1 => kit_is); (case kt1_2 => kit_is); (case kt1_3 => kit_is); (case kt1_4 => kit_is); (case kt1_5 => kit_is); (case kt1_6 => kit_is); (case kt1_7 => kit_is); (case kt1_8 => kit_is); (case kt1_9 => kit_is); (case kt1_10 => kit_is); (case gg2 => k_is); (case gh2 => k_is); (case gd2 => k_is); (case gc2 => k_is); (case gm2 => k_is); (case gv2 => kit_is); (case gz2 => k_is); (case kt2_0 => kit_is); (case kt2_1 => kit_is); (case kt2_2 => kit_is); (case kt2_3 => kit_is); (case kt2_4 => kit_is); (case kt2_5 => kit_is); (case kt2_6 => kit_is); (case kt2_7 => kit_is); (case kt2_8 => kit_is); (case kt2_9 => kit_is); (case kt2_10 => kit_is); (case gg3 => k_is); (case gh3 => k_is); (case gd3 => k_is); (case gc3 => k_is); (case gm3 => k_is); (case gv3 => kit_is); (case gz3 => k_is); (case kt3_0 => kit_is); (case kt3_1 => kit_is); (case kt3_2 => kit_is); (case kt3_3 => kit_is); (case kt3_4 => kit_is); (case kt3_5 => kit_is); (case kt3_6 => kit_is); (case kt3_7 => kit_is); (case kt3_8 => kit_is); (case kt3_9 => kit_is); (case kt3_10 => kit_is); (case gg4 => k_is); (case gh4 => k_is); (case gd4 => k_is); (case gc4 => k_is); (case gm4 => k_is); (case gv4 => kit_is); (case gz4 => k_is); (case kt4_0 => kit_is); (case kt4_1 => kit_is); (case kt4_2 => kit_is); (case kt4_3 => kit_is); (case kt4_4 => kit_is); (case kt4_5 => kit_is); (case kt4_6 => kit_is); (case kt4_7 => kit_is); (case kt4_8 => kit_is); (case kt4_9 => kit_is); (case kt4_10 => kit_is); (case gg5 => k_is); (case gh5 => k_is); (case gd5 => k_is); (case gc5 => k_is); (case gm5 => k_is); (case gv5 => kit_is); (case gz5 => k_is); (case kt5_0 => kit_is); (case kt5_1 => kit_is); (case kt5_2 => kit_is); (case kt5_3 => kit_is); (case kt5_4 => kit_is); (case kt5_5 => kit_is); (case kt5_6 => kit_is); (case kt5_7 => kit_is); (case kt5_8 => kit_is); (case kt5_9 => kit_is); (case kt5_10 => kit_is); (case gg6 => k_is); (case gh6 => k_is); (case gd6 => k_is); (case gc6 => k_is); (case gm6 => k_is); (case gv6 => kit_is); (case gz6 => k_is); (case kt6_0 => kit_is); (case kt6_1 => kit_is); (case kt6_2 => kit_is); (case kt6_3 => kit_is); (case kt6_4 => kit_is); (case kt6_5 => kit_is); (case kt6_6 => kit_is); (case kt6_7 => kit_is); (case kt6_8 => kit_is); (case kt6_9 => kit_is); (case kt6_10 => kit_is); (case gg7 => k_is); (case gh7 => k_is); (case gd7 => k_is); (case gc7 => k_is); (case gm7 => k_is); (case gv7 => kit_is); (case gz7 => k_is); (case kt7_0 => kit_is); (case kt7_1 => kit_is); (case kt7_2 => kit_is); (case kt7_3 => kit_is); (case kt7_4 => kit_is); (case kt7_5 => kit_is); (case kt7_6 => kit_is); (case kt7_7 => kit_is); (case kt7_8 => kit_is); (case kt7_9 => kit_is); (case kt7_10 => kit_is); (case gg8 => k_is); (case gh8 => k_is); (case gd8 => k_is); (case gc8 => k_is); (case gm8 => k_is); (case gv8 => kit_is); (case gz8 => k_is); (case kt8_0 => kit_is); (case kt8_1 => kit_is); (case kt8_2 => kit_is); (case kt8_3 => kit_is); (case kt8_4 => kit_is); (case kt8_5 => kit_is); (case kt8_6 => kit_is); (case kt8_7 => kit_is); (case kt8_8 => kit_is); (case kt8_9 => kit_is); (case kt8_10 => kit_is); (case gg9 => k_is); (case gh9 => k_is); (case gd9 => k_is); (case gc9 => k_is); (case gm9 => k_is); (case gv9 => kit_is); (case gz9 => k_is); (case kt9_0 => kit_is); (case kt9_1 => kit_is); (case kt9_2 => kit_is); (case kt9_3 => kit_is); (case kt9_4 => kit_is); (case kt9_5 => kit_is); (case kt9_6 => kit_is); (case kt9_7 => kit_is); (case kt9_8 => kit_is); (case kt9_9 => kit_is); (case kt9_10 => kit_is); (case gg10 => k_is); (case gh10 => k_is); (case gd10 => k_is); (case gc10 => k_is); (case gm10 => k_is); (case gv10 => kit_is); (case gz10 => k_is); (case kt10_0 => kit_is); (case kt10_1 => kit_is); (case kt10_2 => kit_is); (case kt10_3 => kit_is); (case kt10_4 => kit_is); (case kt10_5 => kit_is); (case kt10_6 => kit_is); (case kt10_7 => kit_is); (case kt10_8 => kit_is); (case kt10_9 => kit_is); (case kt10_10 => kit_is)

