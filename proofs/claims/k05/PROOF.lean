import PyProof.Rows.All
import Wide.All
import OpenK.AllK
import Wide.FinOn
import HandS.ForMost
import HandS.EndBits
import HandS.ExcOwn
import HandS.Words
import HandS.Defaults
import HandS.CallSlots
import HandS.ExcIs
import HandS.TupAny
import HandS.TupMul
import HandS.SetFor
import HandS.More
import HandS.WideBits
import HandS.List
import KE.GoesEnum
import KE.GoesZip
import PyProof.FactsAll.tuple_2
import HandS.ForExc
import HandS.IsInst
import HandS.Deep
import HandS.Codes
import HandS.Style
import HandS.Sort
import HandS.Zip
import HandS.TryOnly
import HandS.RevRange
import HandS.DictComp
import HandS.Text
import HandS.SortInts
import PyProof.Rows.StrMul
import HandS.ExcInit
import HandS.ClsMeth
import HandS.ExcField
import HandS.Strs
import HandS.Star
import HandS.SortKw
import KE.KDictKeyed
import KE.KDictLaw
import HandS.Dict
import KE.DataCmp
import HandS.MakeKw
import KE.SortData
import HandS.GenList
import PySem.Challenge.RW_teesizes_k05_numbers_of_words
set_option Elab.async false
set_option linter.all false
set_option maxRecDepth 100000
set_option maxHeartbeats 4000000
namespace Ds
open PySem L2
open PyProof.Rows (envOfC IntsAre AllBare)
open PySem.Spec
variable {P : Program} {w : World} {K : PySem.W.Frag} {mg : Str → Option Value} {base : Heap}
structure RoomG (k : Nat) (A : Around) : Prop where
  rm : Room k A
  gd : 100 ≤ k → A.guards = some []
theorem RoomG.mono {j k : Nat} {A : Around} (r : RoomG k A) (h : j ≤ k) : RoomG j A := ⟨r.rm.mono h, fun z => r.gd (Nat.le_trans z h)⟩
theorem RoomG.deeper {k : Nat} {A : Around} (r : RoomG (k + 1) A) (env : Env) : RoomG k (A.deeper env) := ⟨r.rm.deeper env, fun z => r.gd (Nat.le_succ_of_le z)⟩
theorem RoomG.units {k : Nat} {A : Around} (r : RoomG k A) : A.units + 64 < cLine := by have := r.rm.un; omega
structure FnG (P : Program) (w : World) (K : PySem.W.Frag) (mg : Str → Option Value) (base : Heap) (k : Nat) (f : Addr) (fd : FuncData) (ps : List Str) (sp : Sp) : Prop where
  len : ∀ vs H Q E, sp vs H Q E → vs.length = ps.length
  run : ∀ (A : Around) (os : List Env) (s : Shared) (H : Hp) (as : Args) (us : List Value) (vs : List V) (Q : VK) (E : XK), RoomG k A → Env0 P w K mg base A os s H → BindsTo s fd as (ps.zip us) → Vals vs us →
    sp vs H Q E → codeAny (model P w) A (.call (.ref f) as) (CR (L2.CX P w) os P w H s Q E) s
theorem FnG.mono {j k : Nat} {f : Addr} {fd : FuncData} {ps : List Str} {sp : Sp} (F : FnG P w K mg base j f fd ps sp) (h : j ≤ k) : FnG P w K mg base k f fd ps sp :=
  ⟨F.len, fun A os s H as us vs Q E r => F.run A os s H as us vs Q E (r.mono h)⟩
theorem fnG_of {k : Nat} {f : Addr} {name qual : Str} {params : Arguments} {body : List Stmt} {sc : Scope} {dV kV doc pm cdv ct oc : Value} {an od : Option Addr} {osl : Array (Option Value)} {N ps : List Str} {sp : Sp}
    (at_ : K.lookup f = some ⟨oc, od, .func (PySem.W.fnOf name qual params body sc dV kV doc pm an cdv ct), osl⟩) (cd : PySem.W.codeIn K cdv qual = true) (S : FnScope N ps sc) (len : ∀ vs H Q E, sp vs H Q E → vs.length = ps.length)
    (hb : ∀ (A : Around) (os : List Env) (s : Shared) (H : Hp) (vs : List V) (Q : VK) (E : XK), RoomG k (A.deeper (envOfC qual sc s.heap.objs.size f cdv)) → sp vs H Q E →
      ∃ t, PSs (cxOf (L2.CX P w) P w K mg base N qual sc f cdv A os s H E) body t ∧ t { nx := fun _ H' => Q .non H', rt := Q } (L2.start N vs) H) :
    FnG P w K mg base (k + 1) f (PySem.W.fnOf name qual params body sc dV kV doc pm an cdv ct) ps sp := by
  constructor
  · exact len
  · intro A os s H as us vs Q E room env bnd rel want
    have inK : K.In s.heap := env.mod.kin.keeps fun b o e => (env.bs b o e).1
    have kinds : ∀ y ∈ ps.zip us, sc.names.lookup y.1 = some .local ∨ (sc.names.lookup y.1 = some .cell ∧ ((cellsFrom (s.heap.objs.size + 1) sc.names []).lookup y.1).isSome = true) := by
      intro ⟨n, v⟩ hy
      exact (S.par n (List.of_mem_zip hy).1).imp id fun q => ⟨q, PySem.W.cellsFrom_some _ _ _ (.inl q)⟩
    have nolim : s.heap.NoLimit := env.mod.nolimit.keeps fun b o e => (env.bs b o e).1
    refine PySem.codeAny_call_function room.rm.depth (inK _ _ at_) rfl S.co S.gen rfl (PySem.W.codeRec_of inK cd) (bnd _ _ _ _ ?_)
    refine wpAny_newFunctionEnv_cells S.kind kinds fun e he s1 x => ?_
    subst he
    refine ⟨nolim.keeps x.toInCall.keep, PySem.codeAny_func ?_⟩
    obtain ⟨t, run, q⟩ := hb A os s H vs Q E (room.deeper _) want
    have I := inv_start (CX := L2.CX P w) (E := E) S room.rm.hd env (len _ _ _ _ want) rel x
    refine wpAny_mono (run.run [] s1 _ H _ I q) (fun fl s' hs => ?_) fun _ _ hs => hs
    match fl, hs with
    | .ret u, ⟨v, σ', H', J, rv, q⟩ => exact ⟨v, H', J.os, J.bare, J.base, J.hok, rv, q⟩
    | .next, ⟨σ', H', J, q⟩ => exact ⟨.non, H', J.os, J.bare, J.base, J.hok, rfl, q⟩
    | .brk, ⟨_, _, _, q⟩ => exact q.elim
    | .cont, ⟨_, _, _, q⟩ => exact q.elim
section
variable {X : Cx} {k : Nat} {f : Addr} {fd : FuncData} {ps : List Str} {sp : Sp} {dvs : List V} {ds : List Value} {E : St → XK} {x : Str} {p pos : Pos} {e : Expr} {es : List Expr} {t : TA}
theorem runG {pins : List (Addr × Obj)} {σ : St} {H : Hp} {s : Shared} {Q : VK} {us : List Value} {vs : List V} (F : FnG X.prog X.w X.K X.mg X.base k f fd ps sp) (hr : RoomG k X.A) (hb : Binds X.K fd ps ds) (hd : Vals dvs ds)
    (hx : PassesAt (L2.CX X.prog X.w) X σ (E σ)) (I : Inv X pins σ H s) (r : Vals vs us) (h : sp (vs ++ dvs) H Q (E σ)) : wpAny (model X.prog X.w) X.A (call (.ref f) us) (EP X pins σ Q) X.xe s := by
  have rr := r.append hd
  have len : (us ++ ds).length = ps.length := rr.length.symm.trans (F.len _ _ _ _ h)
  have go := F.run X.A X.stack s H ⟨us, []⟩ _ _ Q (E σ) hr I.env0 (hb s us I.kIn len) rr h
  refine wpAny_call (codeAny_mono go fun r s' q => ?_)
  match r, q with
  | .error e, q => exact hx pins H s e s' I q
  | .ok (.ret u), q => exact I.after q
  | .ok .next, q => exact q.elim
  | .ok .brk, q => exact q.elim
  | .ok .cont, q => exact q.elim
theorem pe_callG (F : FnG X.prog X.w X.K X.mg X.base k f fd ps sp) (hr : RoomG k X.A) (hg : Gl X x) (hm : X.mg x = some (.ref f)) (hk : PySem.W.keepIn X.K (.ref f) = true) (hb : Binds X.K fd ps ds) (hd : Vals dvs ds) (hx : ∀ σ, PassesAt (L2.CX X.prog X.w) X σ (E σ))
    (ha : PA X (e :: es) t) (hdb : (x == ("__debug__" : Str)) = false) (he : starEach (e :: es) X.env = (false, eval e X.env) :: starEach es X.env) (hpl : (backTo pos (starEach es X.env)).any (·.1) = false) :
    PE X (.Call (.Name x p) (e :: es) [] pos) (tCallSD sp dvs E t) := by
  constructor
  intro pins s σ H Q I h
  refine wpAny_Call_Name_kw (ld_glob I hg hm ?_ hdb)
  have args := ha.run pos pins s σ H _ I h
  refine PySem.W.callWith_K (h₀ := X.base) I.ok.mod.kin hk (thn args fun us s1 hh => ?_) he hpl
  obtain ⟨vs, H1, J, r, q⟩ := hh
  exact ⟨J.kIn, runG F hr hb hd (hx σ) J r q⟩
end
theorem headG {mb : Str → Option Value} {k : Nat} {fa a : Addr} {fd : FuncData} {x : Str} {sp : Sp} {s : Shared} {us : List Value} {ns : List Int} (inK : K.In s.heap) (gl : s.heap.Ns mainGlobals mg) (bl : s.heap.Ns builtinsNs mb) (bb : ∀ x : Str, x ≠ "__name__" → mb x = bootBuiltins x)
    (lim : s.heap.NoLimit) (gens : s.gens = #[]) (ob : s.heap.get? a = some { cls := .type "list", data := .seq us.toArray }) (is : IntsAre us ns) (le : ns.length ≤ sizeLine) (room : RoomG k callerA)
    (F : ∀ base : Heap, K.In base → base.Ns mainGlobals mg → FnG P w K mg base k fa fd [x] sp) (bind : ∀ (s : Shared) (u : Value), BindsTo s fd ⟨[u], []⟩ [(x, u)])
    (want : ∀ H : Hp, Only H → SqL K H a (ns.map V.int) → sp [.ref a] H (fun v _ => v = .bl true) fun _ _ _ => False) (noX : ∀ H e s', L2.CX P w [] H s (fun _ _ _ => False) e s' → False) :
    codeAny (model P w) callerA (.call (.ref fa) ⟨[.ref a], []⟩) (fun r s' => r = .ok (.ret (.bool true)) ∧ OldK s.heap s'.heap ∧ s'.os = s.os ∧ AllBare s'.gens) s := by
  have vals := vals_ints is
  have size := is.length
  have main : ∀ H : Hp, Only H → SqL K H a (ns.map V.int) → HOk P w H s.heap → (∀ b, H b ≠ none → b = a) → (H a ≠ none → K.lookup a = none) → codeAny (model P w) callerA (.call (.ref fa) ⟨[.ref a], []⟩) (fun r s' => r = .ok (.ret (.bool true)) ∧ OldK s.heap s'.heap ∧ s'.os = s.os ∧ AllBare s'.gens) s := by
    intro H only sq hok one notK
    have seen : ∀ {b : Addr} {o : Obj}, s.heap.get? b = some o → H b = none → (hidT s.heap H).get? b = some o := fun e n => hidT_get e n
    have dictFree : ∀ {b : Addr} {o : Obj} {es : Array DictEntry} {n : Nat}, s.heap.get? b = some o → o.data = .dict es n → H b = none := by
      intro b o es n e d
      by_cases z : H b = none
      · exact z
      · rw [one b z, ob] at e
        cases e
        cases d
    have names : ∀ {b : Addr} {m : Str → Option Value}, s.heap.Ns b m → (hidT s.heap H).Ns b m := fun ⟨o, es, n, e, d, r⟩ => ⟨o, es, n, seen e (dictFree e d), d, r⟩
    have kb : K.In (hidT s.heap H) := by
      intro b o e
      refine seen (inK b o e) ?_
      by_cases z : H b = none
      · exact z
      · have eb := one b z
        subst eb
        rw [notK z] at e
        cases e
    have env : Env0 P w K mg (hidT s.heap H) callerA [] s H :=
      ⟨rfl, ⟨kb, names gl, ⟨mb, names bl, bb⟩, lim.elim fun mc h => ⟨mc, names h.1, h.2⟩⟩, fun b o e => of_hidT e, Nat.le_of_eq (hidT_size _ _), trivial, fun b hb => absurd (show b ∈ ([] : List Addr) from hb) (by simp), hok, .of_eq gens⟩
    have go := (F _ kb (names gl)).run callerA [] s H ⟨[.ref a], []⟩ [.ref a] [.ref a] _ _ room env (bind s (.ref a)) (.cons rfl .nil) (want H only sq)
    refine codeAny_mono go fun r s' h => ?_
    match r, h with
    | .error e, h => exact (noX H e s' h).elim
    | .ok .next, h => exact h.elim
    | .ok .brk, h => exact h.elim
    | .ok .cont, h => exact h.elim
    | .ok (.ret u), ⟨v, H', os, bare, un, hok', rel, q⟩ =>
      cases (show v = .bl true from q)
      cases (show u = Value.bool true from rel)
      refine ⟨rfl, OldK.of_keep fun b o e => ?_, os, bare⟩
      by_cases z : H b = none
      · exact un.keep b o e z (fun z => absurd (show b ∈ ([] : List Addr) from z) (by simp)) (by simp)
      · rcases only b with z2 | ⟨o2, xs, z2⟩
        · exact absurd z2 z
        · have e1 := (hok b _ z2).1
          rw [e] at e1
          cases e1
          exact (hok' b _ (un.frzs b _ _ z2)).1
  by_cases hk : K.lookup a = none
  · let H : Hp := fun b => if b = a then some (.frz { cls := .type "list", data := .seq us.toArray } (.lst (ns.map V.int))) else none
    have at_ : H a = some (.frz { cls := .type "list", data := .seq us.toArray } (.lst (ns.map V.int))) := if_pos rfl
    have off : ∀ b, b ≠ a → H b = none := fun b z => if_neg z
    refine main H (fun b => ?_) (.inl (.inr ⟨_, at_⟩)) (fun b u z => ?_) (fun b z => ?_) fun _ => hk
    · by_cases z : b = a
      · subst z; exact .inr ⟨_, _, at_⟩
      · exact .inl (off b z)
    · by_cases q : b = a
      · subst q
        rw [at_] at z
        cases z
        exact ⟨ob, by rw [List.length_map]; exact le, us, _, vals, ob⟩
      · rw [off b q] at z; cases z
    · by_cases q : b = a
      · exact q
      · exact absurd (off b q) z
  · obtain ⟨o, ek⟩ := Option.ne_none_iff_exists'.mp hk
    have e := inK a o ek
    rw [ob] at e
    cases e
    refine main (fun _ => none) (fun _ => .inl rfl) (.inr ⟨_, us.toArray, _, ek, rfl, rfl, rfl, by rw [List.size_toArray, size]; exact le, by simpa using vals⟩) (fun b u z => nomatch (show (none : Option HO) = some u from z)) (fun b z => absurd rfl z) fun z => absurd rfl z
theorem walkG {l : PySem.W.OpenLaw} {n k : Nat} {q : Program} {loose : List Str} {XP : (Str → Option Value) → Heap → Prop} {YP : World → Heap → Prop} {d : PySem.DefRec} {K : Params → PySem.W.Frag} {sp : World → Sp} {x : Str} (hn : l.most = some n) (hn2 : n ≤ sizeLine) (hdf : d.params.defaults = []) (room : RoomG k callerA)
    (hY : ∀ (w : World) (h : Heap), YP w h → (K w.params).In h)
    (F : ∀ (w : World) (mg : Str → Option Value) (fa : Addr) (h : Heap), (K w.params).In h → h.Ns mainGlobals mg → mg d.name = some (.ref fa) → ∃ fd : FuncData, (∀ (s : Shared) (u : Value), BindsTo s fd ⟨[u], []⟩ [(x, u)]) ∧
      ∀ base : Heap, (K w.params).In base → base.Ns mainGlobals mg → FnG l.prog w (K w.params) mg base k fa fd [x] (sp w))
    (want : ∀ (w : World) (H : Hp) (a : Addr) (ns : List Int), ns.length ≤ n → (∀ z ∈ ns, Builtin.Int.intBits z ≤ 1048576) → Only H → SqL (K w.params) H a (ns.map V.int) → sp w [.ref a] H (fun v _ => v = .bl true) fun _ _ _ => False)
    (noX : ∀ (w : World) (H : Hp) (s : Shared) (e : Value) (s' : Shared), L2.CX l.prog w [] H s (fun _ _ _ => False) e s' → False) : PySem.W.WalkO q loose XP YP l.row.toRowW d [] (fun f vs => PySem.call f vs) := by
  refine Att.attach_callB hn hdf fun w s₀ s₁ mg mb fa o pm cd doc a us ns G Y ho hd hcd hmg hobj hints hlen hbits hg => ?_
  have inK := hY w _ Y
  obtain ⟨fd, bind, go⟩ := F w mg fa _ inK G.T.g hmg
  exact headG inK G.T.g G.T.b G.T.builtins G.T.nolimit hg hobj hints (Nat.le_trans hlen hn2) room go bind (fun H hO hS => want w H a ns hlen hbits hO hS) fun H e s' => noX w H s₁ e s'
theorem FunG {x qual : Str} {st : Stmt} {f : Addr} {fd : FuncData} {N ps : List Str} {k : Nat} {sp : Sp} (F : L2.Fun K x qual st f fd) (S : FnScope N ps (defScope st)) (len : ∀ vs H Q E, sp vs H Q E → vs.length = ps.length)
    (hb : ∀ (cdv : Value) (A : Around) (os : List Env) (s : Shared) (H : Hp) (vs : List V) (Q : VK) (E : XK), RoomG k (A.deeper (envOfC qual (defScope st) s.heap.objs.size f cdv)) → sp vs H Q E →
      ∃ t, PSs (cxOf (L2.CX P w) P w K mg base N qual (defScope st) f cdv A os s H E) (defBody st) t ∧ t { nx := fun _ H' => Q .non H', rt := Q } (L2.start N vs) H) : FnG P w K mg base (k + 1) f fd ps sp := by
  obtain ⟨oc, od, kV, doc, pm, an, cdv, ct, osl, rfl, at_, cd⟩ := F.ex
  exact fnG_of at_ cd S len fun A os s H vs Q E r => hb cdv A os s H vs Q E r
theorem FunDG {x qual : Str} {st : Stmt} {f : Addr} {fd : FuncData} {N ps : List Str} {k : Nat} {sp : Sp} {dvs : List V} {kws : List (Str × V)} (F : FunD K x qual (defArgs st) (defBody st) (defScope st) dvs kws f fd) (S : FnScope N ps (defScope st)) (len : ∀ vs H Q E, sp vs H Q E → vs.length = ps.length)
    (hb : ∀ (cdv : Value) (A : Around) (os : List Env) (s : Shared) (H : Hp) (vs : List V) (Q : VK) (E : XK), RoomG k (A.deeper (envOfC qual (defScope st) s.heap.objs.size f cdv)) → sp vs H Q E →
      ∃ t, PSs (cxOf (L2.CX P w) P w K mg base N qual (defScope st) f cdv A os s H E) (defBody st) t ∧ t { nx := fun _ H' => Q .non H', rt := Q } (L2.start N vs) H) : FnG P w K mg base (k + 1) f fd ps sp := by
  obtain ⟨oc, od, dV, kV, doc, pm, an, cdv, ct, osl, rfl, at_, cd, _, _⟩ := F.ex
  exact fnG_of at_ cd S len fun A os s H vs Q E r => hb cdv A os s H vs Q E r
end Ds
namespace Ds
open PySem PySem.W PySem.Spec PySem.Calls PyProof.Rows
section
variable {prog : Program} {w : World} {A : Around} {E : Value → Shared → Prop} {s : Shared} {K : PySem.W.Frag} {y G : Addr} {oy : Obj} {dd : Option Obj}
end
end Ds
namespace L2
open PySem PySem.Spec PyProof.Rows
theorem tuple_mul1 (l : Addr) (items : Array Value) (n : Nat) (dd : Option Addr) (sl : Array (Option Value)) (u : Tok) :
    Meets (Builtin.«tuple.__mul__» ⟨[.ref l, .int 1 u], []⟩) (fun _ R s => s.heap.get? l = some { cls := .type "tuple", dict := dd, data := .seq items n, slots := sl } ∧
      R (.ok (.ret (Value.ref l))) s) :=
  .of_wp fun prog w A R s h => by
    obtain ⟨hp, g, d, tk, os⟩ := s
    obtain ⟨hl, h⟩ := h
    have f1 := AutoSeq1.idx_int
    wp_walk using wpAny_loadPart' hl
    exact ⟨_, rfl, h⟩
def rCntT (K : PySem.W.Frag) : V → List V → Hp → VK → Prop := fun x xs H Q => ∃ (p : Addr) (ns : List Int) (k : Int), x = .ref p ∧ xs = [.int k] ∧ SqT K H p (ns.map V.int) ∧ Q (.int (ns.count k : Nat)) H
def rRepT1 (K : PySem.W.Frag) : R2 := fun x y H Q => ∃ l xs, x = .ref l ∧ y = .int 1 ∧ SqT K H l xs ∧ Q (.ref l) H
theorem op_repT1 {X : Cx} : OpR X (binaryOp .Mult) (rRepT1 X.K) := by
  intro pins s σ H x y v u Q I rx ry h
  obtain ⟨l, xs, rfl, rfl, hT, q⟩ := h
  cases rx
  obtain ⟨t, rfl⟩ := ry
  obtain ⟨its, r, ⟨⟨cls, dd, data, sl⟩, ho, hc, n, hd⟩, hs⟩ := I.tuple hT
  simp only at hc hd
  subst hc hd
  exact wpAny_binaryOp_repeat_ref (T := "tuple") (U := "int") (by decide) ⟨_, ho, rfl⟩ (fun s' => typeIs_int s' 1 t) noFill_tuple_mul F.fills_int_mul F.slot_int_rmul repeat_tuple F.slot_int_index.lookup
    (call_meets F.slot_int_rmul (typeIs_int s 1 t) F.entry_int_rmul (F.args_int_rmul_2 _ _) (int_rmul_tuple 1 t l its.toArray n dd sl)
      ⟨ho, rfl, ⟨_, ho, rfl⟩, call_meets F.slot_tuple_mul ⟨_, ho, rfl⟩ F.entry_tuple_mul (F.args_tuple_mul_2 _ _) (tuple_mul1 l its.toArray n dd sl t) ⟨ho, .ref l, H, I, rfl, q⟩⟩)
end L2
namespace L2
open PySem PySem.Spec PyProof.Rows
section
variable {X : Cx} {es : List Expr} {t : TA} {pos : Pos}
def tTupF (t : TA) : TE := fun σ H Q => t σ H fun xs H1 => xs.length ≤ sizeLine ∧ ∀ p o, H1 p = none → o.dict = none → Q (.ref p) (upd H1 p (.frz o (.tup xs)))
def rCatF (K : PySem.W.Frag) : R2 := fun x y H Q => ∃ a b xs ys, x = .ref a ∧ y = .ref b ∧ SqT K H a xs ∧ SqT K H b ys ∧ xs.length + ys.length ≤ sizeLine ∧
  (xs = [] → Q (.ref b) H) ∧ (xs ≠ [] → ys = [] → Q (.ref a) H) ∧ (xs ≠ [] → ys ≠ [] → ∀ p o, H p = none → o.dict = none → Q (.ref p) (upd H p (.frz o (.tup (xs ++ ys)))))
theorem op_catF : OpR X (binaryOp .Add) (rCatF X.K) := by
  intro pins s σ H x y v u Q I rx ry h
  obtain ⟨a, b, xs, ys, rfl, rfl, ha, hb, hz, q0, q1, q2⟩ := h
  cases rx
  cases ry
  obtain ⟨its, r1, p1, _⟩ := I.tuple ha
  obtain ⟨its2, r2, p2, _⟩ := I.tuple hb
  by_cases hx : xs = []
  · subst hx
    cases r1
    exact cat_tup0 p1 p2 ⟨.ref b, H, I, rfl, q0 rfl⟩
  · refine HT.cat_tup p1 p2 (fun z => hx (r1.nil_iff.mp z)) (fun z => ⟨.ref a, H, I, rfl, q1 hx (r2.nil_iff.mp z)⟩) (fun z => ?_) (by rw [← r1.length, ← r2.length]; exact hz)
    refine ⟨.ref s.heap.objs.size, _, I.laid (t' := s.toks) (o := .frz { cls := .type "tuple", data := .seq (its ++ its2).toArray } (.tup (xs ++ ys))) (fun b ob q => Heap.get?_push_of_some _ q) (Nat.le_refl _) ?_, rfl, q2 hx (fun w => z (r2.nil_iff.mpr w)) _ _ (I.hok.fresh (Nat.le_refl _)) rfl⟩
    exact ⟨Heap.get?_push_size _ rfl, by rw [List.length_append]; exact hz, _, r1.append r2, IsTup.new _ _⟩
def rRepF (K : PySem.W.Frag) : R2 := fun x y H Q => ∃ l k xs, x = .ref l ∧ y = .int k ∧ SqT K H l xs ∧ xs ≠ [] ∧ 1 ≤ k ∧ k ≤ 1000 ∧ xs.length ≤ 1000 ∧ (k = 1 → Q (.ref l) H) ∧ (2 ≤ k → ∀ p o, H p = none → o.dict = none → Q (.ref p) (upd H p (.frz o (.tup (List.replicate k.toNat xs).flatten))))
theorem op_repF : OpR X (binaryOp .Mult) (rRepF X.K) := by
  intro pins s σ H x y v u Q I rx ry h
  obtain ⟨l, k, xs, rfl, rfl, hT, hne, h1, h2, hz, q0, q⟩ := h
  by_cases hk : k = 1
  · subst hk
    exact op_repT1 pins s σ H _ _ v u Q I rx ry ⟨l, xs, rfl, rfl, hT, q0 rfl⟩
  have h1 : 2 ≤ k := by omega
  cases rx
  obtain ⟨t, rfl⟩ := ry
  obtain ⟨its, r, ⟨⟨cls, dd, data, sl⟩, ho, hc, n, hd⟩, hs⟩ := I.tuple hT
  simp only at hc hd
  subst hc hd
  have hle : its.length = xs.length := r.length.symm
  have hn : its ≠ [] := fun e => hne (by
    rw [e] at hle
    exact List.eq_nil_of_length_eq_zero hle.symm)
  have hi : its.toArray.isEmpty = false := by
    cases its with
    | nil => exact absurd rfl hn
    | cons a b => rfl
  have hsz0 : its.toArray.size = xs.length := by rw [List.size_toArray, hle]
  have hm : ((its.toArray.size : Nat) : Int) * k ≤ 1000000 := by
    rw [hsz0]
    have a1 : ((xs.length : Nat) : Int) * k ≤ 1000 * k := Int.mul_le_mul_of_nonneg_right (by omega) (by omega)
    omega
  have flen : (List.replicate k.toNat its).flatten.length ≤ sizeLine := by
    rw [PyProof.Rows.lm_len_rep_flat, hle, sizeLine_eq]
    have a1 : k.toNat * xs.length ≤ 1000 * 1000 := Nat.mul_le_mul (by omega) hz
    omega
  have c0 : (decide (k < -(2 ^ 63)) || decide (k ≥ 2 ^ 63)) = false := by
    rw [decide_eq_false (by omega), decide_eq_false (by omega)] <;> rfl
  have c1 : (its.toArray.isEmpty || k == 1) = false := by
    rw [hi, Bool.false_or]
    exact beq_eq_false_iff_ne.mpr (by omega)
  have c2 : (decide (k ≤ 0) || its.toArray.isEmpty) = false := by
    rw [hi, Bool.or_false]
    exact decide_eq_false (by omega)
  have c4 : Builtin.Tuple.tupleTooMany (((its.toArray.size : Nat) : Int) * k) = false := by
    unfold Builtin.Tuple.tupleTooMany
    rw [sizeLine_eq]
    exact decide_eq_false (by omega)
  refine wpAny_binaryOp_repeat_ref (T := "tuple") (U := "int") (by decide) ⟨_, ho, rfl⟩ (fun s' => typeIs_int s' k t) noFill_tuple_mul F.fills_int_mul F.slot_int_rmul repeat_tuple F.slot_int_index.lookup
    (call_meets F.slot_int_rmul (typeIs_int s k t) F.entry_int_rmul (F.args_int_rmul_2 _ _) (int_rmul_tuple k t l its.toArray n dd sl)
      ⟨ho, rfl, ⟨_, ho, rfl⟩, call_meets F.slot_tuple_mul ⟨_, ho, rfl⟩ F.entry_tuple_mul (F.args_tuple_mul_2 _ _) (tuple_mulW l its.toArray n dd sl k t c0 c1 c2 (by omega) c4 (by rw [size_rep, List.size_toArray]; exact flen)) ⟨ho, ?_⟩⟩)
  rw [size_rep]
  refine ⟨.ref s.heap.objs.size, _, I.laid (t' := s.toks) (o := .frz { cls := .type "tuple", data := .seq (List.replicate k.toNat its).flatten.toArray } (.tup (List.replicate k.toNat xs).flatten)) (fun b ob q => Heap.get?_push_of_some _ q) (Nat.le_refl _) ?_, rfl, q h1 _ _ (I.hok.fresh (Nat.le_refl _)) rfl⟩
  exact ⟨Heap.get?_push_size _ rfl, by rw [PyProof.Rows.lm_len_rep_flat, sizeLine_eq]; have a1 : k.toNat * xs.length ≤ 1000 * 1000 := Nat.mul_le_mul (by omega) hz; omega, _, r.rep k.toNat, IsTup.new _ _⟩
def PTK (K : PySem.W.Frag) (H : Hp) (a : Addr) : Prop := (∃ (o : Obj) (xs : List V), H a = some (.frz o (.tup xs)) ∧ o.dict = none) ∨ ∃ o : Obj, K.lookup a = some o ∧ o.cls = .type "tuple" ∧ o.dict = none
def tBMF (K : PySem.W.Frag) (r : V → List V → Hp → VK → Prop) (to : TE) (t : TA) : TE := fun σ H Q => to σ H fun x H1 => (∃ a, x = .ref a ∧ PTK K H1 a) ∧ t σ H1 fun xs H2 => r x xs H2 Q
variable {o e : Expr} {to : TE} {name : Str} {apos cpos : Pos} {id : String} {r : V → List V → Hp → VK → Prop}
end
end L2
namespace L2
open PySem PySem.Spec PyProof.Rows
def rSlF (K : PySem.W.Frag) : V → Option Int → Option Int → Hp → VK → Prop := fun x lo hi H Q => ∃ a xs, x = .ref a ∧ SqT K H a xs ∧
  (HT.sIx xs.length 0 lo = 0 ∧ HT.sIx xs.length xs.length hi = xs.length → Q (.ref a) H) ∧
  (¬ (HT.sIx xs.length 0 lo = 0 ∧ HT.sIx xs.length xs.length hi = xs.length) → ∀ p o, H p = none → o.dict = none → Q (.ref p) (upd H p (.frz o (.tup (cutV xs lo hi)))))
theorem sl_tupF {X : Cx} : SlR X (rSlF X.K) := by
  intro pins s σ H x v vl vu lo hi sl Q I rx hsl pl pu hq
  obtain ⟨a, xs, rfl, hx, q1, q2⟩ := hq
  by_cases hw : HT.sIx xs.length 0 lo = 0 ∧ HT.sIx xs.length xs.length hi = xs.length
  · exact sl_tupA pins s σ H _ v vl vu lo hi sl Q I rx hsl pl pu ⟨a, xs, rfl, hx, q1, fun z => absurd hw z⟩
  · cases rx
    obtain ⟨its, rv, tu, lz⟩ := I.tuple hx
    have ln : its.toArray.size = xs.length := by rw [List.size_toArray]; exact rv.length.symm
    refine ⟨"tuple", _, slot_tuple_getitem.lookup, tu.typeIs, ?_⟩
    refine HT.getItem_tuple_cut tu hsl pl pu (by rw [ln]; exact hw) ?_ (by rw [ln]; exact lz)
    rw [ln]
    have new : ∀ ar : Array Value, ar = ((its.drop (HT.sIx xs.length 0 lo)).take (HT.sIx xs.length xs.length hi - HT.sIx xs.length 0 lo)).toArray → EP X pins σ Q (.ref s.heap.objs.size) { s with heap := s.heap.push { cls := .type "tuple", data := .seq ar } } := fun ar er => by
      subst er
      refine ⟨.ref s.heap.objs.size, _, I.laid (t' := s.toks) (o := .frz { cls := .type "tuple", data := .seq ((its.drop (HT.sIx xs.length 0 lo)).take (HT.sIx xs.length xs.length hi - HT.sIx xs.length 0 lo)).toArray } (.tup (cutV xs lo hi))) (fun b ob q => Heap.get?_push_of_some _ q) (Nat.le_refl _) ?_, rfl, q2 hw _ _ (I.hok.fresh (Nat.le_refl _)) rfl⟩
      exact ⟨Heap.get?_push_size _ rfl, Nat.le_trans (cutV_length xs lo hi) lz, _, (rv.drop _).take _, IsTup.new _ _⟩
    exact new _ rfl
theorem call_tupleF {X : Cx} : CallR X (.type "tuple") (fun xs H Q => ∃ p ys, xs = [.ref p] ∧ ((SqL X.K H p ys ∧ ∀ l o, H l = none → o.dict = none → Q (.ref l) (upd H l (.frz o (.tup ys)))) ∨ (SqT X.K H p ys ∧ Q (.ref p) H))) := by
  intro pins s σ H xs us Q I rv hq
  obtain ⟨p, ys, rfl, ⟨hs, q⟩ | ⟨hs, q⟩⟩ := hq
  · obtain ⟨u, rfl, ru⟩ := vals1 rv
    cases ru
    obtain ⟨its, r1, pl, lz⟩ := I.list hs
    have hl := r1.length
    refine PySem.call_tuple_list pl.isList (fun h' kp => ?_) (by rw [List.size_toArray, ← hl]; exact lz)
    have I1 : Inv X pins σ H { s with heap := h' } := I.kept (t' := s.toks) kp
    refine ⟨.ref h'.objs.size, _, I1.laid (t' := s.toks) (o := .frz { cls := .type "tuple", data := .seq its.toArray } (.tup ys)) (fun b u e => Heap.get?_push_of_some _ e) (Nat.le_refl _) ?_, rfl, q _ _ (I1.hok.fresh (Nat.le_refl _)) rfl⟩
    exact ⟨Heap.get?_push_size _ rfl, lz, its, r1, IsTup.new _ _⟩
  · exact call_tuple_of pins s σ H _ us Q I rv ⟨p, ys, rfl, .inr ⟨hs, q⟩⟩
def SqM (K : PySem.W.Frag) (k : Bool) (H : Hp) (a : Addr) (xs : List V) : Prop := match k with
  | true => SqL K H a xs
  | false => SqT K H a xs
def ItM (k : Bool) (h : Heap) (it a : Addr) (i : Nat) : Prop := match k with
  | true => h.IsListIter it a i
  | false => h.IsTupleIter it a i
def IsM (k : Bool) (h : Heap) (a : Addr) (its : Array Value) : Prop := match k with
  | true => h.IsList a its
  | false => h.IsTuple a its
def itO (k : Bool) (a : Addr) : Obj := match k with
  | true => { cls := .type "list_iterator", data := .fields #[.ref a, .int 0 0] }
  | false => { cls := .type "tuple_iterator", data := .fields #[.ref a, .int 0 0] }
theorem itM_new {k : Bool} {h : Heap} {it a : Addr} (e : h.get? it = some (itO k a)) : ItM k h it a 0 := by
  cases k <;> exact ⟨_, e, rfl, rfl⟩
theorem itM_at {k : Bool} {h h' : Heap} {it a : Addr} {i : Nat} (st : ItM k h it a i) (kp : ∀ o, h.get? it = some o → h'.get? it = some o) : ItM k h' it a i := by
  cases k <;> obtain ⟨o, e, r⟩ := st <;> exact ⟨o, kp o e, r⟩
theorem itM_obj {k : Bool} {h : Heap} {it a : Addr} {i : Nat} (st : ItM k h it a i) : ∃ o, h.get? it = some o ∧ ∀ v, o.data ≠ .cell v := by
  cases k <;> obtain ⟨o, e, _, d⟩ := st <;> exact ⟨o, e, fun v z => by rw [d] at z; cases z⟩
theorem draws_m {P : Program} {w : World} {A : Around} (hh : A.handled = none) (k : Bool) (it l : Addr) (ne : l ≠ it) (its : Array Value) :
    Draws P w A it [it, l] its.size (fun i v => its[i]? = some v) (fun i h => ItM k h it l i ∧ IsM k h l its) := by
  cases k
  · exact Draws.tuple hh it l ne its
  · exact Draws.list hh it l ne its
theorem begins_m (k : Bool) (l : Addr) (its : Array Value) : Begins (.ref l) (itO k l) (fun h => IsM k h l its) := by
  cases k
  · exact begins_tuple l its
  · exact begins_list l its
theorem draws_z {P : Program} {w : World} {A : Around} (hh : A.handled = none) (k : Bool) (it l : Addr) (its : Array Value) (i : Nat) (hle : its.size ≤ i) :
    Draws P w A it [it, l] i (fun _ _ => False) (fun j h => j = i ∧ ItM k h it l i ∧ IsM k h l its) where
  live := fun _ _ st => let ⟨o, e, _⟩ := itM_obj st.2.1; ⟨o, e⟩
  frame := fun _ _ _ st kp => ⟨st.1, itM_at st.2.1 fun o e => kp it (by simp) o e, by
    have := st.2.2
    cases k
    · exact Heap.IsTuple.at this fun o e => kp l (by simp) o e
    · exact Heap.IsList.at this fun o e => kp l (by simp) o e⟩
  item := fun j s Q E lt st _ => absurd st.1 (Nat.ne_of_lt lt)
  done := fun s Q E st hE => by
    obtain ⟨_, a, b⟩ := st
    cases k
    · exact wpAny_nextOf_tuple_end hh a b (by simp [hle]) hE
    · exact wpAny_nextOf_list_end hh a b (by simp [hle]) hE
theorem draws_at {P : Program} {w : World} {A : Around} (hh : A.handled = none) (k : Bool) (it l : Addr) (ne : l ≠ it) (its : Array Value) (i : Nat) :
    ∃ (n : Nat) (R : Nat → Value → Prop) (St : Nat → Heap → Prop), Draws P w A it [it, l] n R St ∧ (∀ h, ItM k h it l i → IsM k h l its → St i h) ∧ i ≤ n ∧ (its.size ≤ i → i = n) := by
  by_cases h : its.size ≤ i
  · exact ⟨_, _, _, draws_z hh k it l its i h, fun _ a b => ⟨rfl, a, b⟩, Nat.le_refl _, fun _ => rfl⟩
  · exact ⟨_, _, _, draws_m hh k it l ne its, fun _ a b => ⟨a, b⟩, by omega, fun z => absurd z h⟩
section
variable {X : Cx} {pins : List (Addr × Obj)} {σ : St} {H : Hp} {s : Shared} {a : Addr} {xs ys : List V} {k : Bool}
theorem seqM (I : Inv X pins σ H s) (h : SqM X.K k H a xs) : ∃ its : List Value, Vals xs its ∧ IsM k s.heap a its.toArray := by
  cases k
  · obtain ⟨its, r, p, _⟩ := I.tuple h
    exact ⟨its, r, p⟩
  · obtain ⟨its, r, p, _⟩ := I.list h
    exact ⟨its, r, p.isList⟩
theorem seqM_inj (I : Inv X pins σ H s) (h : SqM X.K k H a xs) (h2 : SqM X.K k H a ys) : xs = ys := by
  cases k
  · exact I.tuple_inj h h2
  · exact I.list_inj h h2
theorem isM_lt {h : Heap} {its : Array Value} (p : IsM k h a its) : a < h.objs.size := by
  cases k <;> obtain ⟨o, e, _⟩ := p <;> exact Heap.lt_size e
end
def IteM (K : PySem.W.Frag) (k : Bool) (a : Addr) : It :=
  ⟨fun i H => ∃ (xs : List V) (x : V), SqM K k H a xs ∧ xs[i]? = some x,
    fun i H v H' => ∃ (T : Addr) (o : Obj) (x : V), v = .ref T ∧ H T = none ∧ o.dict = none ∧ H' = upd H T (.frz o (.tup [.int (i : Nat), x])) ∧ ∀ xs, SqM K k H a xs → xs[i]? = some x,
    fun i H => ∃ xs : List V, SqM K k H a xs ∧ xs.length ≤ i⟩
def EnS (k : Bool) (a e it : Addr) (i : Nat) (h : Heap) : Prop := (∃ old, IsEnum h e it ((i : Nat) : Int) old) ∧ ItM k h it a i
theorem turn_enumM {P : Program} {w : World} {K : PySem.W.Frag} {elts : List Expr} {kk : Nat} {tpos : Pos} (k : Bool) {a e it : Addr} (n1 : e ≠ it) (n2 : e ≠ a) (n3 : a ≠ it) :
    Turn P w K (.Tuple elts kk tpos) (IteM K k a) [e, it] e (EnS k a e it) where
  mem := by simp
  obj := fun i h ⟨⟨old, he⟩, hi⟩ b hb => by
    rcases (show b = e ∨ b = it by simpa using hb) with rfl | rfl
    · exact ⟨_, he, fun v z => nomatch z⟩
    · exact itM_obj hi
  keep := fun i h h' ⟨⟨old, he⟩, hi⟩ kp => ⟨⟨old, kp e (by simp) _ he⟩, itM_at hi fun o z => kp it (by simp) o z⟩
  item := by
    intro X hP hw hK hc i pins s σ H E I hf ⟨⟨old, he⟩, hit⟩ ⟨xs, x, hq, hx⟩
    subst hP hw hK
    obtain ⟨its, rv, p⟩ := seqM I hq
    obtain ⟨u, hu, ru⟩ := rv.get hx
    have lt : i < its.toArray.size := by
      have := (List.getElem?_eq_some_iff.mp hu).1
      rw [List.size_toArray]; exact this
    have hel : e < s.heap.objs.size := Heap.lt_size he
    have hil : it < s.heap.objs.size := by obtain ⟨o, z, _⟩ := itM_obj hit; exact Heap.lt_size z
    refine wpAny_pyNext_enum_itemD (draws_m (A := X.A.in1) (I.ok.hd hc) k it a n3 its.toArray) he ⟨hit, p⟩ lt n1 (by simp [n1, n2]) fun y h' tk hy ho st' hT hz hk => ?_
    have ey : y = u := by
      rw [List.getElem?_toArray, hu] at hy; cases hy; rfl
    subst ey
    refine ⟨_, rfl, wpAny_letOwnedTupleGo_enum (s := { s with heap := h', toks := tk + 1 }) ho fun h2 he2 sb => ?_⟩
    have g : h2.get? s.heap.objs.size = some { cls := .type "tuple", data := .seq #[.int i tk, y] } := (sb.2 _ (Nat.ne_of_gt hel)).trans hT
    let ob : HO := .frz { cls := .type "tuple", data := .seq #[.int i tk, y] } (.tup [.int (i : Nat), x])
    have new : ObjOk X.prog X.w (upd H s.heap.objs.size ob) h2 s.heap.objs.size ob := ⟨g, by show 2 ≤ sizeLine; decide, [.int i tk, y], .cons ⟨_, rfl⟩ (.cons ru .nil), _, g, rfl, _, rfl⟩
    have I1 : Inv X pins σ (upd H s.heap.objs.size ob) { s with heap := h2, toks := tk + 1 } := I.turnedNew (ch := [e, it]) (fun b o nb z => (sb.2 b fun q => nb (by simp [q])).trans (hk b o (fun q => nb (by simp [q])) (fun q => nb (by simp [q])) z)) hf (Nat.le_refl _) new
    refine ⟨.ref s.heap.objs.size, _, I1, rfl, ⟨_, _, x, rfl, I.hok.fresh (Nat.le_refl _), rfl, rfl, fun zs hzs => by rw [seqM_inj I hzs hq]; exact hx⟩, ⟨⟨y, ?_⟩, itM_at st'.1 fun o z => (sb.2 it (Ne.symm n1)).trans z⟩, fun b hb => ?_⟩
    · rw [show ((i + 1 : Nat) : Int) = (i : Int) + 1 by omega]; exact he2
    · have : b ≠ s.heap.objs.size := by
        rcases (show b = e ∨ b = it by simpa using hb) with rfl | rfl
        · exact Nat.ne_of_lt hel
        · exact Nat.ne_of_lt hil
      rw [upd_ne this]; exact (hf b hb).1
  done := by
    intro X hP hw hK hc i pins s σ H E I hf ⟨⟨old, he⟩, hit⟩ ⟨xs, hq, hle⟩
    subst hP hw hK
    obtain ⟨its, rv, p⟩ := seqM I hq
    obtain ⟨n, R, St, D, h1, h2, h3⟩ := draws_at (P := X.prog) (w := X.w) (A := X.A.in1) (I.ok.hd hc) k it a n3 its.toArray i
    have e0 : i = n := h3 (by rw [List.size_toArray, ← rv.length]; exact hle)
    obtain ⟨f0, f1, f2, f3, f4, f5⟩ := hf it (by simp)
    exact wpAny_pyNext_enum_endD D he (by rw [← e0]; exact h1 _ hit p) fun h' eb => ⟨rfl, I.turned (t' := s.toks) (fun b o hb z => eb b o hb z) f0 f1 f3 f4 f5⟩
  self := fun A i s Q E ⟨⟨_, he⟩, _⟩ h => wpAny_pyIter_enum he h
theorem meets_enumB {v : Value} {o : Obj} {Hv : Heap → Prop} (B : Begins v o Hv) :
    Meets (Builtin.«enumerate.__new__» ⟨[.type "enumerate", v], []⟩) (fun _ R s => Hv s.heap ∧
      R (.ok (.ret (.ref (s.heap.push o).objs.size))) { s with heap := (s.heap.push o).push { cls := .type "enumerate", data := .fields #[.none, .bool false, .ref s.heap.objs.size, rawInt 0, .none, .none] } }) :=
  .of_wp fun prog w A R s hq => by
    obtain ⟨hp, g, d, tk, os⟩ := s
    obtain ⟨hv, hq⟩ := hq
    have hsub := sub_enumerate
    have go : ∀ {A2 : Around} {E2 : Value → Shared → Prop} {Q2 : Value → Shared → Prop}, Q2 (.ref hp.objs.size) ⟨hp.push o, g, d, tk, os⟩ → wpAny (model prog w) A2 (pyIter v) Q2 E2 ⟨hp, g, d, tk, os⟩ :=
      fun q => B.iter prog w _ _ ⟨hp, g, d, tk, os⟩ _ hv q
    wp_walk using go
    refine wpAny_stack_any fun st => wpAny_pure ?_
    split
    · rename_i c _ _ _ _ _
      cases (c == Value.type "enumerate") <;>
      (wp_walk using go
       exact ⟨_, rfl, hq⟩)
    · wp_walk using go
      exact ⟨_, rfl, hq⟩
theorem call_enumM {P : Program} {w : World} {A : Around} {E : Value → Shared → Prop} {s : Shared} {k : Bool} {l : Addr} {its : Array Value} {Q : Value → Shared → Prop} (p : IsM k s.heap l its)
    (hq : ∀ h', EnS k l (s.heap.objs.size + 1) s.heap.objs.size 0 h' → (∀ b o, s.heap.get? b = some o → h'.get? b = some o) → Q (.ref (s.heap.objs.size + 1)) { s with heap := h' }) :
    wpAny (model P w) A (call (.type "enumerate") [.ref l]) Q E s := by
  refine callType_new F.called_enumerate (by decide) (F.typeCall_enumerate_1 _) (F.newCall_enumerate_1 _) (fun obj => F.args_object_init_2 obj _) F.entry_enumerate_new (meets_enumB (begins_m k l its)) ⟨p, ?_⟩
  have hz : (s.heap.push (itO k l)).objs.size = s.heap.objs.size + 1 := Heap.size_push ..
  show _ ∧ _
  rw [hz]
  have he := Heap.get?_push_size (s.heap.push (itO k l)) (o := { cls := .type "enumerate", data := .fields #[.none, .bool false, .ref s.heap.objs.size, rawInt 0, .none, .none] }) rfl
  rw [hz] at he
  have fr : (itO k l).isFreed = false := by cases k <;> rfl
  exact ⟨⟨_, he, rfl⟩, hq _ ⟨⟨_, he⟩, itM_new (Heap.get?_push_of_some _ (Heap.get?_push_size _ fr))⟩ fun b o z => Heap.get?_push_of_some _ (Heap.get?_push_of_some _ z)⟩
def iEnumM (K : PySem.W.Frag) (ta : TA) : TI := fun σ H R => ta σ H fun vs H1 => ∃ k a xs, vs = [.ref a] ∧ SqM K k H1 a xs ∧ R (IteM K k a) H1
theorem pi_enumM {X : Cx} {e : Expr} {ta : TA} {p pos tpos : Pos} {elts : List Expr} {kk : Nat} (hg : Gl X "enumerate") (hm : X.mg "enumerate" = none) (ha : PA X [e] ta) (hs : starEach [e] X.env = [(false, eval e X.env)] := by rfl) :
    PI X (.Tuple elts kk tpos) (.Call (.Name "enumerate" p) [e] [] pos) (iEnumM X.K ta) := by
  refine ⟨fun pins s σ H R I hq => Call_ (ld_blt I hg hm boot_enumerate (callWith_type1 (thn (ha.run pos pins s σ H _ I hq) fun us s1 ⟨vs, H1, I1, r1, k, a, xs, ex, hs1, q⟩ => ?_) hs rfl))⟩
  subst ex
  obtain ⟨u, rfl, ru⟩ := vals1 r1
  cases ru
  obtain ⟨its, rv, pm⟩ := seqM I1 hs1
  have lt := isM_lt pm
  refine call_enumM pm fun h' st kp => wpAny_pyIter_enum st.1.choose_spec ?_
  have I2 : Inv X pins σ H1 { s1 with heap := h' } := I1.kept (t' := s1.toks) kp
  refine ⟨_, [s1.heap.objs.size + 1, s1.heap.objs.size], _, _, H1, rfl, I2, turn_enumM k (Nat.succ_ne_self _) (Nat.ne_of_gt (Nat.lt_succ_of_lt lt)) (Nat.ne_of_lt lt), st, fun b hb => ?_, q⟩
  have hle : s1.heap.objs.size ≤ b := by
    rcases (show b = s1.heap.objs.size + 1 ∨ b = s1.heap.objs.size by simpa using hb) with rfl | rfl
    · exact Nat.le_succ _
    · exact Nat.le_refl _
  exact I1.fpOk hle (I1.hok.fresh hle)
def ItzM (K : PySem.W.Frag) (k1 k2 : Bool) (a b : Addr) : It :=
  ⟨fun i H => ∃ (xs ys : List V) (x y : V), SqM K k1 H a xs ∧ SqM K k2 H b ys ∧ xs[i]? = some x ∧ ys[i]? = some y,
    fun i H v H' => ∃ (T : Addr) (o : Obj) (x y : V), v = .ref T ∧ H T = none ∧ o.dict = none ∧ H' = upd H T (.frz o (.tup [x, y])) ∧ (∀ xs, SqM K k1 H a xs → xs[i]? = some x) ∧ ∀ ys, SqM K k2 H b ys → ys[i]? = some y,
    fun i H => ∃ xs ys : List V, SqM K k1 H a xs ∧ SqM K k2 H b ys ∧ (xs.length ≤ i ∨ ys.length ≤ i)⟩
def ZpS (k1 k2 : Bool) (a b : Addr) (n : Nat) (i : Nat) (h : Heap) : Prop := IsZip h (n + 4) (n + 2) (n + 3) .none ∧ IsTupOf2 h (n + 2) (.ref n) (.ref (n + 1)) ∧ (∃ x y, IsTupOf2 h (n + 3) x y) ∧ ItM k1 h n a i ∧ ItM k2 h (n + 1) b i
theorem five {n b : Nat} (h : b ∈ [n + 4, n + 2, n + 3, n, n + 1]) : b = n + 4 ∨ b = n + 2 ∨ b = n + 3 ∨ b = n ∨ b = n + 1 := by simpa using h
theorem apn {a n : Nat} (h : a < n) (j : Nat) : ¬ n + j = a := by omega
theorem ap0 {a n : Nat} (h : a < n) : ¬ n = a := by omega
theorem turn_zipM {P : Program} {w : World} {K : PySem.W.Frag} {elts : List Expr} {kk : Nat} {tpos : Pos} (k1 k2 : Bool) {a b : Addr} (n : Nat) (la : a < n) (lb : b < n) :
    Turn P w K (.Tuple elts kk tpos) (ItzM K k1 k2 a b) [n + 4, n + 2, n + 3, n, n + 1] (n + 4) (ZpS k1 k2 a b n) := by
  have S : ZipSep2 (n + 4) (n + 2) (n + 3) n (n + 1) [n, a] [n + 1, b] := by
    constructor <;> first | (simp; done) | (simp; first | exact apn la 4 | exact apn la 3 | exact apn la 1 | exact apn lb 4 | exact apn lb 3 | exact ap0 lb)
  constructor
  case mem => simp
  case obj =>
    intro i h ⟨hz, hT, ⟨x, y, hO⟩, h1, h2⟩ c hc
    rcases five hc with rfl | rfl | rfl | rfl | rfl
    · exact ⟨_, hz, fun v z => nomatch z⟩
    · exact ⟨_, hT, fun v z => nomatch z⟩
    · exact ⟨_, hO, fun v z => nomatch z⟩
    · exact itM_obj h1
    · exact itM_obj h2
  case keep =>
    intro i h h' ⟨hz, hT, ⟨x, y, hO⟩, h1, h2⟩ kp
    exact ⟨kp _ (by simp) _ hz, kp _ (by simp) _ hT, ⟨x, y, kp _ (by simp) _ hO⟩, itM_at h1 fun o z => kp _ (by simp) o z, itM_at h2 fun o z => kp _ (by simp) o z⟩
  case item =>
    intro X hP hw hK hc i pins s σ H E I hf ⟨hz, hT, ⟨x0, y0, hO⟩, h1, h2⟩ ⟨xs, ys, x, y, hq1, hq2, hx, hy⟩
    subst hP hw hK
    obtain ⟨its, rv, p⟩ := seqM I hq1
    obtain ⟨its2, rv2, p2⟩ := seqM I hq2
    obtain ⟨u, hu, ru⟩ := rv.get hx
    obtain ⟨u2, hu2, ru2⟩ := rv2.get hy
    have l1 : i < its.toArray.size := by
      have := (List.getElem?_eq_some_iff.mp hu).1
      rw [List.size_toArray]; exact this
    have l2 : i < its2.toArray.size := by
      have := (List.getElem?_eq_some_iff.mp hu2).1
      rw [List.size_toArray]; exact this
    have hzl : n + 4 < s.heap.objs.size := Heap.lt_size hz
    refine wpAny_pyNext_zipD2_item S (draws_m (A := X.A.in1) (I.ok.hd hc) k1 n a (Nat.ne_of_lt la) its.toArray) (draws_m (A := X.A.in1) (I.ok.hd hc) k2 (n + 1) b (Nat.ne_of_lt (Nat.lt_succ_of_lt lb)) its2.toArray) hz hT hO ⟨h1, p⟩ ⟨h2, p2⟩ l1 l2 fun v1 v2 h' tk hv1 hv2 hz' hO' st1 st2 hN hsz hk => ?_
    have e1 : v1 = u := by
      rw [List.getElem?_toArray, hu] at hv1; cases hv1; rfl
    have e2 : v2 = u2 := by
      rw [List.getElem?_toArray, hu2] at hv2; cases hv2; rfl
    subst e1 e2
    refine ⟨_, rfl, wpAny_letOwnedTupleGo_zip (s := { s with heap := h', toks := tk }) hz' fun h3 hz3 sb => ?_⟩
    have g : h3.get? s.heap.objs.size = some { cls := .type "tuple", data := .seq #[v1, v2] } := (sb.2 _ (Nat.ne_of_gt hzl)).trans hN
    let ob : HO := .frz { cls := .type "tuple", data := .seq #[v1, v2] } (.tup [x, y])
    have new : ObjOk X.prog X.w (upd H s.heap.objs.size ob) h3 s.heap.objs.size ob := ⟨g, by show 2 ≤ sizeLine; decide, [v1, v2], .cons ru (.cons ru2 .nil), _, g, rfl, _, rfl⟩
    have I1 : Inv X pins σ (upd H s.heap.objs.size ob) { s with heap := h3, toks := tk } := I.turnedNew (ch := [n + 4, n + 2, n + 3, n, n + 1]) (fun c o nb z => (sb.2 c fun q => nb (by simp [q])).trans (hk c o (fun q => nb (by simp [q])) (fun q => nb (by simp [q])) (fun q => nb (by simp [q])) (fun q => nb (by simp [q])) z)) hf (Nat.le_refl _) new
    refine ⟨.ref s.heap.objs.size, _, I1, rfl, ⟨_, _, x, y, rfl, I.hok.fresh (Nat.le_refl _), rfl, rfl, fun zs hzs => by rw [seqM_inj I hzs hq1]; exact hx, fun zs hzs => by rw [seqM_inj I hzs hq2]; exact hy⟩, ⟨hz3, ?_, ⟨v1, v2, ?_⟩, ?_, ?_⟩, fun c hcm => ?_⟩
    · exact (sb.2 _ S.TIz).trans (hk _ _ S.TIz S.TITO S.TIi1 S.TIi2 hT)
    · exact (sb.2 _ S.TOz).trans hO'
    · exact itM_at st1.1 fun o z => (sb.2 _ (Ne.symm S.zi1)).trans z
    · exact itM_at st2.1 fun o z => (sb.2 _ (Ne.symm S.zi2)).trans z
    · have : c ≠ s.heap.objs.size := by rcases five hcm with rfl | rfl | rfl | rfl | rfl <;> exact Nat.ne_of_lt (by omega)
      rw [upd_ne this]; exact (hf c hcm).1
  case done =>
    intro X hP hw hK hc i pins s σ H E I hf ⟨hz, hT, ⟨x0, y0, hO⟩, h1, h2⟩ ⟨xs, ys, hq1, hq2, hend⟩
    subst hP hw hK
    obtain ⟨its, rv, p⟩ := seqM I hq1
    obtain ⟨its2, rv2, p2⟩ := seqM I hq2
    obtain ⟨n1, R1, St1, D1, a1, b1, c1⟩ := draws_at (P := X.prog) (w := X.w) (A := X.A.in1) (I.ok.hd hc) k1 n a (Nat.ne_of_lt la) its.toArray i
    obtain ⟨n2, R2, St2, D2, a2, b2, c2⟩ := draws_at (P := X.prog) (w := X.w) (A := X.A.in1) (I.ok.hd hc) k2 (n + 1) b (Nat.ne_of_lt (Nat.lt_succ_of_lt lb)) its2.toArray i
    refine wpAny_pyNext_zipD2_end S D1 D2 hz hT hO (a1 _ h1 p) (a2 _ h2 p2) b1 b2 ?_ fun h' tk hk => ⟨rfl, I.turnedL (ch := [n + 4, n + 2, n + 3, n, n + 1]) (fun c o nb z => hk c o (fun q => nb (by simp [q])) (fun q => nb (by simp [q])) (fun q => nb (by simp [q])) (fun q => nb (by simp [q])) z) hf⟩
    rcases hend with z | z
    · exact .inl (c1 (by rw [List.size_toArray, ← rv.length]; exact z))
    · exact .inr (c2 (by rw [List.size_toArray, ← rv2.length]; exact z))
  case self => exact fun A i s Q E st h => wpAny_pyIter_zip st.1 h
def iZipM (K : PySem.W.Frag) (ta : TA) : TI := fun σ H R => ta σ H fun vs H1 => ∃ k1 k2 a b xs ys, vs = [.ref a, .ref b] ∧ SqM K k1 H1 a xs ∧ SqM K k2 H1 b ys ∧ R (ItzM K k1 k2 a b) H1
theorem pi_zipM {X : Cx} {e e2 : Expr} {ta : TA} {p pos tpos : Pos} {elts : List Expr} {kk : Nat} (hg : Gl X "zip") (hm : X.mg "zip" = none) (ha : PA X [e, e2] ta)
    (hs : starEach [e, e2] X.env = (false, eval e X.env) :: starEach [e2] X.env := by rfl) (hpl : (backTo pos (starEach [e2] X.env)).any (·.1) = false := by rfl) : PI X (.Tuple elts kk tpos) (.Call (.Name "zip" p) [e, e2] [] pos) (iZipM X.K ta) := by
  refine ⟨fun pins s σ H R I hq => Call_ (ld_blt I hg hm boot_zip (callWith_type1 (thn (ha.run pos pins s σ H _ I hq) fun us s1 ⟨vs, H1, I1, r1, k1, k2, a, b, xs, ys, ex, h1, h2, q⟩ => ?_) hs hpl))⟩
  subst ex
  obtain ⟨u, v, rfl, ru, rv⟩ := vals2 r1
  cases ru
  cases rv
  obtain ⟨its, rv, p1⟩ := seqM I1 h1
  obtain ⟨its2, rv2, p2⟩ := seqM I1 h2
  refine zip_begins2 (begins_m k1 a its.toArray) (begins_m k2 b its2.toArray) p1 p2 fun h' hz hT hO g1 g2 hsz kp => wpAny_pyIter_zip hz ?_
  have I2 : Inv X pins σ H1 { s1 with heap := h' } := I1.kept (t' := s1.toks) kp
  refine ⟨_, [s1.heap.objs.size + 4, s1.heap.objs.size + 2, s1.heap.objs.size + 3, s1.heap.objs.size, s1.heap.objs.size + 1], _, _, H1, rfl, I2, turn_zipM k1 k2 s1.heap.objs.size (isM_lt p1) (isM_lt p2), ⟨hz, hT, ⟨_, _, hO⟩, itM_new g1, itM_new g2⟩, fun c hc => ?_, q⟩
  have hle : s1.heap.objs.size ≤ c := by rcases five hc with rfl | rfl | rfl | rfl | rfl <;> omega
  exact I1.fpOk hle (I1.hok.fresh hle)
end L2
namespace Ds
open PySem L2
abbrev D := PyData
def kD : Key → D
  | .inl i => .int i
  | .inr x => .str x
def KL (K : PySem.W.Frag) (a : Addr) (xs : List V) : Prop :=
  ∃ (o : Obj) (its : Array Value) (n : Nat), K.lookup a = some o ∧ o.cls = .type "list" ∧ o.dict = none ∧ o.data = .seq its n ∧ its.size ≤ sizeLine ∧ Vals xs its.toList
def KT (K : PySem.W.Frag) (a : Addr) (xs : List V) : Prop :=
  ∃ (o : Obj) (its : Array Value) (n : Nat), K.lookup a = some o ∧ o.cls = .type "tuple" ∧ o.data = .seq its n ∧ its.size ≤ sizeLine ∧ Vals xs its.toList ∧ o.dict = none
def TPl (H : Hp) (a : Addr) (xs : List V) : Prop := ∃ o : Obj, H a = some (.frz o (.tup xs)) ∧ o.dict = none
theorem TPl.rd {H : Hp} {a : Addr} {xs : List V} (h : TPl H a xs) : Rd H a (.tup xs) := let ⟨o, e, _⟩ := h; .inr ⟨o, e⟩
def SB (K : PySem.W.Frag) (B : Addr → Prop) (H : Hp) (a : Addr) (xs : List V) : Prop := ((∃ o, H a = some (.frz o (.lst xs))) ∧ ¬ B a) ∨ KL K a xs
def TB (K : PySem.W.Frag) (B : Addr → Prop) (H : Hp) (a : Addr) (xs : List V) : Prop := (TPl H a xs ∧ ¬ B a) ∨ KT K a xs
theorem SB.sq {K B H a xs} (h : SB K B H a xs) : SqL K H a xs := h.elim (fun x => .inl (.inr x.1)) .inr
theorem TB.sq {K B H a xs} (h : TB K B H a xs) : SqT K H a xs := h.elim (fun x => .inl x.1.rd) fun ⟨o, its, n, a, b, c, d, e, _⟩ => .inr ⟨o, its, n, a, b, c, d, e⟩
mutual
inductive DIs (K : PySem.W.Frag) (B : Addr → Prop) (H : Hp) : D → V → Prop
  | none : DIs K B H .none .non
  | bool (b : Bool) : DIs K B H (.bool b) (.bl b)
  | int (i : Int) : DIs K B H (.int i) (.int i)
  | str (x : Str) : DIs K B H (.str x) (.str x)
  | list {a : Addr} {vs : List V} {ds : List D} : H a = some (.lst vs) → ¬ B a → DIsL K B H ds vs → DIs K B H (.list ds) (.ref a)
  | tuple {a : Addr} {vs : List V} {ds : List D} : TB K B H a vs → DIsL K B H ds vs → DIs K B H (.tuple ds) (.ref a)
  | dict {a : Addr} {kvs : List (Key × V)} {ds : List D} {ps : List (D × D)} : H a = some (.dK kvs) → ¬ B a → DIsL K B H ds (kvs.map (·.2)) → ps = (kvs.map fun p => kD p.1).zip ds → DIs K B H (.dict ps) (.ref a)
inductive DIsL (K : PySem.W.Frag) (B : Addr → Prop) (H : Hp) : List D → List V → Prop
  | nil : DIsL K B H [] []
  | cons {d : D} {v : V} {ds : List D} {vs : List V} : DIs K B H d v → DIsL K B H ds vs → DIsL K B H (d :: ds) (v :: vs)
end
structure Exn where
  cls : Str
  fs : Option (List (Str × D))
def ExcO (cls : Value) (d : Option Addr) (a : Addr) : HO := .ext fun h => ∃ (oe : Obj) (vs : Array Value), h.get? a = some oe ∧ Zc cls d oe ∧ oe.data = .fields vs
def XF (K : PySem.W.Frag) (B : Addr → Prop) (H : Hp) (d : Option Addr) : Option (List (Str × D)) → Prop
  | none => d = none
  | some fs => ∃ dx fv, d = some dx ∧ H dx = some (.xd fv) ∧ ¬ B dx ∧ fv.map (·.1) = fs.map (·.1) ∧ DIsL K B H (fs.map (·.2)) (fv.map (·.2))
def XB (K : PySem.W.Frag) (B : Addr → Prop) (H : Hp) (a : Addr) (ex : Exn) : Prop := ∃ cls d, PySem.W.nsIn K mainGlobals ex.cls = some (some cls) ∧ H a = some (ExcO cls d a) ∧ ¬ B a ∧ XF K B H d ex.fs
abbrev MKey := Int × List Int
def mkD (k : MKey) : D := .tuple [.int k.1, .tuple (k.2.map .int)]
def mhash (k : MKey) : Int := reduceHash (Builtin.Tuple.tupleHashOf [hashInt k.1, reduceHash (Builtin.Tuple.tupleHashOf (k.2.map hashInt))])
def memE (x : MKey × Addr × Value) : DictEntry := ⟨mhash x.1, .ref x.2.1, x.2.2⟩
def MemP (a : Addr) (xs : List (MKey × Addr × Value)) (h : Heap) : Prop := (a == sysModules) = false ∧ xs.length ≤ sizeLine ∧ (xs.map (·.1)).Nodup ∧ ∃ o es ep, h.get? a = some o ∧ o.ExactDict ∧ o.data = .dict es ep ∧ es.toList = xs.map memE
def MemO (a : Addr) (xs : List (MKey × Addr × Value)) : HO := .ext (MemP a xs)
def MemL (K : PySem.W.Frag) (B : Addr → Prop) (H : Hp) : List (MKey × Int) → List (MKey × Addr × Value) → Prop
  | [], [] => True
  | e :: es, x :: xs => (x.1 = e.1 ∧ (∃ t, x.2.2 = .int e.2 t) ∧ DIs K B H (mkD e.1) (.ref x.2.1)) ∧ MemL K B H es xs
  | _, _ => False
def insC : Nat → Str × List Str
  | 0 => ("Moment", ["before", "later", "parts", "zeros_now"])
  | 1 => ("Table", ["changes", "readers", "counts_histories", "known"])
  | 2 => ("Readers", ["positions"])
  | 3 => ("Source", ["given", "places", "reads", "changes", "most"])
  | 4 => ("LimitedSource", ["given", "places", "reads", "changes", "most"])
  | _ => ("Console", ["source"])
inductive T where
  | dat (d : D)
  | bor (d : D)
  | own (ds : List D)
  | lbo (ds : List D)
  | lst (ts : List T)
  | tup (ts : List T)
  | dct (kvs : List (Key × D))
  | scr (ns : List Int)
  | exc (ex : Exn)
  | ins (k : Nat) (ts : List T)
  | mem (es : List (MKey × Int))
  | ali (i : Nat)
  | emp
mutual
inductive TIs (K : PySem.W.Frag) (B Bb : Addr → Prop) (σ : St) (H : Hp) : T → V → List Addr → Prop
  | dat {d : D} {v : V} : DIs K B H d v → TIs K B Bb σ H (.dat d) v []
  | bor {d : D} {v : V} : DIs K Bb H d v → TIs K B Bb σ H (.bor d) v []
  | own {a : Addr} {vs : List V} {ds : List D} : H a = some (.lst vs) → DIsL K B H ds vs → TIs K B Bb σ H (.own ds) (.ref a) [a]
  | lbo {a : Addr} {vs : List V} {ds : List D} : H a = some (.lst vs) → DIsL K Bb H ds vs → TIs K B Bb σ H (.lbo ds) (.ref a) [a]
  | lst {a : Addr} {vs : List V} {ts : List T} {os : List Addr} : H a = some (.lst vs) → TIsL K B Bb σ H ts vs os → TIs K B Bb σ H (.lst ts) (.ref a) (a :: os)
  | tup {a : Addr} {vs : List V} {ts : List T} {os : List Addr} : TPl H a vs → ¬ B a → TIsL K B Bb σ H ts vs os → TIs K B Bb σ H (.tup ts) (.ref a) os
  | dct {a : Addr} {kvs : List (Key × V)} {ds : List D} {ps : List (Key × D)} : H a = some (.dK kvs) → DIsL K B H ds (kvs.map (·.2)) → ps = (kvs.map (·.1)).zip ds → TIs K B Bb σ H (.dct ps) (.ref a) [a]
  | scr {a : Addr} {ns : List Int} : SB K B H a (ns.map V.int) → TIs K B Bb σ H (.scr ns) (.ref a) []
  | exc {a : Addr} {ex : Exn} : XB K B H a ex → TIs K B Bb σ H (.exc ex) (.ref a) []
  | ins {a C dx : Addr} {k : Nat} {ts : List T} {fvs : List (Str × V)} {os : List Addr} : PySem.W.nsIn K mainGlobals (insC k).1 = some (some (.ref C)) → H a = some (.ins C dx fvs) → fvs.map (·.1) = (insC k).2.take ts.length → TIsL K B Bb σ H ts (fvs.map (·.2)) os → TIs K B Bb σ H (.ins k ts) (.ref a) (a :: os)
  | mem {a : Addr} {es : List (MKey × Int)} {xs : List (MKey × Addr × Value)} : H a = some (MemO a xs) → MemL K B H es xs → TIs K B Bb σ H (.mem es) (.ref a) [a]
  | ali {i : Nat} {v : V} : σ[i]? = some (some v) → TIs K B Bb σ H (.ali i) v []
inductive TIsL (K : PySem.W.Frag) (B Bb : Addr → Prop) (σ : St) (H : Hp) : List T → List V → List Addr → Prop
  | nil : TIsL K B Bb σ H [] [] []
  | cons {t : T} {v : V} {ts : List T} {vs : List V} {o1 o2 : List Addr} : TIs K B Bb σ H t v o1 → TIsL K B Bb σ H ts vs o2 → TIsL K B Bb σ H (t :: ts) (v :: vs) (o1 ++ o2)
end
mutual
def noAli : T → Bool
  | .lst ts => noAliL ts
  | .tup ts => noAliL ts
  | .ins _ ts => noAliL ts
  | .ali _ => false
  | _ => true
def noAliL : List T → Bool
  | [] => true
  | t :: ts => noAli t && noAliL ts
end
section
variable {K : PySem.W.Frag} {B B' Bb Bb' : Addr → Prop} {H H' : Hp} {σ σ' : St}
theorem DIsL.length : ∀ {ds : List D} {vs : List V}, DIsL K B H ds vs → ds.length = vs.length
  | _, _, .nil => rfl
  | _, _, .cons _ t => congrArg (· + 1) (DIsL.length t)
theorem DIsL.get : ∀ {ds : List D} {vs : List V} {i : Nat} {d : D}, DIsL K B H ds vs → ds[i]? = some d → ∃ v, vs[i]? = some v ∧ DIs K B H d v
  | _, _, _, _, .nil, e => by simp at e
  | _, _, 0, _, .cons r _, e => by simp at e; subst e; exact ⟨_, rfl, r⟩
  | _, _, i + 1, _, .cons _ t, e => by
    obtain ⟨v, h1, h2⟩ := DIsL.get (i := i) t (by simpa using e)
    exact ⟨v, by simpa using h1, h2⟩
theorem DIsL.append : ∀ {ds es : List D} {vs us : List V}, DIsL K B H ds vs → DIsL K B H es us → DIsL K B H (ds ++ es) (vs ++ us)
  | _, _, _, _, .nil, s => s
  | _, _, _, _, .cons r t, s => .cons r (DIsL.append t s)
theorem DIsL.take : ∀ {ds : List D} {vs : List V} (n : Nat), DIsL K B H ds vs → DIsL K B H (ds.take n) (vs.take n)
  | _, _, 0, _ => .nil
  | _, _, _ + 1, .nil => .nil
  | _, _, n + 1, .cons r t => .cons r (DIsL.take n t)
theorem DIsL.drop : ∀ {ds : List D} {vs : List V} (n : Nat), DIsL K B H ds vs → DIsL K B H (ds.drop n) (vs.drop n)
  | _, _, 0, r => r
  | _, _, _ + 1, .nil => .nil
  | _, _, n + 1, .cons _ t => DIsL.drop n t
theorem DIsL.set : ∀ {ds : List D} {vs : List V} {d : D} {v : V} (i : Nat), DIsL K B H ds vs → DIs K B H d v → DIsL K B H (ds.set i d) (vs.set i v)
  | _, _, _, _, _, .nil, _ => .nil
  | _, _, _, _, 0, .cons _ t, q => .cons q t
  | _, _, _, _, i + 1, .cons r t, q => .cons r (DIsL.set i t q)
theorem DIsL.eraseIdx : ∀ {ds : List D} {vs : List V} (i : Nat), DIsL K B H ds vs → DIsL K B H (ds.eraseIdx i) (vs.eraseIdx i)
  | _, _, _, .nil => .nil
  | _, _, 0, .cons _ t => t
  | _, _, i + 1, .cons r t => .cons r (DIsL.eraseIdx i t)
theorem DIsL.dropLast : ∀ {ds : List D} {vs : List V}, DIsL K B H ds vs → DIsL K B H ds.dropLast vs.dropLast
  | _, _, .nil => .nil
  | _, _, .cons _ .nil => .nil
  | _, _, .cons r (.cons r2 t) => .cons r (DIsL.dropLast (.cons r2 t))
theorem DIsL.snoc {ds : List D} {vs : List V} {d : D} {v : V} (h : DIsL K B H ds vs) (q : DIs K B H d v) : DIsL K B H (ds ++ [d]) (vs ++ [v]) := h.append (.cons q .nil)
theorem DIsL.reverse : ∀ {ds : List D} {vs : List V}, DIsL K B H ds vs → DIsL K B H ds.reverse vs.reverse
  | _, _, .nil => .nil
  | _, _, .cons r t => by rw [List.reverse_cons, List.reverse_cons]; exact (DIsL.reverse t).snoc r
theorem DIsL.replicate {d : D} {v : V} (q : DIs K B H d v) : ∀ n, DIsL K B H (List.replicate n d) (List.replicate n v)
  | 0 => .nil
  | n + 1 => .cons q (DIsL.replicate q n)
theorem SB.move (h1 : ∀ b o, H b = some o → ¬ B b → H' b = some o ∧ ¬ B' b) {a : Addr} {xs : List V} : SB K B H a xs → SB K B' H' a xs
  | .inl ⟨⟨o, e⟩, n⟩ => .inl ⟨⟨o, (h1 _ _ e n).1⟩, (h1 _ _ e n).2⟩
  | .inr h => .inr h
theorem TB.move (h1 : ∀ b o, H b = some o → ¬ B b → H' b = some o ∧ ¬ B' b) {a : Addr} {xs : List V} : TB K B H a xs → TB K B' H' a xs
  | .inl ⟨⟨o, e, d⟩, n⟩ => .inl ⟨⟨o, (h1 _ _ e n).1, d⟩, (h1 _ _ e n).2⟩
  | .inr h => .inr h
mutual
theorem DIs.move (h1 : ∀ b o, H b = some o → ¬ B b → H' b = some o ∧ ¬ B' b) : ∀ {d : D} {v : V}, DIs K B H d v → DIs K B' H' d v
  | _, _, .none => .none
  | _, _, .bool b => .bool b
  | _, _, .int i => .int i
  | _, _, .str x => .str x
  | _, _, .list h n t => .list (h1 _ _ h n).1 (h1 _ _ h n).2 (DIsL.move h1 t)
  | _, _, .tuple h t => .tuple (h.move h1) (DIsL.move h1 t)
  | _, _, .dict h n t e => .dict (h1 _ _ h n).1 (h1 _ _ h n).2 (DIsL.move h1 t) e
theorem DIsL.move (h1 : ∀ b o, H b = some o → ¬ B b → H' b = some o ∧ ¬ B' b) : ∀ {ds : List D} {vs : List V}, DIsL K B H ds vs → DIsL K B' H' ds vs
  | _, _, .nil => .nil
  | _, _, .cons r t => .cons (DIs.move h1 r) (DIsL.move h1 t)
end
theorem MemL.move (h1 : ∀ b o, H b = some o → ¬ B b → H' b = some o ∧ ¬ B' b) : ∀ {es : List (MKey × Int)} {xs : List (MKey × Addr × Value)}, MemL K B H es xs → MemL K B' H' es xs
  | [], [], _ => trivial
  | _ :: _, _ :: _, ⟨⟨a, b, c⟩, t⟩ => ⟨⟨a, b, c.move h1⟩, MemL.move h1 t⟩
  | [], _ :: _, h => h.elim
  | _ :: _, [], h => h.elim
abbrev N0 : Addr → Prop := fun _ => False
theorem DIs.free {d : D} {v : V} (h : DIs K B H d v) : DIs K N0 H d v := h.move fun _ _ e _ => ⟨e, id⟩
theorem DIsL.free {ds : List D} {vs : List V} (h : DIsL K B H ds vs) : DIsL K N0 H ds vs := h.move fun _ _ e _ => ⟨e, id⟩
theorem TIsL.length : ∀ {ts : List T} {vs : List V} {os : List Addr}, TIsL K B Bb σ H ts vs os → ts.length = vs.length
  | _, _, _, .nil => rfl
  | _, _, _, .cons _ t => congrArg (· + 1) (TIsL.length t)
theorem XF.move (h1 : ∀ b o, H b = some o → ¬ B b → H' b = some o ∧ ¬ B' b) {d : Option Addr} : ∀ {fs : Option (List (Str × D))}, XF K B H d fs → XF K B' H' d fs
  | none, h => h
  | some _, ⟨dx, fv, e, h, n, m, l⟩ => ⟨dx, fv, e, (h1 _ _ h n).1, (h1 _ _ h n).2, m, l.move h1⟩
theorem XB.move (h1 : ∀ b o, H b = some o → ¬ B b → H' b = some o ∧ ¬ B' b) {a : Addr} {ex : Exn} : XB K B H a ex → XB K B' H' a ex
  | ⟨cls, d, e, h, n, f⟩ => ⟨cls, d, e, (h1 _ _ h n).1, (h1 _ _ h n).2, f.move h1⟩
mutual
theorem TIs.move (h1 : ∀ b o, H b = some o → ¬ B b → H' b = some o ∧ ¬ B' b) (h2 : ∀ b o, H b = some o → ¬ Bb b → H' b = some o ∧ ¬ Bb' b) : ∀ {t : T} {v : V} {os : List Addr}, (∀ b o, b ∈ os → H b = some o → H' b = some o) →
    (σ' = σ ∨ noAli t = true) → TIs K B Bb σ H t v os → TIs K B' Bb' σ' H' t v os
  | _, _, _, _, _, .dat h => .dat (h.move h1)
  | _, _, _, _, _, .bor h => .bor (h.move h2)
  | _, _, _, h3, _, .own e t => .own (h3 _ _ (by simp) e) (t.move h1)
  | _, _, _, h3, _, .lbo e t => .lbo (h3 _ _ (by simp) e) (t.move h2)
  | _, _, _, h3, na, .lst e t => .lst (h3 _ _ (by simp) e) (TIsL.move h1 h2 (fun b o hb => h3 b o (List.mem_cons_of_mem _ hb)) (na.imp id (fun z => by simpa [noAli] using z)) t)
  | _, _, _, h3, na, .tup ⟨o, e, d⟩ n t => .tup ⟨o, (h1 _ _ e n).1, d⟩ (h1 _ _ e n).2 (TIsL.move h1 h2 h3 (na.imp id (fun z => by simpa [noAli] using z)) t)
  | _, _, _, h3, _, .dct e t q => .dct (h3 _ _ (by simp) e) (t.move h1) q
  | _, _, _, _, _, .scr h => .scr (h.move h1)
  | _, _, _, _, _, .exc h => .exc (h.move h1)
  | _, _, _, h3, na, .ins n e k t => .ins n (h3 _ _ (by simp) e) k (TIsL.move h1 h2 (fun b o hb => h3 b o (List.mem_cons_of_mem _ hb)) (na.imp id (fun z => by simpa [noAli] using z)) t)
  | _, _, _, h3, _, .mem e t => .mem (h3 _ _ (by simp) e) (t.move h1)
  | _, _, _, _, na, .ali e => by
    rcases na with rfl | na
    · exact .ali e
    · simp [noAli] at na
theorem TIsL.move (h1 : ∀ b o, H b = some o → ¬ B b → H' b = some o ∧ ¬ B' b) (h2 : ∀ b o, H b = some o → ¬ Bb b → H' b = some o ∧ ¬ Bb' b) : ∀ {ts : List T} {vs : List V} {os : List Addr}, (∀ b o, b ∈ os → H b = some o → H' b = some o) →
    (σ' = σ ∨ noAliL ts = true) → TIsL K B Bb σ H ts vs os → TIsL K B' Bb' σ' H' ts vs os
  | _, _, _, _, _, .nil => .nil
  | _, _, _, h3, na, .cons r t =>
    .cons (TIs.move h1 h2 (fun b o hb => h3 b o (List.mem_append_left _ hb)) (na.imp id (fun z => by simp [noAliL] at z; exact z.1)) r)
      (TIsL.move h1 h2 (fun b o hb => h3 b o (List.mem_append_right _ hb)) (na.imp id (fun z => by simp [noAliL] at z; exact z.2)) t)
end
end
structure Ctx where
  X : Cx
  Wd : Exn → List T → Prop
  B0 : Addr → Prop
  H0 : Hp
  os0 : List Addr
  lent : List Nat
  sg : St
  cv : List Nat
abbrev Ctx.K (C : Ctx) : PySem.W.Frag := C.X.K
def Bar (C : Ctx) (ow : Nat → List Addr) (a : Addr) : Prop := (∃ k, a ∈ ow k) ∨ C.B0 a
def BarB (C : Ctx) (ow : Nat → List Addr) (a : Addr) : Prop := ∃ k, a ∈ ow k
def Chg : HO → Prop
  | .lst _ => True
  | .dK _ => True
  | .ins _ _ _ => True
  | .ext _ => True
  | _ => False
structure Ctx.Ok (C : Ctx) : Prop where
  b0 : ∀ a, C.B0 a → ∃ o, C.H0 a = some o ∧ Chg o
  ob : ∀ a ∈ C.os0, ¬ C.B0 a
structure SI (C : Ctx) (σ : St) (H : Hp) (ρ : List T) (vs : List V) (τ : List T) (ow : Nat → List Addr) : Prop where
  ok : C.Ok
  ln : ρ.length = σ.length
  lt : τ.length = vs.length
  na : noAliL ρ = true
  cl : ∀ k t, (ρ ++ τ)[k]? = some t → (t = .emp ∧ k < ρ.length) ∨ ∃ v, (σ ++ vs.map some)[k]? = some (some v) ∧ TIs C.K (Bar C ow) (BarB C ow) (wipe σ C.cv) H t v (ow k)
  nd : ∀ k, (ow k).Nodup
  dj : ∀ j k a, j ≠ k → a ∈ ow j → a ∉ ow k
  ot : ∀ k a, a ∈ ow k → ∃ o, H a = some o ∧ Chg o
  fr : ∀ k a, a ∈ ow k → a ∈ C.os0 ∨ C.H0 a = none
  kp : ∀ b o, C.H0 b = some o → b ∉ C.os0 → H b = some o
  tr : ∀ b, C.H0 b ≠ none → H b ≠ none
  le : ∀ i ∈ C.lent, σ[i]? = C.sg[i]?
theorem noAliL_iff : ∀ {ts : List T}, noAliL ts = true ↔ ∀ (i : Nat) (t : T), ts[i]? = some t → noAli t = true
  | [] => by simp [noAliL]
  | t :: ts => by
    simp only [noAliL, Bool.and_eq_true]
    constructor
    · rintro ⟨h1, h2⟩ i u e
      cases i with
      | zero => simp at e; subst e; exact h1
      | succ i => exact noAliL_iff.mp h2 i u (by simpa using e)
    · intro h
      exact ⟨h 0 t rfl, noAliL_iff.mpr fun i u e => h (i + 1) u (by simpa using e)⟩
section
variable {C : Ctx} {σ σ' : St} {H H' : Hp} {ρ ρ' : List T} {vs vs' : List V} {τ τ' : List T} {ow ow' : Nat → List Addr}
theorem SI.nb0 (I : SI C σ H ρ vs τ ow) {k : Nat} {a : Addr} (h : a ∈ ow k) : ¬ C.B0 a := fun z => by
  rcases I.fr k a h with q | q
  · exact I.ok.ob a q z
  · obtain ⟨o, e, _⟩ := I.ok.b0 a z
    rw [q] at e; cases e
theorem SI.next (I : SI C σ H ρ vs τ ow) (S : Nat → Prop) (ln : ρ'.length = σ'.length) (lt : τ'.length = vs'.length) (na : noAliL ρ' = true)
    (un : ∀ k, ¬ S k → ow' k = ow k)
    (cu : ∀ k t, ¬ S k → (ρ' ++ τ')[k]? = some t → (ρ ++ τ)[k]? = some t ∧ (σ' ++ vs'.map some)[k]? = (σ ++ vs.map some)[k]? ∧ (wipe σ' C.cv = wipe σ C.cv ∨ noAli t = true))
    (rl : ρ'.length = ρ.length) (hw : ∀ b o, H b = some o → (∀ k, S k → b ∉ ow k) → H' b = some o) (ht : ∀ b, H b ≠ none → H' b ≠ none)
    (src : ∀ k a, S k → a ∈ ow' k → (∃ j, S j ∧ a ∈ ow j) ∨ H a = none)
    (cn : (∀ b o, H b = some o → ¬ Bar C ow b → H' b = some o ∧ ¬ Bar C ow' b) → (∀ b o, H b = some o → ¬ BarB C ow b → H' b = some o ∧ ¬ BarB C ow' b) →
      ∀ k t, S k → (ρ' ++ τ')[k]? = some t → (t = .emp ∧ k < ρ'.length) ∨ ∃ v, (σ' ++ vs'.map some)[k]? = some (some v) ∧ TIs C.K (Bar C ow') (BarB C ow') (wipe σ' C.cv) H' t v (ow' k))
    (nd : ∀ k, S k → (ow' k).Nodup) (dj : ∀ j k a, S j → S k → j ≠ k → a ∈ ow' j → a ∉ ow' k) (ot : ∀ k a, S k → a ∈ ow' k → ∃ o, H' a = some o ∧ Chg o)
    (le : ∀ i ∈ C.lent, σ'[i]? = σ[i]?) : SI C σ' H' ρ' vs' τ' ow' := by
  have fresh : ∀ k a, a ∈ ow' k → (∃ j, a ∈ ow j) ∨ H a = none := fun k a h => by
    by_cases hk : S k
    · rcases src k a hk h with ⟨j, _, q⟩ | q
      · exact .inl ⟨j, q⟩
      · exact .inr q
    · rw [un k hk] at h; exact .inl ⟨k, h⟩
  have m1 : ∀ b o, H b = some o → ¬ Bar C ow b → H' b = some o ∧ ¬ Bar C ow' b := fun b o e n => by
    refine ⟨hw b o e fun k _ q => n (.inl ⟨k, q⟩), fun z => ?_⟩
    rcases z with ⟨k, z⟩ | z
    · rcases fresh k b z with q | q
      · exact n (.inl q)
      · rw [e] at q; cases q
    · exact n (.inr z)
  have m2 : ∀ b o, H b = some o → ¬ BarB C ow b → H' b = some o ∧ ¬ BarB C ow' b := fun b o e n => by
    refine ⟨hw b o e fun k _ q => n ⟨k, q⟩, fun z => ?_⟩
    obtain ⟨k, z⟩ := z
    rcases fresh k b z with q | q
    · exact n q
    · rw [e] at q; cases q
  refine ⟨I.ok, ln, lt, na, fun k t e => ?_, fun k => ?_, fun j k a hjk hj hk => ?_, fun k a h => ?_, fun k a h => ?_, fun b o e n => ?_, fun b n => ht b (I.tr b n), fun i hi => (le i hi).trans (I.le i hi)⟩
  · by_cases hk : S k
    · exact cn m1 m2 k t hk e
    · obtain ⟨e1, e2, e3⟩ := cu k t hk e
      rcases I.cl k t e1 with z | ⟨v, hv, r⟩
      · exact .inl (by rw [rl]; exact z)
      · refine .inr ⟨v, e2.trans hv, ?_⟩
        rw [un k hk]
        exact r.move m1 m2 (fun b o hb eb => hw b o eb fun j hj q => I.dj k j b (fun z => hk (z ▸ hj)) hb q) e3
  · by_cases hk : S k
    · exact nd k hk
    · rw [un k hk]; exact I.nd k
  · by_cases h1 : S j
    · by_cases h2 : S k
      · exact dj j k a h1 h2 hjk hj hk
      · rw [un k h2] at hk
        rcases src j a h1 hj with ⟨i, hi, q⟩ | q
        · exact I.dj i k a (fun z => h2 (z ▸ hi)) q hk
        · obtain ⟨o, e, _⟩ := I.ot k a hk
          rw [q] at e; cases e
    · rw [un j h1] at hj
      by_cases h2 : S k
      · rcases src k a h2 hk with ⟨i, hi, q⟩ | q
        · exact I.dj i j a (fun z => h1 (z ▸ hi)) q hj
        · obtain ⟨o, e, _⟩ := I.ot j a hj
          rw [q] at e; cases e
      · rw [un k h2] at hk
        exact I.dj j k a hjk hj hk
  · by_cases hk : S k
    · exact ot k a hk h
    · rw [un k hk] at h
      obtain ⟨o, e, c⟩ := I.ot k a h
      exact ⟨o, hw a o e fun j hj q => I.dj j k a (fun z => hk (z ▸ hj)) q h, c⟩
  · by_cases hk : S k
    · rcases src k a hk h with ⟨j, _, q⟩ | q
      · exact I.fr j a q
      · by_cases z : C.H0 a = none
        · exact .inr z
        · exact absurd q (I.tr a z)
    · rw [un k hk] at h; exact I.fr k a h
  · refine hw b o (I.kp b o e n) fun k _ q => ?_
    rcases I.fr k b q with z | z
    · exact n z
    · rw [e] at z; cases z
end
end Ds
namespace Ds
open PySem L2
section
variable {C : Ctx} {σ σ' : St} {H H' : Hp} {ρ ρ' : List T} {vs vs' xs ys : List V} {τ τ' ts us : List T} {ow ow' : Nat → List Addr}
def SS (C : Ctx) (σ : St) (H : Hp) (ρ : List T) (vs : List V) (τ : List T) : Prop := ∃ ow, SI C σ H ρ vs τ ow
theorem SI.len (I : SI C σ H ρ vs τ ow) : (ρ ++ τ).length = (σ ++ vs.map some).length := by
  simp [I.ln, I.lt]
theorem SI.temps (I : SI C σ H ρ (vs ++ xs) (τ ++ ts) ow) (hτ : τ.length = vs.length) (hs : Same H H') (hu : us.length = ys.length) (no : Nat → List Addr) {ow' : Nat → List Addr}
    (eo : ow' = fun k => if k < ρ.length + τ.length then ow k else no (k - (ρ.length + τ.length)))
    (rel : (∀ b o, H b = some o → ¬ Bar C ow b → H' b = some o ∧ ¬ Bar C ow' b) → (∀ b o, H b = some o → ¬ BarB C ow b → H' b = some o ∧ ¬ BarB C ow' b) →
      ∀ j u, us[j]? = some u → ∃ v, ys[j]? = some v ∧ TIs C.K (Bar C ow') (BarB C ow') (wipe σ C.cv) H' u v (no j))
    (nd : ∀ j, (no j).Nodup) (dj : ∀ i j a, i ≠ j → a ∈ no i → a ∉ no j)
    (src : ∀ j a, a ∈ no j → (∃ i, ρ.length + τ.length ≤ i ∧ a ∈ ow i) ∨ H a = none) (ot : ∀ j a, a ∈ no j → ∃ o, H' a = some o ∧ Chg o) : SI C σ H' ρ (vs ++ ys) (τ ++ us) ow' := by
  have hn : ∀ k, ¬ (ρ.length + τ.length ≤ k) → k < ρ.length + τ.length := fun k h => by omega
  refine I.next (S := fun k => ρ.length + τ.length ≤ k) I.ln (by simp [hτ, hu]) I.na (fun k hk => ?_) (fun k t hk e => ?_) rfl (fun b o e _ => hs b o e) (fun b n => ?_) (fun k a hk h => ?_) (fun m1 m2 k t hk e => ?_)
    (fun k hk => ?_) (fun j k a h1 h2 hjk hj => ?_) (fun k a hk h => ?_) fun _ _ => rfl
  · rw [eo]; exact if_pos (hn k hk)
  · have hk' := hn k hk
    refine ⟨?_, ?_, .inl rfl⟩
    · rw [← List.append_assoc] at e ⊢
      rw [List.getElem?_append_left (by simp; omega)] at e
      rw [List.getElem?_append_left (by simp; omega)]; exact e
    · simp only [List.map_append, ← List.append_assoc]
      have z : k < (σ ++ List.map some vs).length := by simp [← I.ln, ← hτ]; omega
      exact (List.getElem?_append_left z).trans (List.getElem?_append_left z).symm
  · cases e : H b with
    | none => exact absurd e n
    | some o => rw [hs b o e]; simp
  · rw [eo] at h
    have h' : a ∈ no (k - (ρ.length + τ.length)) := by simpa [if_neg (show ¬ k < ρ.length + τ.length by omega)] using h
    rcases src _ a h' with ⟨i, hi, q⟩ | q
    · exact .inl ⟨i, hi, q⟩
    · exact .inr q
  · refine .inr ?_
    have e2 : us[k - (ρ.length + τ.length)]? = some t := by
      rw [← List.append_assoc, List.getElem?_append_right (by simp; omega)] at e
      simpa using e
    obtain ⟨v, hv, r⟩ := rel m1 m2 _ t e2
    refine ⟨v, ?_, ?_⟩
    · rw [List.map_append, ← List.append_assoc, List.getElem?_append_right (by simp [← I.ln, ← hτ]; omega)]
      simp only [List.length_append, List.length_map, ← I.ln, ← hτ, List.getElem?_map, hv, Option.map_some]
    · have q : ow' k = no (k - (ρ.length + τ.length)) := by rw [eo]; exact if_neg (by omega)
      rw [q]; exact r
  · rw [eo]; simp only [if_neg (show ¬ k < ρ.length + τ.length by omega)]; exact nd _
  · rw [eo] at hj ⊢
    simp only [if_neg (show ¬ j < ρ.length + τ.length by omega)] at hj
    simp only [if_neg (show ¬ k < ρ.length + τ.length by omega)]
    exact dj _ _ a (by omega) hj
  · rw [eo] at h
    simp only [if_neg (show ¬ k < ρ.length + τ.length by omega)] at h
    exact ot _ a h
theorem SI.temp (I : SI C σ H ρ vs τ ow) {j : Nat} {t : T} (e : τ[j]? = some t) : ∃ v, vs[j]? = some v ∧ TIs C.K (Bar C ow) (BarB C ow) (wipe σ C.cv) H t v (ow (ρ.length + j)) := by
  rcases I.cl (ρ.length + j) t (by rw [List.getElem?_append_right (by omega)]; simpa using e) with ⟨_, z⟩ | ⟨v, hv, r⟩
  · omega
  · refine ⟨v, ?_, r⟩
    rw [List.getElem?_append_right (by rw [I.ln]; omega)] at hv
    rw [← I.ln] at hv
    simp at hv
    exact hv
theorem SI.slot (I : SI C σ H ρ vs τ ow) {i : Nat} {t : T} (e : ρ[i]? = some t) : t = .emp ∨ ∃ v, σ[i]? = some (some v) ∧ TIs C.K (Bar C ow) (BarB C ow) (wipe σ C.cv) H t v (ow i) := by
  have hi := (List.getElem?_eq_some_iff.mp e).1
  rcases I.cl i t (by rw [List.getElem?_append_left hi]; exact e) with ⟨z, _⟩ | ⟨v, hv, r⟩
  · exact .inl z
  · refine .inr ⟨v, ?_, r⟩
    rw [List.getElem?_append_left (by rw [← I.ln]; exact hi)] at hv
    exact hv
theorem SI.top (I : SI C σ H ρ (vs ++ [v]) (τ ++ [t]) ow) : TIs C.K (Bar C ow) (BarB C ow) (wipe σ C.cv) H t v (ow (ρ.length + τ.length)) := by
  obtain ⟨w, hw, r⟩ := I.temp (j := τ.length) (t := t) (by simp)
  have hl := I.lt
  simp at hl
  rw [hl] at hw
  simp at hw
  subst hw; exact r
theorem SI.lt1 (I : SI C σ H ρ (vs ++ [v]) (τ ++ [t]) ow) : τ.length = vs.length := by
  have := I.lt; simpa using this
def o1 (o : List Addr) : Nat → List Addr
  | 0 => o
  | _ => []
theorem SS.push {v : V} {t : T} (o : List Addr) (h : SS C σ H ρ vs τ) (hs : Same H H')
    (rel : ∀ ow ow' : Nat → List Addr, SI C σ H ρ vs τ ow → (∀ b o, H b = some o → ¬ Bar C ow b → H' b = some o ∧ ¬ Bar C ow' b) → (∀ b o, H b = some o → ¬ BarB C ow b → H' b = some o ∧ ¬ BarB C ow' b) →
      (∀ b, H b = none → ¬ Bar C ow b) → (∀ b, Bar C ow' b → Bar C ow b ∨ b ∈ o) → TIs C.K (Bar C ow') (BarB C ow') (wipe σ C.cv) H' t v o)
    (nd : o.Nodup) (fr : ∀ a ∈ o, H a = none) (ot : ∀ a ∈ o, ∃ u, H' a = some u ∧ Chg u) : SS C σ H' ρ (vs ++ [v]) (τ ++ [t]) := by
  obtain ⟨ow, I⟩ := h
  have I' : SI C σ H ρ (vs ++ []) (τ ++ []) ow := by simpa using I
  have nb : ∀ b, H b = none → ¬ Bar C ow b := fun b e z => by
    rcases z with ⟨k, z⟩ | z
    · obtain ⟨u, e2, _⟩ := I.ot k b z
      rw [e] at e2; cases e2
    · obtain ⟨u, e2, _⟩ := I.ok.b0 b z
      exact I.tr b (by rw [e2]; simp) e
  refine ⟨_, SI.temps (ow' := fun k => if k < ρ.length + τ.length then ow k else o1 o (k - (ρ.length + τ.length))) I' I.lt hs (by simp) (o1 o) rfl (fun m1 m2 j u e => ?_) (fun j => ?_) (fun i j a hij hi => ?_) (fun j a h => ?_) (fun j a h => ?_)⟩
  · cases j with
    | zero =>
      simp at e; subst e
      refine ⟨v, rfl, rel ow _ I m1 m2 nb fun b z => ?_⟩
      rcases z with ⟨k, z⟩ | z
      · by_cases hk : k < ρ.length + τ.length
        · simp only [if_pos hk] at z; exact .inl (.inl ⟨k, z⟩)
        · simp only [if_neg hk] at z
          cases hq : k - (ρ.length + τ.length) with
          | zero => rw [hq] at z; exact .inr z
          | succ m => rw [hq] at z; simp [o1] at z
      · exact .inl (.inr z)
    | succ j => simp at e
  · cases j with
    | zero => exact nd
    | succ j => exact List.nodup_nil
  · cases i with
    | zero => cases j with
      | zero => exact absurd rfl hij
      | succ j => simp [o1]
    | succ i => simp [o1] at hi
  · cases j with
    | zero => exact .inr (fr a h)
    | succ j => simp [o1] at h
  · cases j with
    | zero => exact ot a h
    | succ j => simp [o1] at h
theorem SS.push0 {v : V} {t : T} (h : SS C σ H ρ vs τ) (rel : ∀ ow, SI C σ H ρ vs τ ow → TIs C.K (Bar C ow) (BarB C ow) (wipe σ C.cv) H t v []) : SS C σ H ρ (vs ++ [v]) (τ ++ [t]) :=
  h.push [] (Same.refl H) (fun ow ow' I m1 m2 _ _ => (rel ow I).move m1 m2 (fun _ _ z => by simp at z) (.inl rfl)) List.nodup_nil (fun _ z => by simp at z) fun _ z => by simp at z
theorem SS.drop (h : SS C σ H ρ (vs ++ xs) (τ ++ ts)) (hτ : τ.length = vs.length) : SS C σ H ρ vs τ := by
  obtain ⟨ow, I⟩ := h
  have J := SI.temps (ow' := fun k => if k < ρ.length + τ.length then ow k else []) (us := []) (ys := []) I hτ (Same.refl H) rfl (fun _ => []) rfl (fun _ _ j u e => by simp at e) (fun _ => List.nodup_nil) (fun _ _ _ _ z => by simp at z) (fun _ _ z => by simp at z) fun _ _ z => by simp at z
  exact ⟨_, by simpa using J⟩
theorem SS.pop {v : V} {t : T} (h : SS C σ H ρ (vs ++ [v]) (τ ++ [t])) : SS C σ H ρ vs τ := by
  obtain ⟨ow, I⟩ := h
  exact SS.drop ⟨ow, I⟩ I.lt1
theorem SS.pop2 {u v : V} {s t : T} (h : SS C σ H ρ (vs ++ [u] ++ [v]) (τ ++ [s] ++ [t])) : SS C σ H ρ vs τ := h.pop.pop
mutual
def toD : T → Option D
  | .dat d => some d
  | .bor d => some d
  | .own ds => some (.list ds)
  | .lbo ds => some (.list ds)
  | .lst ts => (toDL ts).map .list
  | .tup ts => (toDL ts).map .tuple
  | .dct kvs => some (.dict (kvs.map fun p => (kD p.1, p.2)))
  | .scr _ => none
  | .exc _ => none
  | .ins _ _ => none
  | .mem _ => none
  | .ali _ => none
  | .emp => none
def toDL : List T → Option (List D)
  | [] => some []
  | t :: ts => (toD t).bind fun d => (toDL ts).map fun ds => d :: ds
end
mutual
def lk (ρ : List T) : T → Option D
  | .dat d => some d
  | .bor d => some d
  | .own ds => some (.list ds)
  | .lbo ds => some (.list ds)
  | .lst ts => (lkL ρ ts).map .list
  | .tup ts => (lkL ρ ts).map .tuple
  | .dct kvs => some (.dict (kvs.map fun p => (kD p.1, p.2)))
  | .scr _ => none
  | .exc _ => none
  | .ins _ _ => none
  | .mem _ => none
  | .ali i => (ρ[i]?).bind toD
  | .emp => none
def lkL (ρ : List T) : List T → Option (List D)
  | [] => some []
  | t :: ts => (lk ρ t).bind fun d => (lkL ρ ts).map fun ds => d :: ds
end
theorem zip_kvs : ∀ {kvs : List (Key × V)} {ds : List D}, ds.length = kvs.length → ((kvs.map (·.1)).zip ds).map (fun p => (kD p.1, p.2)) = (kvs.map fun p => kD p.1).zip ds
  | [], [], _ => rfl
  | [], _ :: _, h => by simp at h
  | _ :: _, [], h => by simp at h
  | p :: kvs, d :: ds, h => by
    have := zip_kvs (kvs := kvs) (ds := ds) (by simpa using h)
    simp only [List.map_cons, List.zip_cons_cons]
    rw [this]
section
variable {K : PySem.W.Frag} {B Bb : Addr → Prop}
mutual
theorem TIs.toD : ∀ {t : T} {v : V} {os : List Addr} {d : D}, TIs K B Bb σ H t v os → Ds.toD t = some d → DIs K N0 H d v
  | _, _, _, _, .dat h, e => by simp only [Ds.toD, Option.some.injEq] at e; subst e; exact h.free
  | _, _, _, _, .bor h, e => by simp only [Ds.toD, Option.some.injEq] at e; subst e; exact h.free
  | _, _, _, _, .own h t, e => by simp only [Ds.toD, Option.some.injEq] at e; subst e; exact .list h id t.free
  | _, _, _, _, .lbo h t, e => by simp only [Ds.toD, Option.some.injEq] at e; subst e; exact .list h id t.free
  | _, _, _, _, .lst h t, e => by
    simp only [Ds.toD, Option.map_eq_some_iff] at e
    obtain ⟨ds, e1, rfl⟩ := e
    exact .list h id (TIsL.toD t e1)
  | _, _, _, _, .tup h _ t, e => by
    simp only [Ds.toD, Option.map_eq_some_iff] at e
    obtain ⟨ds, e1, rfl⟩ := e
    exact .tuple (.inl ⟨h, id⟩) (TIsL.toD t e1)
  | _, _, _, _, .dct h t q, e => by
    simp only [Ds.toD, Option.some.injEq] at e
    subst e; subst q
    exact .dict h id t.free (zip_kvs (by have := t.length; simpa using this))
  | _, _, _, _, .scr h, e => by simp [Ds.toD] at e
  | _, _, _, _, .exc h, e => by simp [Ds.toD] at e
  | _, _, _, _, .ins _ _ _ _, e => by simp [Ds.toD] at e
  | _, _, _, _, .mem _ _, e => by simp [Ds.toD] at e
  | _, _, _, _, .ali h, e => by simp [Ds.toD] at e
theorem TIsL.toD : ∀ {ts : List T} {vs : List V} {os : List Addr} {ds : List D}, TIsL K B Bb σ H ts vs os → Ds.toDL ts = some ds → DIsL K N0 H ds vs
  | _, _, _, _, .nil, e => by simp only [Ds.toDL, Option.some.injEq] at e; subst e; exact .nil
  | _, _, _, _, .cons r t, e => by
    simp only [Ds.toDL, Option.bind_eq_some_iff, Option.map_eq_some_iff] at e
    obtain ⟨d, e1, ds, e2, rfl⟩ := e
    exact .cons (TIs.toD r e1) (TIsL.toD t e2)
end
mutual
theorem TIs.lk (hs : ∀ (i : Nat) (t : T) (v : V) (d : D), ρ[i]? = some t → σ[i]? = some (some v) → Ds.toD t = some d → DIs K N0 H d v) : ∀ {t : T} {v : V} {os : List Addr} {d : D}, TIs K B Bb σ H t v os → Ds.lk ρ t = some d → DIs K N0 H d v
  | _, _, _, _, .dat h, e => by simp only [Ds.lk, Option.some.injEq] at e; subst e; exact h.free
  | _, _, _, _, .bor h, e => by simp only [Ds.lk, Option.some.injEq] at e; subst e; exact h.free
  | _, _, _, _, .own h t, e => by simp only [Ds.lk, Option.some.injEq] at e; subst e; exact .list h id t.free
  | _, _, _, _, .lbo h t, e => by simp only [Ds.lk, Option.some.injEq] at e; subst e; exact .list h id t.free
  | _, _, _, _, .lst h t, e => by
    simp only [Ds.lk, Option.map_eq_some_iff] at e
    obtain ⟨ds, e1, rfl⟩ := e
    exact .list h id (TIsL.lk hs t e1)
  | _, _, _, _, .tup h _ t, e => by
    simp only [Ds.lk, Option.map_eq_some_iff] at e
    obtain ⟨ds, e1, rfl⟩ := e
    exact .tuple (.inl ⟨h, id⟩) (TIsL.lk hs t e1)
  | _, _, _, _, .dct h t q, e => by
    simp only [Ds.lk, Option.some.injEq] at e
    subst e; subst q
    exact .dict h id t.free (zip_kvs (by have := t.length; simpa using this))
  | _, _, _, _, .scr h, e => by simp [Ds.lk] at e
  | _, _, _, _, .exc h, e => by simp [Ds.lk] at e
  | _, _, _, _, .ins _ _ _ _, e => by simp [Ds.lk] at e
  | _, _, _, _, .mem _ _, e => by simp [Ds.lk] at e
  | _, _, _, _, .ali h, e => by
    simp only [Ds.lk, Option.bind_eq_some_iff] at e
    obtain ⟨t, e1, e2⟩ := e
    exact hs _ _ _ _ e1 h e2
theorem TIsL.lk (hs : ∀ (i : Nat) (t : T) (v : V) (d : D), ρ[i]? = some t → σ[i]? = some (some v) → Ds.toD t = some d → DIs K N0 H d v) : ∀ {ts : List T} {vs : List V} {os : List Addr} {ds : List D}, TIsL K B Bb σ H ts vs os → Ds.lkL ρ ts = some ds → DIsL K N0 H ds vs
  | _, _, _, _, .nil, e => by simp only [Ds.lkL, Option.some.injEq] at e; subst e; exact .nil
  | _, _, _, _, .cons r t, e => by
    simp only [Ds.lkL, Option.bind_eq_some_iff, Option.map_eq_some_iff] at e
    obtain ⟨d, e1, ds, e2, rfl⟩ := e
    exact .cons (TIs.lk hs r e1) (TIsL.lk hs t e2)
end
end
theorem SI.look (I : SI C σ H ρ vs τ ow) : ∀ (i : Nat) (t : T) (v : V) (d : D), ρ[i]? = some t → (wipe σ C.cv)[i]? = some (some v) → toD t = some d → DIs C.K N0 H d v := fun i t v d e e2 e3 => by
  have e2 := (wipe_some e2).1
  rcases I.slot e with rfl | ⟨w, hw, r⟩
  · simp [toD] at e3
  · rw [e2] at hw; cases hw
    exact r.toD e3
theorem SI.lkTop {v : V} {t : T} {d : D} (I : SI C σ H ρ (vs ++ [v]) (τ ++ [t]) ow) (h : lk ρ t = some d) : DIs C.K N0 H d v := I.top.lk I.look h
theorem SS.lk1 {v : V} {t : T} {d : D} (I : SS C σ H ρ (vs ++ [v]) (τ ++ [t])) (h : lk ρ t = some d) : DIs C.K N0 H d v := let ⟨_, J⟩ := I; J.lkTop h
theorem SS.lk2 {u v : V} {s t : T} {d : D} (I : SS C σ H ρ (vs ++ [u] ++ [v]) (τ ++ [s] ++ [t])) (h : lk ρ s = some d) : DIs C.K N0 H d u := SS.lk1 I.pop h
end
end Ds
namespace Ds
open PySem L2
abbrev DQ := T → List T → Prop
abbrev DE := List T → DQ → Prop
abbrev DTt := List T → (Bool → List T → Prop) → Prop
abbrev DA := List T → (List T → List T → Prop) → Prop
def Sim (C : Ctx) (t : TE) (f : DE) : Prop := ∀ (σ : St) (H : Hp) (ρ : List T) (vs : List V) (τ : List T) (Qd : DQ) (Q : VK), SS C σ H ρ vs τ → f ρ Qd →
  (∀ v H' x ρ', SS C σ H' ρ' (vs ++ [v]) (τ ++ [x]) → Qd x ρ' → Q v H') → t σ H Q
def SimT (C : Ctx) (t : TT) (f : DTt) : Prop := ∀ (σ : St) (H : Hp) (ρ : List T) (vs : List V) (τ : List T) (Qd : Bool → List T → Prop) (Q : Bool → Hp → Prop), SS C σ H ρ vs τ → f ρ Qd →
  (∀ b H' ρ', SS C σ H' ρ' vs τ → Qd b ρ' → Q b H') → t σ H Q
def SimA (C : Ctx) (t : TA) (f : DA) : Prop := ∀ (σ : St) (H : Hp) (ρ : List T) (vs : List V) (τ : List T) (Qd : List T → List T → Prop) (Q : List V → Hp → Prop), SS C σ H ρ vs τ → f ρ Qd →
  (∀ xs H' ts ρ', SS C σ H' ρ' (vs ++ xs) (τ ++ ts) → ts.length = xs.length → Qd ts ρ' → Q xs H') → t σ H Q
structure DPE (C : Ctx) (e : Expr) (f : DE) : Prop where
  ex : ∃ t, PE C.X e t ∧ Sim C t f
structure DPT (C : Ctx) (e : Expr) (f : DTt) : Prop where
  ex : ∃ t, PT C.X e t ∧ SimT C t f
structure DPW (C : Ctx) (e : Expr) (f : DTt) : Prop where
  ex : ∃ t, PW C.X e t ∧ SimT C t f
structure DPA (C : Ctx) (es : List Expr) (f : DA) : Prop where
  ex : ∃ t, PA C.X es t ∧ SimA C t f
def sv : D → Option V
  | .none => some .non
  | .bool b => some (.bl b)
  | .int i => some (.int i)
  | .str x => some (.str x)
  | _ => none
theorem sv_is {K B H d v} (h : sv d = some v) : DIs K B H d v := by
  cases d <;> simp [sv] at h <;> subst h
  · exact .none
  · exact .bool _
  · exact .int _
  · exact .str _
theorem sv_eq {K B H d u v} (q : DIs K B H d u) (h : sv d = some v) : u = v := by
  cases q <;> simp [sv] at h <;> exact h
theorem DIs.int_eq {K B H i v} (q : DIs K B H (.int i) v) : v = .int i := sv_eq q rfl
theorem DIs.bool_eq {K B H i v} (q : DIs K B H (.bool i) v) : v = .bl i := sv_eq q rfl
theorem DIs.str_eq {K B H i v} (q : DIs K B H (.str i) v) : v = .str i := sv_eq q rfl
theorem DIs.none_eq {K B H v} (q : DIs K B H .none v) : v = .non := sv_eq q rfl
def wD : Option D → (D → Prop) → Prop
  | some d, k => k d
  | none, _ => False
theorem wD_some {o : Option D} {k : D → Prop} (h : wD o k) : ∃ d, o = some d ∧ k d := by
  cases o with
  | none => exact h.elim
  | some d => exact ⟨d, rfl, h⟩
def wO {α : Type} : Option α → (α → Prop) → Prop
  | some d, k => k d
  | none, _ => False
theorem wO_some {α : Type} {o : Option α} {k : α → Prop} (h : wO o k) : ∃ d, o = some d ∧ k d := by
  cases o with
  | none => exact h.elim
  | some d => exact ⟨d, rfl, h⟩
mutual
def safe : D → Bool
  | .tuple ds => safeL ds
  | .list _ => false
  | .dict _ => false
  | _ => true
def safeL : List D → Bool
  | [] => true
  | d :: ds => safe d && safeL ds
end
section
variable {K : PySem.W.Frag} {B Bb : Addr → Prop} {H : Hp}
mutual
theorem DIs.safe (h : ∀ a xs, (H a = some (.tup xs) ∨ ∃ o, H a = some (.frz o (.tup xs))) → ¬ Bb a → ¬ B a) : ∀ {d : D} {v : V}, DIs K Bb H d v → Ds.safe d = true → DIs K B H d v
  | _, _, .none, _ => .none
  | _, _, .bool b, _ => .bool b
  | _, _, .int i, _ => .int i
  | _, _, .str x, _ => .str x
  | _, _, .list _ _ _, e => by simp [Ds.safe] at e
  | _, _, .dict _ _ _ _, e => by simp [Ds.safe] at e
  | _, _, .tuple hh t, e => by
    refine .tuple ?_ (DIsL.safe h t (by simpa [Ds.safe] using e))
    rcases hh with ⟨r, n⟩ | k
    · exact .inl ⟨r, h _ _ r.rd n⟩
    · exact .inr k
theorem DIsL.safe (h : ∀ a xs, (H a = some (.tup xs) ∨ ∃ o, H a = some (.frz o (.tup xs))) → ¬ Bb a → ¬ B a) : ∀ {ds : List D} {vs : List V}, DIsL K Bb H ds vs → Ds.safeL ds = true → DIsL K B H ds vs
  | _, _, .nil, _ => .nil
  | _, _, .cons r t, e => by
    simp only [Ds.safeL, Bool.and_eq_true] at e
    exact .cons (DIs.safe h r e.1) (DIsL.safe h t e.2)
end
end
section
variable {C : Ctx} {σ : St} {H H' : Hp} {ρ ρ' : List T} {vs xs : List V} {τ ts : List T} {ow : Nat → List Addr}
theorem SI.tupOk (I : SI C σ H ρ vs τ ow) : ∀ a xs, (H a = some (.tup xs) ∨ ∃ o, H a = some (.frz o (.tup xs))) → ¬ BarB C ow a → ¬ Bar C ow a := fun a xs e n z => by
  have chg : ∀ o, H a = some o → Chg o → False := fun o q c => by
    rcases e with e | ⟨u, e⟩ <;> rw [e] at q <;> cases q <;> exact c
  rcases z with ⟨k, z⟩ | z
  · exact n ⟨k, z⟩
  · obtain ⟨o, e0, c⟩ := I.ok.b0 a z
    exact chg o (I.kp a o e0 fun q => I.ok.ob a q z) c
theorem SI.safe (I : SI C σ H ρ vs τ ow) {d : D} {v : V} (h : DIs C.K (BarB C ow) H d v) (e : Ds.safe d = true) : DIs C.K (Bar C ow) H d v := h.safe I.tupOk e
theorem SI.safeL (I : SI C σ H ρ vs τ ow) {ds : List D} (h : DIsL C.K (BarB C ow) H ds xs) (e : Ds.safeL ds = true) : DIsL C.K (Bar C ow) H ds xs := h.safe I.tupOk e
theorem TIs.dat_inv {K : PySem.W.Frag} {B Bb : Addr → Prop} {σ : St} {H : Hp} {d : D} {v : V} : ∀ {os : List Addr}, TIs K B Bb σ H (.dat d) v os → DIs K B H d v
  | _, .dat q => q
theorem TIs.bor_inv {K : PySem.W.Frag} {B Bb : Addr → Prop} {σ : St} {H : Hp} {d : D} {v : V} : ∀ {os : List Addr}, TIs K B Bb σ H (.bor d) v os → DIs K Bb H d v
  | _, .bor q => q
theorem SS.sc {d : D} {v : V} (h : SS C σ H ρ vs τ) (e : sv d = some v) : SS C σ H ρ (vs ++ [v]) (τ ++ [.dat d]) := h.push0 fun _ _ => .dat (sv_is e)
theorem SS.int (h : SS C σ H ρ vs τ) (i : Int) : SS C σ H ρ (vs ++ [.int i]) (τ ++ [.dat (.int i)]) := h.sc rfl
theorem SS.bool (h : SS C σ H ρ vs τ) (i : Bool) : SS C σ H ρ (vs ++ [.bl i]) (τ ++ [.dat (.bool i)]) := h.sc rfl
theorem SS.str (h : SS C σ H ρ vs τ) (i : Str) : SS C σ H ρ (vs ++ [.str i]) (τ ++ [.dat (.str i)]) := h.sc rfl
theorem SS.non (h : SS C σ H ρ vs τ) : SS C σ H ρ (vs ++ [.non]) (τ ++ [.dat .none]) := h.sc rfl
end
def dC (d : D) : DE := fun ρ Q => Q (.dat d) ρ
def dVar (i : Nat) : DE := fun ρ Q => match ρ[i]? with
  | some (.dat d) => Q (.dat d) ρ
  | some (.bor d) => Q (.bor d) ρ
  | some .emp => False
  | none => False
  | some _ => Q (.ali i) ρ
section
variable {C : Ctx}
theorem sim_C {d : D} {v : V} (e : sv d = some v) : Sim C (tC v) (dC d) := fun _ _ _ _ _ _ _ I h k => k _ _ _ _ (I.sc e) h
theorem de_int {i j pos} : DPE C (.Constant (.int i) j pos) (dC (.int i)) := ⟨_, pe_int, sim_C rfl⟩
theorem de_bl {b j pos} : DPE C (.Constant (.bool b) j pos) (dC (.bool b)) := ⟨_, pe_bl, sim_C rfl⟩
theorem de_non {j pos} : DPE C (.Constant .none j pos) (dC .none) := ⟨_, pe_non, sim_C rfl⟩
theorem de_glob {x : Str} {d : D} {v : V} {u : Value} {pos : Pos} (hg : Gl C.X x) (hm : C.X.mg x = some u) (r : RelV v u) (e : sv d = some v) (hd : (x == ("__debug__" : Str)) = false := by decide) : DPE C (.Name x pos) (dC d) :=
  ⟨_, pe_glob hg hm r hd, sim_C e⟩
theorem wipe_get {σ : St} {i : Nat} {x : Option V} : ∀ {vs : List Nat}, i ∉ vs → σ[i]? = some x → (wipe σ vs)[i]? = some x
  | [], _, e => e
  | v :: vs, h, e => by
    unfold wipe
    rw [List.getElem?_set_ne (fun z => h (by simp [z]))]
    exact wipe_get (fun z => h (by simp [z])) e
theorem sim_var (i : Nat) (nc : i ∉ C.cv) : Sim C (tVar i) (dVar i) := fun σ H ρ vs τ Qd Q I h k => by
  unfold dVar at h
  obtain ⟨ow, J⟩ := id I
  cases e : ρ[i]? with
  | none => rw [e] at h; exact h.elim
  | some t =>
    rw [e] at h
    rcases J.slot e with rfl | ⟨v, hv, _⟩
    · exact h.elim
    · have go : Qd (.ali i) ρ → tVar i σ H Q := fun h => ⟨v, hv, k v H _ ρ (I.push0 fun ow' J' => .ali (wipe_get nc hv)) h⟩
      cases t with
      | dat d => exact ⟨v, hv, k v H _ ρ (I.push0 fun ow' J' => by
          rcases J'.slot e with z | ⟨w, hw, r⟩
          · cases z
          · rw [hv] at hw; cases hw
            exact .dat r.dat_inv) h⟩
      | bor d => exact ⟨v, hv, k v H _ ρ (I.push0 fun ow' J' => by
          rcases J'.slot e with z | ⟨w, hw, r⟩
          · cases z
          · rw [hv] at hw; cases hw
            exact .bor r.bor_inv) h⟩
      | emp => exact h.elim
      | own _ => exact go h
      | lbo _ => exact go h
      | lst _ => exact go h
      | tup _ => exact go h
      | dct _ => exact go h
      | scr _ => exact go h
      | exc _ => exact go h
      | ins _ _ => exact go h
      | mem _ => exact go h
      | ali _ => exact go h
theorem de_var (i : Nat) {x : Str} {pos : Pos} (nc : i ∉ C.cv := by decide) (hN : C.X.N[i]? = some x := by rfl) (hv : Vis C.X.env.scope x := by first | exact Or.inl rfl | exact Or.inr (Or.inl rfl) | exact Or.inr (Or.inr rfl)) (hd : (x == ("__debug__" : Str)) = false := by decide)
    (hcd : (x == ("__classdict__" : Str)) = false := by decide) : DPE C (.Name x pos) (dVar i) := ⟨_, pe_var hN hv hd hcd, sim_var i nc⟩
abbrev DO2 := List T → T → T → DQ → Prop
abbrev DO1 := List T → T → DQ → Prop
def dOp (f : DO2) (fa fb : DE) : DE := fun ρ Q => fa ρ fun x ρ1 => fb ρ1 fun y ρ2 => f ρ2 x y Q
def dUn (f : DO1) (fa : DE) : DE := fun ρ Q => fa ρ fun x ρ1 => f ρ1 x Q
def SimR2 (C : Ctx) (r : R2) (f : DO2) : Prop := ∀ (σ : St) (H : Hp) (ρ : List T) (vs : List V) (τ : List T) (u v : V) (x y : T) (Qd : DQ) (Q : VK), SS C σ H ρ (vs ++ [u] ++ [v]) (τ ++ [x] ++ [y]) → f ρ x y Qd →
  (∀ w H' z ρ', SS C σ H' ρ' (vs ++ [w]) (τ ++ [z]) → Qd z ρ' → Q w H') → r u v H Q
def SimR1 (C : Ctx) (r : V → Hp → VK → Prop) (f : DO1) : Prop := ∀ (σ : St) (H : Hp) (ρ : List T) (vs : List V) (τ : List T) (u : V) (x : T) (Qd : DQ) (Q : VK), SS C σ H ρ (vs ++ [u]) (τ ++ [x]) → f ρ x Qd →
  (∀ w H' z ρ', SS C σ H' ρ' (vs ++ [w]) (τ ++ [z]) → Qd z ρ' → Q w H') → r u H Q
variable {a b : Expr} {fa fb : DE} {pos : Pos}
theorem sim_op {r : R2} {f : DO2} {ta tb : TE} (h : SimR2 C r f) (ha : Sim C ta fa) (hb : Sim C tb fb) : Sim C (tOp r ta tb) (dOp f fa fb) := fun σ H ρ vs τ Qd Q I q k =>
  ha σ H ρ vs τ _ _ I q fun u H1 x ρ1 I1 q1 => hb σ H1 ρ1 _ _ _ _ I1 q1 fun v H2 y ρ2 I2 q2 => h σ H2 ρ2 vs τ u v x y Qd Q I2 q2 k
theorem de_op {op : Operator} {r : R2} {f : DO2} (ho : OpR C.X (binaryOp op) r) (hs : SimR2 C r f) (ha : DPE C a fa) (hb : DPE C b fb) : DPE C (.BinOp a op b pos) (dOp f fa fb) :=
  let ⟨_, pa, sa⟩ := ha.ex; let ⟨_, pb, sb⟩ := hb.ex; ⟨_, pe_op ho pa pb, sim_op hs sa sb⟩
theorem de_cmp {op : CmpOp} {r : R2} {f : DO2} (ho : OpR C.X (compareOp op) r) (hs : SimR2 C r f) (ha : DPE C a fa) (hb : DPE C b fb) (hm : behindInMarks op b = false) : DPE C (.Compare a [op] [b] pos) (dOp f fa fb) :=
  let ⟨_, pa, sa⟩ := ha.ex; let ⟨_, pb, sb⟩ := hb.ex; ⟨_, pe_cmpR ho pa pb hm, sim_op hs sa sb⟩
theorem OpR.or {X : Cx} {f : Value → Value → Sem Value} {r r' : R2} (h : OpR X f r) (h' : OpR X f r') : OpR X f (fun x y H Q => r x y H Q ∨ r' x y H Q) := by
  intro pins s σ H x y v u Q I rx ry q
  rcases q with q | q
  · exact h pins s σ H x y v u Q I rx ry q
  · exact h' pins s σ H x y v u Q I rx ry q
theorem CallR.or {X : Cx} {f : Value} {r r' : List V → Hp → VK → Prop} (h : CallR X f r) (h' : CallR X f r') : CallR X f (fun x H Q => r x H Q ∨ r' x H Q) := by
  intro pins s σ H x v Q I rx q
  rcases q with q | q
  · exact h pins s σ H x v Q I rx q
  · exact h' pins s σ H x v Q I rx q
def pu2 (f : D → D → (D → Prop) → Prop) : DO2 := fun ρ x y Q => wD (lk ρ x) fun d => wD (lk ρ y) fun e => f d e fun w => Q (.dat w) ρ
def pu1 (f : D → (D → Prop) → Prop) : DO1 := fun ρ x Q => wD (lk ρ x) fun d => f d fun w => Q (.dat w) ρ
theorem sim_pu2 {r : R2} {f : D → D → (D → Prop) → Prop} (h : ∀ (H : Hp) (d e : D) (u v : V) (Qd : D → Prop) (Q : VK), DIs C.K N0 H d u → DIs C.K N0 H e v → f d e Qd → (∀ w z, sv w = some z → Qd w → Q z H) → r u v H Q) : SimR2 C r (pu2 f) := by
  intro σ H ρ vs τ u v x y Qd Q I q k
  obtain ⟨d, e1, q⟩ := wD_some q
  obtain ⟨e, e2, q⟩ := wD_some q
  exact h H d e u v _ Q (I.lk2 e1) (I.lk1 e2) q fun w z hz hq => k z H _ ρ (I.pop2.sc hz) hq
def fII (g : Int → Int → (D → Prop) → Prop) : D → D → (D → Prop) → Prop := fun d e k => match d, e with
  | .int i, .int j => g i j k
  | _, _ => False
theorem sim_fII {r : R2} {g : Int → Int → (D → Prop) → Prop} (h : ∀ (H : Hp) (i j : Int) (Qd : D → Prop) (Q : VK), g i j Qd → (∀ w z, sv w = some z → Qd w → Q z H) → r (.int i) (.int j) H Q) : SimR2 C r (pu2 (fII g)) := by
  refine sim_pu2 fun H d e u v Qd Q du ev q k => ?_
  cases d <;> cases e <;> first | exact q.elim | skip
  rw [du.int_eq, ev.int_eq]
  exact h H _ _ Qd Q q k
abbrev dSub : DO2 := pu2 (fII fun i j k => k (.int (i - j)))
theorem de_sub (ha : DPE C a fa) (hb : DPE C b fb) : DPE C (.BinOp a .Sub b pos) (dOp dSub fa fb) :=
  de_op op_sub (sim_fII fun H i j Qd Q q k => ⟨i, j, rfl, rfl, k _ _ rfl q⟩) ha hb
abbrev dMod : DO2 := pu2 (fII fun i j k => 0 < j ∧ k (.int (i % j)))
theorem de_mod (ha : DPE C a fa) (hb : DPE C b fb) : DPE C (.BinOp a .Mod b pos) (dOp dMod fa fb) :=
  de_op op_mod (sim_fII fun H i j Qd Q q k => ⟨i, j, rfl, rfl, q.1, k _ _ rfl q.2⟩) ha hb
abbrev dFdiv : DO2 := pu2 (fII fun i j k => CDivW i j ∧ k (.int (i / j)))
theorem de_fdiv (ha : DPE C a fa) (hb : DPE C b fb) : DPE C (.BinOp a .FloorDiv b pos) (dOp dFdiv fa fb) :=
  de_op op_fdivW (sim_fII fun H i j Qd Q q k => ⟨i, j, rfl, rfl, q.1, k _ _ rfl q.2⟩) ha hb
abbrev dPow : DO2 := pu2 (fII fun i j k => CPow i j ∧ k (.int (i ^ j.toNat)))
theorem de_pow (ha : DPE C a fa) (hb : DPE C b fb) : DPE C (.BinOp a .Pow b pos) (dOp dPow fa fb) :=
  de_op op_pow (sim_fII fun H i j Qd Q q k => ⟨i, j, rfl, rfl, q.1, k _ _ rfl q.2⟩) ha hb
abbrev dLt : DO2 := pu2 (fII fun i j k => k (.bool (decide (i < j))))
abbrev dLe : DO2 := pu2 (fII fun i j k => k (.bool (decide (i ≤ j))))
abbrev dGt : DO2 := pu2 (fII fun i j k => k (.bool (decide (j < i))))
abbrev dGe : DO2 := pu2 (fII fun i j k => k (.bool (decide (j ≤ i))))
def dNeg : DO1 := pu1 fun d k => match d with
  | .int i => k (.int (-i))
  | _ => False
mutual
theorem DIs.dp {K : PySem.W.Frag} {B : Addr → Prop} {H : Hp} : ∀ {d : D} {v : V}, DIs K B H d v → d.canLay0 = true → Dp K H v d
  | _, _, .none, _ => .non
  | _, _, .bool b, _ => .bl b
  | _, _, .int i, _ => .int i
  | _, _, .str x, _ => .str x
  | _, _, .list h _ t, e => .lst (.of h) (DIsL.dp t (by simpa [PyData.canLay0] using e))
  | _, _, .tuple h t, e => .tup h.sq (DIsL.dp t (by simpa [PyData.canLay0] using e))
  | _, _, .dict _ _ _ _, e => by simp [PyData.canLay0] at e
theorem DIsL.dp {K : PySem.W.Frag} {B : Addr → Prop} {H : Hp} : ∀ {ds : List D} {vs : List V}, DIsL K B H ds vs → PyData.canLayAll0 ds = true → DpAll K H vs ds
  | _, _, .nil, _ => .nil
  | _, _, .cons r t, e => by
    simp only [PyData.canLayAll0, Bool.and_eq_true] at e
    exact .cons (DIs.dp r e.1) (DIsL.dp t e.2)
end
theorem DIs.dpS {K : PySem.W.Frag} {B : Addr → Prop} {H : Hp} {d : D} {v : V} (h : DIs K B H d v) (e : SeqAt.shaped d = true) : Dp K H v d := h.dp (SeqAt.canLay_of_shaped e)
abbrev dEq : DO2 := pu2 fun d e k => match d, e with
  | .str x, .str y => k (.bool (decide (x = y)))
  | d, e => SeqAt.shaped d = true ∧ SeqAt.shaped e = true ∧ k (.bool (PyData.eqv d e))
abbrev dNe : DO2 := pu2 fun d e k => match d, e with
  | .str x, .str y => k (.bool (!decide (x = y)))
  | d, e => SeqAt.shaped d = true ∧ SeqAt.shaped e = true ∧ k (.bool (!PyData.eqv d e))
theorem dec_strV (x y : Str) : decide (V.str x = V.str y) = decide (x = y) := by
  by_cases h : x = y
  · rw [h, decide_eq_true rfl, decide_eq_true rfl]
  · rw [decide_eq_false h, decide_eq_false fun z => h (V.str.inj z)]
theorem sim_eqD (hu : C.X.A.units + 64 < cLine) : OpR C.X (compareOp .Eq) (fun x y H Q => rEq x y H Q ∨ rEqD C.X.K x y H Q) ∧ SimR2 C (fun x y H Q => rEq x y H Q ∨ rEqD C.X.K x y H Q) dEq :=
  ⟨OpR.or op_eq (op_eqD hu), sim_pu2 fun H d e u v Qd Q du ev q k => by
    split at q
    · refine .inl ⟨by rw [du.str_eq, ev.str_eq]; rfl, ?_⟩
      rw [du.str_eq, ev.str_eq, dec_strV]
      exact k _ _ rfl q
    · exact .inr ⟨_, _, du.dpS q.1, ev.dpS q.2.1, q.1, q.2.1, k _ _ rfl q.2.2⟩⟩
theorem sim_neD (hu : C.X.A.units + 64 < cLine) : OpR C.X (compareOp .NotEq) (fun x y H Q => rNe x y H Q ∨ rNeD C.X.K x y H Q) ∧ SimR2 C (fun x y H Q => rNe x y H Q ∨ rNeD C.X.K x y H Q) dNe :=
  ⟨OpR.or op_ne (op_neD hu), sim_pu2 fun H d e u v Qd Q du ev q k => by
    split at q
    · refine .inl ⟨by rw [du.str_eq, ev.str_eq]; rfl, ?_⟩
      rw [du.str_eq, ev.str_eq, dec_strV]
      exact k _ _ rfl q
    · exact .inr ⟨_, _, du.dpS q.1, ev.dpS q.2.1, q.1, q.2.1, k _ _ rfl q.2.2⟩⟩
abbrev dIn : DO2 := pu2 fun d e k => match e with
  | .list ds => SeqAt.shaped d = true ∧ SeqAt.shaped (.list ds) = true ∧ k (.bool (ds.any fun z => PyData.eqv z d))
  | _ => False
abbrev dNotIn : DO2 := pu2 fun d e k => match e with
  | .list ds => SeqAt.shaped d = true ∧ SeqAt.shaped (.list ds) = true ∧ k (.bool (!ds.any fun z => PyData.eqv z d))
  | _ => False
def isN : D → Bool
  | .none => true
  | _ => false
theorem isN_eq {K B H d v} (h : DIs K B H d v) : decide (v = V.non) = isN d := by
  cases h <;> simp [isN]
abbrev dIsN : DO2 := pu2 fun d e k => match e with
  | .none => k (.bool (isN d))
  | _ => False
abbrev dIsNotN : DO2 := pu2 fun d e k => match e with
  | .none => k (.bool (!isN d))
  | _ => False
abbrev dIsB : DO2 := pu2 fun d e k => match d, e with
  | .bool x, .bool y => k (.bool (decide (x = y)))
  | _, _ => False
abbrev dIsNotB : DO2 := pu2 fun d e k => match d, e with
  | .bool x, .bool y => k (.bool (!decide (x = y)))
  | _, _ => False
end
end Ds
namespace Ds
open PySem L2
theorem gather {K : PySem.W.Frag} {B Bb : Addr → Prop} {σ : St} {H : Hp} : ∀ (ts : List T) (xs : List V) (f : Nat → List Addr), ts.length = xs.length → (∀ (j : Nat) (t : T), ts[j]? = some t → ∃ v, xs[j]? = some v ∧ TIs K B Bb σ H t v (f j)) →
    (∀ j, (f j).Nodup) → (∀ i j a, i ≠ j → a ∈ f i → a ∉ f j) → ∃ os, TIsL K B Bb σ H ts xs os ∧ os.Nodup ∧ ∀ a, a ∈ os → ∃ j, j < ts.length ∧ a ∈ f j
  | [], [], f, _, _, _, _ => ⟨[], .nil, List.nodup_nil, fun _ z => by simp at z⟩
  | [], _ :: _, _, h, _, _, _ => by simp at h
  | _ :: _, [], _, h, _, _, _ => by simp at h
  | t :: ts, x :: xs, f, h, r, nd, dj => by
    obtain ⟨v, hv, r0⟩ := r 0 t rfl
    simp at hv; subst hv
    obtain ⟨os, q, n2, s⟩ := gather ts xs (fun j => f (j + 1)) (by simpa using h) (fun j u e => r (j + 1) u (by simpa using e)) (fun j => nd _) fun i j a hij => dj _ _ a (by omega)
    refine ⟨f 0 ++ os, .cons r0 q, List.nodup_append.mpr ⟨nd 0, n2, fun a ha b hb e => ?_⟩, fun a ha => ?_⟩
    · subst e
      obtain ⟨j, _, hj⟩ := s a hb
      exact dj 0 (j + 1) a (by omega) ha hj
    · rcases List.mem_append.mp ha with ha | ha
      · exact ⟨0, by simp, ha⟩
      · obtain ⟨j, hj, q⟩ := s a ha
        exact ⟨j + 1, by simpa using hj, q⟩
def datL : List T → Option (List D)
  | [] => some []
  | t :: ts => match t with
    | .dat d => (datL ts).map fun ds => d :: ds
    | _ => none
theorem datL_is {K : PySem.W.Frag} {B Bb : Addr → Prop} {σ : St} {H : Hp} : ∀ {ts : List T} {vs : List V} {os : List Addr} {ds : List D}, TIsL K B Bb σ H ts vs os → datL ts = some ds → DIsL K B H ds vs
  | _, _, _, _, .nil, e => by simp [datL] at e; subst e; exact .nil
  | t :: _, _, _, _, .cons r q, e => by
    unfold datL at e
    cases t with
    | dat d =>
      simp only [Option.map_eq_some_iff] at e
      obtain ⟨ds, e1, rfl⟩ := e
      exact .cons r.dat_inv (datL_is q e1)
    | _ => simp at e
def small {α : Type} : Nat → List α → Bool
  | _, [] => true
  | 0, _ :: _ => false
  | n + 1, _ :: t => small n t
theorem small_le {α : Type} : ∀ {n : Nat} {l : List α}, small n l = true → l.length ≤ n
  | _, [], _ => Nat.zero_le _
  | 0, _ :: _, h => by simp [small] at h
  | n + 1, _ :: t, h => by have := small_le (n := n) (l := t) (by simpa [small] using h); simp; omega
def mkLK (ts : List T) : T := match datL ts with
  | some ds => .own ds
  | none => .lst ts
def mkTK (ts : List T) : T := match datL ts with
  | some ds => .dat (.tuple ds)
  | none => .tup ts
section
variable {C : Ctx} {σ σ' : St} {H H' : Hp} {ρ ρ' : List T} {vs vs' xs ys : List V} {τ τ' ts us : List T} {ow : Nat → List Addr}
theorem SI.nbar (I : SI C σ H ρ vs τ ow) {b : Addr} (e : H b = none) : ¬ Bar C ow b := fun z => by
  rcases z with ⟨k, z⟩ | z
  · obtain ⟨u, e2, _⟩ := I.ot k b z
    rw [e] at e2; cases e2
  · obtain ⟨u, e2, _⟩ := I.ok.b0 b z
    exact I.tr b (by rw [e2]; simp) e
theorem same_upd {p : Addr} {o : HO} (e : H p = none) : Same H (upd H p o) := fun b u q => by rw [upd_ne (ne_of_none q e)]; exact q
theorem SI.gather (I : SI C σ H ρ (vs ++ xs) (τ ++ ts) ow) (hτ : τ.length = vs.length) : ∃ os, TIsL C.K (Bar C ow) (BarB C ow) (wipe σ C.cv) H ts xs os ∧ os.Nodup ∧ ∀ a, a ∈ os → ∃ j, ρ.length + τ.length ≤ j ∧ a ∈ ow j := by
  have hl := I.lt
  simp at hl
  obtain ⟨os, r, n, s⟩ := Ds.gather (K := C.K) (B := Bar C ow) (Bb := BarB C ow) (σ := wipe σ C.cv) (H := H) ts xs (fun j => ow (ρ.length + τ.length + j)) (by omega) (fun j t e => by
    obtain ⟨v, hv, r⟩ := I.temp (j := τ.length + j) (t := t) (by rw [List.getElem?_append_right (by omega)]; simpa using e)
    rw [hτ, List.getElem?_append_right (by omega)] at hv
    simp at hv
    exact ⟨v, hv, by rw [Nat.add_assoc]; exact r⟩) (fun j => I.nd _) fun i j a hij => I.dj _ _ a (by omega)
  exact ⟨os, r, n, fun a ha => by
    obtain ⟨j, _, q⟩ := s a ha
    exact ⟨_, by omega, q⟩⟩
def Low (C : Ctx) (ow : Nat → List Addr) (n : Nat) (b : Addr) : Prop := (∃ k, k < n ∧ b ∈ ow k) ∨ C.B0 b
theorem Low.bar {ow : Nat → List Addr} {n : Nat} {b : Addr} (h : Low C ow n b) : Bar C ow b := h.elim (fun ⟨k, _, q⟩ => .inl ⟨k, q⟩) .inr
theorem SI.one' (I : SI C σ H ρ (vs ++ xs) (τ ++ ts) ow) (hτ : τ.length = vs.length) (hs : Same H H') (v : V) (t : T) (o : List Addr)
    (rel : ∀ ow' : Nat → List Addr, (∀ b o, H b = some o → ¬ Bar C ow b → H' b = some o ∧ ¬ Bar C ow' b) → (∀ b o, H b = some o → ¬ BarB C ow b → H' b = some o ∧ ¬ BarB C ow' b) →
      (∀ b, Bar C ow' b → Low C ow (ρ.length + τ.length) b ∨ b ∈ o) → TIs C.K (Bar C ow') (BarB C ow') (wipe σ C.cv) H' t v o)
    (nd : o.Nodup) (src : ∀ a, a ∈ o → (∃ i, ρ.length + τ.length ≤ i ∧ a ∈ ow i) ∨ H a = none) (ot : ∀ a, a ∈ o → ∃ u, H' a = some u ∧ Chg u) : SS C σ H' ρ (vs ++ [v]) (τ ++ [t]) := by
  refine ⟨_, SI.temps (ow' := fun k => if k < ρ.length + τ.length then ow k else o1 o (k - (ρ.length + τ.length))) I hτ hs (by simp) (o1 o) rfl (fun m1 m2 j u e => ?_) (fun j => ?_) (fun i j a hij hi => ?_) (fun j a h => ?_) (fun j a h => ?_)⟩
  · cases j with
    | zero =>
      simp at e; subst e
      refine ⟨v, rfl, rel _ m1 m2 fun b z => ?_⟩
      rcases z with ⟨k, z⟩ | z
      · by_cases hk : k < ρ.length + τ.length
        · simp only [if_pos hk] at z; exact .inl (.inl ⟨k, hk, z⟩)
        · simp only [if_neg hk] at z
          cases hq : k - (ρ.length + τ.length) with
          | zero => rw [hq] at z; exact .inr z
          | succ m => rw [hq] at z; simp [o1] at z
      · exact .inl (.inr z)
    | succ j => simp at e
  · cases j with
    | zero => exact nd
    | succ j => exact List.nodup_nil
  · cases i with
    | zero => cases j with
      | zero => exact absurd rfl hij
      | succ j => simp [o1]
    | succ i => simp [o1] at hi
  · cases j with
    | zero => exact src a h
    | succ j => simp [o1] at h
  · cases j with
    | zero => exact ot a h
    | succ j => simp [o1] at h
theorem SI.one (I : SI C σ H ρ (vs ++ xs) (τ ++ ts) ow) (hτ : τ.length = vs.length) (hs : Same H H') (v : V) (t : T) (o : List Addr)
    (rel : ∀ ow' : Nat → List Addr, (∀ b o, H b = some o → ¬ Bar C ow b → H' b = some o ∧ ¬ Bar C ow' b) → (∀ b o, H b = some o → ¬ BarB C ow b → H' b = some o ∧ ¬ BarB C ow' b) →
      (∀ b, Bar C ow' b → Bar C ow b ∨ b ∈ o) → TIs C.K (Bar C ow') (BarB C ow') (wipe σ C.cv) H' t v o)
    (nd : o.Nodup) (src : ∀ a, a ∈ o → (∃ i, ρ.length + τ.length ≤ i ∧ a ∈ ow i) ∨ H a = none) (ot : ∀ a, a ∈ o → ∃ u, H' a = some u ∧ Chg u) : SS C σ H' ρ (vs ++ [v]) (τ ++ [t]) :=
  I.one' hτ hs v t o (fun ow' m1 m2 hb => rel ow' m1 m2 fun b z => (hb b z).imp Low.bar id) nd src ot
theorem SI.newL (I : SI C σ H ρ (vs ++ xs) (τ ++ ts) ow) (hτ : τ.length = vs.length) {p : Addr} (hp : H p = none) {zs : List V} {ds : List D} (r : DIsL C.K (Bar C ow) H ds zs) : SS C σ (upd H p (.lst zs)) ρ (vs ++ [.ref p]) (τ ++ [.own ds]) :=
  I.one hτ (same_upd hp) _ _ [p] (fun ow' m1 m2 _ => .own upd_same (r.move m1)) (by simp) (fun a h => by simp at h; subst h; exact .inr hp) fun a h => by simp at h; subst h; exact ⟨_, upd_same, trivial⟩
theorem SI.newLB (I : SI C σ H ρ (vs ++ xs) (τ ++ ts) ow) (hτ : τ.length = vs.length) {p : Addr} (hp : H p = none) {zs : List V} {ds : List D} (r : DIsL C.K (BarB C ow) H ds zs) : SS C σ (upd H p (.lst zs)) ρ (vs ++ [.ref p]) (τ ++ [.lbo ds]) :=
  I.one hτ (same_upd hp) _ _ [p] (fun ow' m1 m2 _ => .lbo upd_same (r.move m2)) (by simp) (fun a h => by simp at h; subst h; exact .inr hp) fun a h => by simp at h; subst h; exact ⟨_, upd_same, trivial⟩
theorem SI.newT (I : SI C σ H ρ (vs ++ xs) (τ ++ ts) ow) (hτ : τ.length = vs.length) {p : Addr} (hp : H p = none) {ob : Obj} (hd : ob.dict = none) {zs : List V} {ds : List D} (r : DIsL C.K (Bar C ow) H ds zs) : SS C σ (upd H p (.frz ob (.tup zs))) ρ (vs ++ [.ref p]) (τ ++ [.dat (.tuple ds)]) :=
  I.one hτ (same_upd hp) _ _ [] (fun ow' m1 m2 hb => .dat (.tuple (.inl ⟨⟨_, upd_same, hd⟩, fun z => (hb p z).elim (I.nbar hp) (by simp)⟩) (r.move m1))) (by simp) (fun a h => by simp at h) fun a h => by simp at h
theorem BarB.bar {ow : Nat → List Addr} {b : Addr} (h : BarB C ow b) : Bar C ow b := .inl h
theorem SI.newTB (I : SI C σ H ρ (vs ++ xs) (τ ++ ts) ow) (hτ : τ.length = vs.length) {p : Addr} (hp : H p = none) {ob : Obj} (hd : ob.dict = none) {zs : List V} {ds : List D} (r : DIsL C.K (BarB C ow) H ds zs) : SS C σ (upd H p (.frz ob (.tup zs))) ρ (vs ++ [.ref p]) (τ ++ [.bor (.tuple ds)]) :=
  I.one hτ (same_upd hp) _ _ [] (fun ow' m1 m2 hb => .bor (.tuple (.inl ⟨⟨_, upd_same, hd⟩, fun z => (hb p z.bar).elim (I.nbar hp) (by simp)⟩) (r.move m2))) (by simp) (fun a h => by simp at h) fun a h => by simp at h
theorem SI.oneD (I : SI C σ H ρ (vs ++ xs) (τ ++ ts) ow) (hτ : τ.length = vs.length) {v : V} {d : D} (r : DIs C.K (Bar C ow) H d v) : SS C σ H ρ (vs ++ [v]) (τ ++ [.dat d]) :=
  I.one hτ (Same.refl H) _ _ [] (fun ow' m1 m2 hb => .dat (r.move m1)) (by simp) (fun a h => by simp at h) fun a h => by simp at h
theorem SI.oneB (I : SI C σ H ρ (vs ++ xs) (τ ++ ts) ow) (hτ : τ.length = vs.length) {v : V} {d : D} (r : DIs C.K (BarB C ow) H d v) : SS C σ H ρ (vs ++ [v]) (τ ++ [.bor d]) :=
  I.one hτ (Same.refl H) _ _ [] (fun ow' m1 m2 hb => .bor (r.move m2)) (by simp) (fun a h => by simp at h) fun a h => by simp at h
theorem SI.dispLK (I : SI C σ H ρ (vs ++ xs) (τ ++ ts) ow) (hτ : τ.length = vs.length) {p : Addr} (hp : H p = none) : SS C σ (upd H p (.lst xs)) ρ (vs ++ [.ref p]) (τ ++ [mkLK ts]) := by
  obtain ⟨os, r, n, s⟩ := I.gather hτ
  unfold mkLK
  cases e : datL ts with
  | some ds => exact I.newL hτ hp (datL_is r e)
  | none =>
    refine I.one hτ (same_upd hp) _ _ (p :: os) (fun ow' m1 m2 _ => .lst upd_same (r.move m1 m2 (fun b o hb e => same_upd hp b o e) (.inl rfl))) ?_ (fun a h => ?_) fun a h => ?_
    · refine List.nodup_cons.mpr ⟨fun z => ?_, n⟩
      obtain ⟨j, _, q⟩ := s p z
      obtain ⟨u, e2, _⟩ := I.ot j p q
      rw [hp] at e2; cases e2
    · rcases List.mem_cons.mp h with rfl | h
      · exact .inr hp
      · obtain ⟨j, hj, q⟩ := s a h
        exact .inl ⟨j, hj, q⟩
    · rcases List.mem_cons.mp h with rfl | h
      · exact ⟨_, upd_same, trivial⟩
      · obtain ⟨j, hj, q⟩ := s a h
        obtain ⟨u, e2, c⟩ := I.ot j a q
        exact ⟨u, same_upd hp _ _ e2, c⟩
theorem SI.dispTK (I : SI C σ H ρ (vs ++ xs) (τ ++ ts) ow) (hτ : τ.length = vs.length) {p : Addr} (hp : H p = none) {ob : Obj} (hd : ob.dict = none) : SS C σ (upd H p (.frz ob (.tup xs))) ρ (vs ++ [.ref p]) (τ ++ [mkTK ts]) := by
  obtain ⟨os, r, n, s⟩ := I.gather hτ
  unfold mkTK
  cases e : datL ts with
  | some ds => exact I.newT hτ hp hd (datL_is r e)
  | none =>
    have np : p ∉ os := fun z => by
      obtain ⟨j, _, q⟩ := s p z
      obtain ⟨u, e2, _⟩ := I.ot j p q
      rw [hp] at e2; cases e2
    refine I.one hτ (same_upd hp) _ _ os (fun ow' m1 m2 hb => .tup ⟨_, upd_same, hd⟩ (fun z => (hb p z).elim (I.nbar hp) np) (r.move m1 m2 (fun b o hb e => same_upd hp b o e) (.inl rfl))) n (fun a h => ?_) fun a h => ?_
    · obtain ⟨j, hj, q⟩ := s a h
      exact .inl ⟨j, hj, q⟩
    · obtain ⟨j, hj, q⟩ := s a h
      obtain ⟨u, e2, c⟩ := I.ot j a q
      exact ⟨u, same_upd hp _ _ e2, c⟩
theorem SS.lenA (I : SS C σ H ρ (vs ++ xs) (τ ++ ts)) (h : ts.length = xs.length) : τ.length = vs.length := by
  obtain ⟨ow, J⟩ := I
  have := J.lt
  simp at this
  omega
end
def dNil : DA := fun ρ Q => Q [] ρ
def dCons (fa : DE) (fr : DA) : DA := fun ρ Q => fa ρ fun x ρ1 => fr ρ1 fun xs ρ2 => Q (x :: xs) ρ2
section
variable {C : Ctx} {e : Expr} {es : List Expr} {fe : DE} {fs : DA} {pos : Pos}
theorem da_nil : DPA C [] dNil := ⟨_, pa_nil, fun σ H ρ vs τ Qd Q I h k => k [] H [] ρ (by simpa using I) rfl h⟩
theorem da_cons (ha : DPE C e fe) (hr : DPA C es fs) (hs : starEach (e :: es) C.X.env = (false, eval e C.X.env) :: starEach es C.X.env := by rfl) : DPA C (e :: es) (dCons fe fs) :=
  let ⟨_, pa, sa⟩ := ha.ex; let ⟨_, pr, sr⟩ := hr.ex
  ⟨_, pa_cons pa pr hs, fun σ H ρ vs τ Qd Q I h k => sa σ H ρ vs τ _ _ I h fun v H1 x ρ1 I1 q1 => sr σ H1 ρ1 _ _ _ _ I1 q1 fun xs H2 ts ρ2 I2 hl q2 =>
    k (v :: xs) H2 (x :: ts) ρ2 (by simpa using I2) (by simpa using hl) q2⟩
end
mutual
def frz : T → Option D
  | .dat d => some d
  | .bor d => match safe d with
    | true => some d
    | false => none
  | .own ds => some (.list ds)
  | .lst ts => (frzL ts).map .list
  | .tup ts => (frzL ts).map .tuple
  | .dct kvs => some (.dict (kvs.map fun p => (kD p.1, p.2)))
  | .lbo _ => none
  | .scr _ => none
  | .exc _ => none
  | .ins _ _ => none
  | .mem _ => none
  | .ali _ => none
  | .emp => none
def frzL : List T → Option (List D)
  | [] => some []
  | t :: ts => (frz t).bind fun d => (frzL ts).map fun ds => d :: ds
end
section
variable {K : PySem.W.Frag} {B B' Bb : Addr → Prop} {σ : St} {H : Hp}
mutual
theorem TIs.frz (ht : ∀ a xs, (H a = some (.tup xs) ∨ ∃ o, H a = some (.frz o (.tup xs))) → ¬ Bb a → ¬ B a) (h1 : ∀ b o, H b = some o → ¬ B b → ¬ B' b) : ∀ {t : T} {v : V} {os : List Addr} {d : D}, (∀ a ∈ os, ¬ B' a) → TIs K B Bb σ H t v os → Ds.frz t = some d → DIs K B' H d v
  | _, _, _, _, _, .dat h, e => by simp only [Ds.frz, Option.some.injEq] at e; subst e; exact h.move fun b o q n => ⟨q, h1 b o q n⟩
  | _, _, _, d, _, .bor (d := d') h, e => by
    unfold Ds.frz at e
    cases z : Ds.safe d' with
    | false => rw [z] at e; simp at e
    | true => rw [z] at e; simp at e; subst e; exact (h.safe ht z).move fun b o q n => ⟨q, h1 b o q n⟩
  | _, _, _, _, no, .own h t, e => by simp only [Ds.frz, Option.some.injEq] at e; subst e; exact .list h (no _ (by simp)) (t.move fun b o q n => ⟨q, h1 b o q n⟩)
  | _, _, _, _, no, .lst h t, e => by
    simp only [Ds.frz, Option.map_eq_some_iff] at e
    obtain ⟨ds, e1, rfl⟩ := e
    exact .list h (no _ (by simp)) (TIsL.frz ht h1 (fun a ha => no a (by simp [ha])) t e1)
  | _, _, _, _, no, .tup h n t, e => by
    simp only [Ds.frz, Option.map_eq_some_iff] at e
    obtain ⟨ds, e1, rfl⟩ := e
    exact .tuple (.inl ⟨h, let ⟨_, e, _⟩ := h; h1 _ _ e n⟩) (TIsL.frz ht h1 no t e1)
  | _, _, _, _, no, .dct h t q, e => by
    simp only [Ds.frz, Option.some.injEq] at e
    subst e; subst q
    exact .dict h (no _ (by simp)) (t.move fun b o q n => ⟨q, h1 b o q n⟩) (zip_kvs (by have := t.length; simpa using this))
  | _, _, _, _, _, .lbo _ _, e => by simp [Ds.frz] at e
  | _, _, _, _, _, .scr h, e => by simp [Ds.frz] at e
  | _, _, _, _, _, .exc h, e => by simp [Ds.frz] at e
  | _, _, _, _, _, .ins _ _ _ _, e => by simp [Ds.frz] at e
  | _, _, _, _, _, .mem _ _, e => by simp [Ds.frz] at e
  | _, _, _, _, _, .ali h, e => by simp [Ds.frz] at e
theorem TIsL.frz (ht : ∀ a xs, (H a = some (.tup xs) ∨ ∃ o, H a = some (.frz o (.tup xs))) → ¬ Bb a → ¬ B a) (h1 : ∀ b o, H b = some o → ¬ B b → ¬ B' b) : ∀ {ts : List T} {vs : List V} {os : List Addr} {ds : List D}, (∀ a ∈ os, ¬ B' a) → TIsL K B Bb σ H ts vs os → Ds.frzL ts = some ds → DIsL K B' H ds vs
  | _, _, _, _, _, .nil, e => by simp only [Ds.frzL, Option.some.injEq] at e; subst e; exact .nil
  | _, _, _, _, no, .cons r t, e => by
    simp only [Ds.frzL, Option.bind_eq_some_iff, Option.map_eq_some_iff] at e
    obtain ⟨d, e1, ds, e2, rfl⟩ := e
    exact .cons (TIs.frz ht h1 (fun a ha => no a (by simp [ha])) r e1) (TIsL.frz ht h1 (fun a ha => no a (by simp [ha])) t e2)
end
end
theorem frzL_of_datL : ∀ {ts : List T} {ds : List D}, datL ts = some ds → frzL ts = some ds
  | [], _, e => by simp only [datL, Option.some.injEq] at e; subst e; rfl
  | t :: ts, _, e => by
    unfold datL at e
    cases t with
    | dat d =>
      simp only [Option.map_eq_some_iff] at e
      obtain ⟨ds, e1, rfl⟩ := e
      simp only [frzL, frz, frzL_of_datL e1, Option.bind_some, Option.map_some]
    | _ => simp at e
def mkL (ts : List T) : T := match frzL ts with
  | some ds => .own ds
  | none => .lst ts
def mkT (ts : List T) : T := match frzL ts with
  | some ds => .dat (.tuple ds)
  | none => .tup ts
section
variable {C : Ctx} {σ : St} {H : Hp} {ρ : List T} {vs xs : List V} {τ ts : List T} {ow : Nat → List Addr}
theorem SI.tupOk0 (I : SI C σ H ρ vs τ ow) : ∀ a xs, (H a = some (.tup xs) ∨ ∃ o, H a = some (.frz o (.tup xs))) → ¬ BarB C ow a → ¬ Bar C ow a := fun a xs e n z => by
  rcases z with z | z
  · exact n z
  · obtain ⟨o, e2, c⟩ := I.ok.b0 a z
    have ha : a ∉ C.os0 := fun q => I.ok.ob a q z
    have := I.kp a o e2 ha
    rcases e with e | ⟨o2, e⟩
    · rw [e] at this; cases this; exact c
    · rw [e] at this; cases this; exact c
theorem SI.frzA (I : SI C σ H ρ (vs ++ xs) (τ ++ ts) ow) (hτ : τ.length = vs.length) {ds : List D} (e : frzL ts = some ds) {o : List Addr} (ho : ∀ a ∈ o, H a = none) {ow' : Nat → List Addr} (hb : ∀ b, Bar C ow' b → Low C ow (ρ.length + τ.length) b ∨ b ∈ o) : DIsL C.K (Bar C ow') H ds xs := by
  obtain ⟨os, r, n, s⟩ := I.gather hτ
  refine r.frz I.tupOk0 (fun b u eb nb z => ?_) (fun a ha z => ?_) e
  · rcases hb b z with q | q
    · exact nb q.bar
    · rw [ho b q] at eb; cases eb
  · obtain ⟨j, hj, q⟩ := s a ha
    rcases hb a z with (⟨k, hk, q2⟩ | q2) | q2
    · exact I.dj k j a (by omega) q2 q
    · exact I.nb0 q q2
    · obtain ⟨u, e2, _⟩ := I.ot j a q
      rw [ho a q2] at e2; cases e2
theorem SI.dispL (I : SI C σ H ρ (vs ++ xs) (τ ++ ts) ow) (hτ : τ.length = vs.length) {p : Addr} (hp : H p = none) : SS C σ (upd H p (.lst xs)) ρ (vs ++ [.ref p]) (τ ++ [mkL ts]) := by
  unfold mkL
  cases e : frzL ts with
  | some ds =>
    refine I.one' hτ (same_upd hp) _ _ [p] (fun ow' m1 m2 hb => .own upd_same ((I.frzA hτ e (o := [p]) (fun a ha => by simp at ha; rw [ha]; exact hp) hb).move fun b o eb nb => ⟨same_upd hp b o eb, nb⟩)) (by simp) (fun a h => by simp at h; subst h; exact .inr hp) fun a h => by simp at h; subst h; exact ⟨_, upd_same, trivial⟩
  | none =>
    have := I.dispLK hτ hp
    unfold mkLK at this
    cases e2 : datL ts with
    | none => rw [e2] at this; exact this
    | some ds => rw [frzL_of_datL e2] at e; cases e
theorem SI.dispT (I : SI C σ H ρ (vs ++ xs) (τ ++ ts) ow) (hτ : τ.length = vs.length) {p : Addr} (hp : H p = none) {ob : Obj} (hd : ob.dict = none) : SS C σ (upd H p (.frz ob (.tup xs))) ρ (vs ++ [.ref p]) (τ ++ [mkT ts]) := by
  unfold mkT
  cases e : frzL ts with
  | some ds =>
    refine I.one' hτ (same_upd hp) _ _ [] (fun ow' m1 m2 hb => .dat (.tuple (.inl ⟨⟨_, upd_same, hd⟩, fun z => (hb p z).elim (fun q => I.nbar hp q.bar) (by simp)⟩) ((I.frzA hτ e (o := []) (fun a ha => by simp at ha) hb).move fun b o eb nb => ⟨same_upd hp b o eb, nb⟩))) (by simp) (fun a h => by simp at h) fun a h => by simp at h
  | none =>
    have := I.dispTK hτ hp hd
    unfold mkTK at this
    cases e2 : datL ts with
    | none => rw [e2] at this; exact this
    | some ds => rw [frzL_of_datL e2] at e; cases e
end
section
variable {C : Ctx} {es : List Expr} {fs : DA} {pos : Pos}
def dLst (f : DA) : DE := fun ρ Q => f ρ fun ts ρ' => match small 1000 ts with
  | true => Q (mkL ts) ρ'
  | false => False
def dTup (f : DA) : DE := fun ρ Q => f ρ fun ts ρ' => match small 1000 ts with
  | true => Q (mkT ts) ρ'
  | false => False
theorem small_ok {ts : List T} {P : Prop} (h : match small 1000 ts with | true => P | false => False) : ts.length ≤ sizeLine ∧ P := by
  cases e : small 1000 ts with
  | false => rw [e] at h; exact h.elim
  | true => rw [e] at h; exact ⟨Nat.le_trans (small_le e) (by decide), h⟩
theorem de_lst (h : DPA C es fs) : DPE C (.List es pos) (dLst fs) :=
  let ⟨_, pa, sa⟩ := h.ex
  ⟨_, pe_lst pa, fun σ H ρ vs τ Qd Q I q k => sa σ H ρ vs τ _ _ I q fun xs H1 ts ρ1 I1 hl q1 => by
    obtain ⟨z, q1⟩ := small_ok q1
    refine ⟨by omega, fun p hp => ?_⟩
    obtain ⟨ow, J⟩ := id I1
    exact k _ _ _ _ (J.dispL (I1.lenA hl) hp) q1⟩
def dTupK (f : DA) : DE := fun ρ Q => f ρ fun ts ρ' => match small 1000 ts with
  | true => Q (mkTK ts) ρ'
  | false => False
end
theorem noAliL_set : ∀ {ρ : List T} {i : Nat} {t : T}, noAliL ρ = true → noAli t = true → noAliL (ρ.set i t) = true
  | [], _, _, h, _ => h
  | _ :: _, 0, _, h, e => by simp [noAliL] at h ⊢; exact ⟨e, h.2⟩
  | _ :: _, i + 1, _, h, e => by simp [noAliL] at h ⊢; exact ⟨h.1, noAliL_set h.2 e⟩
section
variable {C : Ctx} {σ σ' : St} {H H' : Hp} {ρ ρ' : List T} {vs vs' xs ys : List V} {τ τ' ts us : List T} {ow : Nat → List Addr}
theorem SI.slotPush (I : SI C σ H ρ vs τ ow) {i : Nat} {t t' x : T} {v : V} {oi on : List Addr} (ei : ρ[i]? = some t) (ev : σ[i]? = some (some v)) (na : noAli t' = true)
    (rel : ∀ ow' : Nat → List Addr, (∀ b o, H b = some o → ¬ Bar C ow b → H b = some o ∧ ¬ Bar C ow' b) → (∀ b o, H b = some o → ¬ BarB C ow b → H b = some o ∧ ¬ BarB C ow' b) → (∀ b, Bar C ow' b → b ∈ ow i → b ∈ oi ∨ b ∈ on) →
      (t' = .emp ∨ TIs C.K (Bar C ow') (BarB C ow') (wipe σ C.cv) H t' v oi) ∧ TIs C.K (Bar C ow') (BarB C ow') (wipe σ C.cv) H x v on)
    (n1 : oi.Nodup) (n2 : on.Nodup) (dj : ∀ a, a ∈ oi → a ∉ on) (s1 : ∀ a, a ∈ oi → a ∈ ow i) (s2 : ∀ a, a ∈ on → a ∈ ow i) : SS C σ H (ρ.set i t') (vs ++ [v]) (τ ++ [x]) := by
  have hi := (List.getElem?_eq_some_iff.mp ei).1
  let n := ρ.length + τ.length
  have hin : i ≠ n := by omega
  refine ⟨fun k => if k = i then oi else if k = n then on else if k < n then ow k else [], I.next (S := fun k => k = i ∨ n ≤ k) (by simp [I.ln]) (by simp [I.lt]) (noAliL_set I.na na) (fun k hk => ?_) (fun k u hk e => ?_) (by simp)
    (fun b o e _ => e) (fun b z => z) (fun k a hk h => ?_) (fun m1 m2 k u hk e => ?_) (fun k hk => ?_) (fun j k a hj hk hjk h => ?_) (fun k a hk h => ?_) (fun _ _ => rfl)⟩
  · have h1 : k ≠ i := fun z => hk (.inl z)
    have h2 : k < n := by by_cases z : k < n; exact z; exact absurd (.inr (by omega)) hk
    simp only [if_neg h1, if_neg (show k ≠ n by omega), if_pos h2]
  · have h1 : k ≠ i := fun z => hk (.inl z)
    have h2 : k < n := by by_cases z : k < n; exact z; exact absurd (.inr (by omega)) hk
    refine ⟨?_, ?_, .inl rfl⟩
    · rw [← List.append_assoc, List.getElem?_append_left (by simp; omega)] at e
      by_cases hk2 : k < ρ.length
      · rw [List.getElem?_append_left (by simpa using hk2), List.getElem?_set_ne (Ne.symm h1)] at e
        rw [List.getElem?_append_left hk2]; exact e
      · rw [List.getElem?_append_right (by simp; omega)] at e
        rw [List.getElem?_append_right (by omega)]
        simpa using e
    · rw [List.map_append, ← List.append_assoc, List.getElem?_append_left (by simp [← I.ln, ← I.lt]; omega)]
  · rcases hk with rfl | hk
    · simp only [if_true] at h
      exact .inl ⟨_, .inl rfl, s1 a h⟩
    · simp only [if_neg (show k ≠ i by omega)] at h
      by_cases z : k = n
      · simp only [z, if_true] at h
        exact .inl ⟨i, .inl rfl, s2 a h⟩
      · simp [if_neg z, show ¬ k < n by omega] at h
  · have R := rel _ m1 m2 fun b hb hbi => ?_
    rotate_left
    · rcases hb with ⟨k, hb⟩ | hb
      · by_cases z1 : k = i
        · simp only [z1, if_true] at hb; exact .inl hb
        · by_cases z2 : k = n
          · simp only [z2, if_neg (Ne.symm hin), if_true] at hb; exact .inr hb
          · simp only [if_neg z1, if_neg z2] at hb
            by_cases z3 : k < n
            · simp only [if_pos z3] at hb; exact absurd hb (I.dj i k b (Ne.symm z1) hbi)
            · simp [if_neg z3] at hb
      · exact absurd hb (I.nb0 hbi)
    rcases hk with rfl | hk
    · rw [List.getElem?_append_left (by simpa using hi), List.getElem?_set_self hi] at e
      cases e
      rcases R.1 with z | z
      · exact .inl ⟨z, by simpa using hi⟩
      · refine .inr ⟨v, ?_, ?_⟩
        · rw [List.getElem?_append_left (by rw [← I.ln]; exact hi)]; exact ev
        · simp only [if_true]; exact z
    · by_cases z : k = n
      · rw [z] at e ⊢
        rw [← List.append_assoc, List.getElem?_append_right (by simp; omega)] at e
        simp [n] at e
        subst e
        refine .inr ⟨v, ?_, ?_⟩
        · rw [List.map_append, ← List.append_assoc, List.getElem?_append_right (by simp [← I.ln, ← I.lt]; omega)]
          simp [← I.ln, ← I.lt, n]
        · simp only [if_neg (Ne.symm hin), if_true]; exact R.2
      · have : k < (ρ.set i t' ++ (τ ++ [x])).length := (List.getElem?_eq_some_iff.mp e).1
        simp at this
        omega
  · rcases hk with rfl | hk
    · simp only [if_true]; exact n1
    · simp only [if_neg (show k ≠ i by omega)]
      by_cases z : k = n
      · simp only [z, if_true]; exact n2
      · simp [if_neg z, show ¬ k < n by omega]
  · rcases hj with rfl | hj
    · simp only [if_true] at h
      simp only [if_neg (Ne.symm hjk)]
      by_cases z : k = n
      · simp only [z, if_true]; exact dj a h
      · have : n ≤ k := hk.resolve_left (Ne.symm hjk)
        simp [if_neg z, show ¬ k < n by omega]
    · simp only [if_neg (show j ≠ i by omega)] at h
      by_cases z : j = n
      · simp only [z, if_true] at h
        rcases hk with rfl | hk
        · simp only [if_true]; exact fun q => dj a q h
        · simp [show k ≠ i by omega, show k ≠ n by omega, show ¬ k < n by omega]
      · simp [if_neg z, show ¬ j < n by omega] at h
  · have : ∃ j, a ∈ ow j := by
      rcases hk with rfl | hk
      · simp only [if_true] at h; exact ⟨_, s1 a h⟩
      · simp only [if_neg (show k ≠ i by omega)] at h
        by_cases z : k = n
        · simp only [z, if_true] at h; exact ⟨i, s2 a h⟩
        · simp [if_neg z, show ¬ k < n by omega] at h
    obtain ⟨j, q⟩ := this
    exact I.ot j a q
end
def dVarF (i : Nat) : DE := fun ρ Q => match ρ[i]? with
  | some (.dat d) => Q (.dat d) ρ
  | some (.bor d) => Q (.bor d) ρ
  | some .emp => False
  | none => False
  | some t => wD (frz t) fun d => Q (.dat d) (ρ.set i (.dat d))
def dVarM (i : Nat) : DE := fun ρ Q => match ρ[i]? with
  | some .emp => False
  | none => False
  | some t => Q t (ρ.set i .emp)
section
variable {C : Ctx}
theorem sim_varF (i : Nat) : Sim C (tVar i) (dVarF i) := fun σ H ρ vs τ Qd Q I h k => by
  unfold dVarF at h
  obtain ⟨ow, J⟩ := id I
  cases e : ρ[i]? with
  | none => rw [e] at h; exact h.elim
  | some t =>
    rw [e] at h
    rcases J.slot e with rfl | ⟨v, hv, r⟩
    · exact h.elim
    · have go : wD (frz t) (fun d => Qd (.dat d) (ρ.set i (.dat d))) → tVar i σ H Q := fun h => by
        obtain ⟨d, e2, h⟩ := wD_some h
        refine ⟨v, hv, k v H _ _ (J.slotPush (t' := .dat d) (x := .dat d) (oi := []) (on := []) e hv rfl (fun ow' m1 m2 hb => ?_) (by simp) (by simp) (fun a z => by simp at z) (fun a z => by simp at z) fun a z => by simp at z) h⟩
        have q : DIs C.K (Bar C ow') H d v := r.frz J.tupOk (fun b o q n => (m1 b o q n).2) (fun a ha z => by rcases hb a z ha with w | w <;> simp at w) e2
        exact ⟨.inr (.dat q), .dat q⟩
      have at_ : ∀ {t : T} {d : D}, ρ[i]? = some t → t = .dat d → Qd (.dat d) ρ → tVar i σ H Q := fun {t d} et ed h => ⟨v, hv, k v H _ ρ (I.push0 fun ow' J' => by
          rcases J'.slot et with z | ⟨w, hw, r⟩
          · rw [ed] at z; cases z
          · rw [hv] at hw; cases hw
            rw [ed] at r
            exact .dat r.dat_inv) h⟩
      cases t with
      | dat d => exact at_ e rfl h
      | bor d => exact ⟨v, hv, k v H _ ρ (I.push0 fun ow' J' => by
          rcases J'.slot e with z | ⟨w, hw, r⟩
          · cases z
          · rw [hv] at hw; cases hw
            exact .bor r.bor_inv) h⟩
      | emp => exact h.elim
      | own _ => exact go h
      | lbo _ => exact go h
      | lst _ => exact go h
      | tup _ => exact go h
      | dct _ => exact go h
      | scr _ => exact go h
      | exc _ => exact go h
      | ins _ _ => exact go h
      | mem _ => exact go h
      | ali _ => exact go h
theorem sim_varM (i : Nat) : Sim C (tVar i) (dVarM i) := fun σ H ρ vs τ Qd Q I h k => by
  unfold dVarM at h
  obtain ⟨ow, J⟩ := id I
  cases e : ρ[i]? with
  | none => rw [e] at h; exact h.elim
  | some t =>
    rw [e] at h
    rcases J.slot e with rfl | ⟨v, hv, r⟩
    · exact h.elim
    · have go : Qd t (ρ.set i .emp) → tVar i σ H Q := fun h => by
        refine ⟨v, hv, k v H _ _ (J.slotPush (t' := .emp) (x := t) (oi := []) (on := ow i) e hv rfl (fun ow' m1 m2 hb => ⟨.inl rfl, r.move m1 m2 (fun _ _ _ q => q) (.inl rfl)⟩) (by simp) (J.nd i) (fun a z => by simp at z) (fun a z => by simp at z) fun a z => z) h⟩
      cases t <;> first | exact h.elim | exact go h
variable {x : Str} {pos : Pos}
theorem de_varF (i : Nat) (hN : C.X.N[i]? = some x := by rfl) (hv : Vis C.X.env.scope x := by first | exact Or.inl rfl | exact Or.inr (Or.inl rfl) | exact Or.inr (Or.inr rfl)) (hd : (x == ("__debug__" : Str)) = false := by decide)
    (hcd : (x == ("__classdict__" : Str)) = false := by decide) : DPE C (.Name x pos) (dVarF i) := ⟨_, pe_var hN hv hd hcd, sim_varF i⟩
theorem de_varM (i : Nat) (hN : C.X.N[i]? = some x := by rfl) (hv : Vis C.X.env.scope x := by first | exact Or.inl rfl | exact Or.inr (Or.inl rfl) | exact Or.inr (Or.inr rfl)) (hd : (x == ("__debug__" : Str)) = false := by decide)
    (hcd : (x == ("__classdict__" : Str)) = false := by decide) : DPE C (.Name x pos) (dVarM i) := ⟨_, pe_var hN hv hd hcd, sim_varM i⟩
end
end Ds
namespace Ds
open PySem L2
def dr (ρ : List T) : T → T
  | .ali i => (ρ[i]?).getD .emp
  | t => t
section
variable {C : Ctx} {σ : St} {H H' : Hp} {ρ ρ' : List T} {vs xs : List V} {τ ts : List T} {ow : Nat → List Addr} {x y : T} {u v : V}
theorem SI.dr (I : SI C σ H ρ vs τ ow) {j : Nat} (e : τ[j]? = some x) (ev : vs[j]? = some v) : dr ρ x = .emp ∨ ∃ os, TIs C.K (Bar C ow) (BarB C ow) (wipe σ C.cv) H (dr ρ x) v os := by
  obtain ⟨w, hw, r⟩ := I.temp e
  rw [ev] at hw; cases hw
  generalize ow (ρ.length + j) = os at r
  cases r with
  | ali h =>
    rename_i i
    have ed : Ds.dr ρ (.ali i) = (ρ[i]?).getD .emp := rfl
    rw [ed]
    cases e2 : ρ[i]? with
    | none => exact .inl rfl
    | some t =>
      rcases I.slot e2 with rfl | ⟨w, hw, r⟩
      · exact .inl rfl
      · rw [(wipe_some h).1] at hw; cases hw
        exact .inr ⟨_, r⟩
  | dat h => exact .inr ⟨_, .dat h⟩
  | bor h => exact .inr ⟨_, .bor h⟩
  | own h t => exact .inr ⟨_, .own h t⟩
  | lbo h t => exact .inr ⟨_, .lbo h t⟩
  | lst h t => exact .inr ⟨_, .lst h t⟩
  | tup h n t => exact .inr ⟨_, .tup h n t⟩
  | dct h t q => exact .inr ⟨_, .dct h t q⟩
  | scr h => exact .inr ⟨_, .scr h⟩
  | exc h => exact .inr ⟨_, .exc h⟩
  | ins n e7 k t => exact .inr ⟨_, .ins n e7 k t⟩
  | mem e7 t => exact .inr ⟨_, .mem e7 t⟩
theorem SI.dr1 (I : SI C σ H ρ (vs ++ [v]) (τ ++ [x]) ow) : Ds.dr ρ x = .emp ∨ ∃ os, TIs C.K (Bar C ow) (BarB C ow) (wipe σ C.cv) H (Ds.dr ρ x) v os := I.dr (j := τ.length) (by simp) (by rw [I.lt1]; simp)
theorem SI.dr2 (I : SI C σ H ρ (vs ++ [u] ++ [v]) (τ ++ [x] ++ [y]) ow) : Ds.dr ρ x = .emp ∨ ∃ os, TIs C.K (Bar C ow) (BarB C ow) (wipe σ C.cv) H (Ds.dr ρ x) u os := by
  have h := I.lt1
  simp at h
  exact I.dr (j := τ.length) (by simp) (by rw [h]; simp)
def wL (t : T) (k : List D → Prop) : Prop := match t with
  | .own ds => k ds
  | .dat (.list ds) => k ds
  | .bor (.list ds) => safeL ds = true ∧ k ds
  | .lbo ds => safeL ds = true ∧ k ds
  | .lst ts => wO (datL ts) k
  | _ => False
theorem SI.wL (I : SI C σ H ρ vs τ ow) {t : T} {os : List Addr} {k : List D → Prop} (r : TIs C.K (Bar C ow) (BarB C ow) (wipe σ C.cv) H t v os) (h : Ds.wL t k) : ∃ l xs ds, v = .ref l ∧ H l = some (.lst xs) ∧ DIsL C.K (Bar C ow) H ds xs ∧ k ds := by
  cases r with
  | own e t => exact ⟨_, _, _, rfl, e, t, h⟩
  | lbo e t => exact ⟨_, _, _, rfl, e, I.safeL t h.1, h.2⟩
  | lst e t =>
    obtain ⟨ds, e2, h⟩ := wO_some h
    exact ⟨_, _, _, rfl, e, datL_is t e2, h⟩
  | dat d =>
    cases d with
    | list e n t => exact ⟨_, _, _, rfl, e, t, h⟩
    | _ => exact h.elim
  | bor d =>
    cases d with
    | list e n t => exact ⟨_, _, _, rfl, e, I.safeL t h.1, h.2⟩
    | _ => exact h.elim
  | _ => exact h.elim
def wT (t : T) (k : List D → Prop) : Prop := match t with
  | .dat (.tuple ds) => k ds
  | .bor (.tuple ds) => safeL ds = true ∧ k ds
  | .tup ts => wO (datL ts) k
  | _ => False
theorem SI.wT (I : SI C σ H ρ vs τ ow) {t : T} {os : List Addr} {k : List D → Prop} (r : TIs C.K (Bar C ow) (BarB C ow) (wipe σ C.cv) H t v os) (h : Ds.wT t k) : ∃ l xs ds, v = .ref l ∧ TB C.K (Bar C ow) H l xs ∧ DIsL C.K (Bar C ow) H ds xs ∧ k ds := by
  cases r with
  | tup e n t =>
    obtain ⟨ds, e2, h⟩ := wO_some h
    exact ⟨_, _, _, rfl, .inl ⟨e, n⟩, datL_is t e2, h⟩
  | dat d =>
    cases d with
    | tuple e t => exact ⟨_, _, _, rfl, e, t, h⟩
    | _ => exact h.elim
  | bor d =>
    cases d with
    | tuple e t =>
      refine ⟨_, _, _, rfl, ?_, I.safeL t h.1, h.2⟩
      rcases e with ⟨r, n⟩ | k
      · exact .inl ⟨r, I.tupOk _ _ r.rd n⟩
      · exact .inr k
    | _ => exact h.elim
  | _ => exact h.elim
end
section
variable {C : Ctx} {a b : Expr} {fa fb : DE} {pos : Pos}
def dAdd : DO2 := fun ρ x y Q => match lk ρ x, lk ρ y with
  | some (.int i), some (.int j) => Q (.dat (.int (i + j))) ρ
  | some (.str i), some (.str j) => i.length + j.length ≤ sizeLine ∧ Q (.dat (.str (i ++ j))) ρ
  | some (.list _), some (.list _) => wL (dr ρ x) fun ds => wL (dr ρ y) fun es => ds.length + es.length ≤ sizeLine ∧ Q (.own (ds ++ es)) ρ
  | some (.tuple _), some (.tuple _) => wT (dr ρ x) fun ds => wT (dr ρ y) fun es => ds.length + es.length ≤ sizeLine ∧ Q (.dat (.tuple (ds ++ es))) ρ
  | _, _ => False
theorem DIsL.nil_inv {K : PySem.W.Frag} {B : Addr → Prop} {H : Hp} {ds : List D} (h : DIsL K B H ds []) : ds = [] := by cases h; rfl
theorem op_addAll : OpR C.X (binaryOp .Add) (fun x y H Q => (∃ i j, x = .int i ∧ y = .int j ∧ Q (.int (i + j)) H) ∨ (∃ i j, x = .str i ∧ y = .str j ∧ i.length + j.length ≤ sizeLine ∧ Q (.str (i ++ j)) H) ∨ rCat x y H Q ∨ rCatF C.X.K x y H Q) :=
  OpR.or op_add (OpR.or op_add_str (OpR.or op_cat op_catF))
theorem de_add (ha : DPE C a fa) (hb : DPE C b fb) : DPE C (.BinOp a .Add b pos) (dOp dAdd fa fb) :=
  de_op op_addAll (by
    intro σ H ρ vs τ u v x y Qd Q I q k
    unfold dAdd at q
    cases e1 : lk ρ x with
    | none => rw [e1] at q; exact q.elim
    | some d =>
      cases e2 : lk ρ y with
      | none => rw [e1, e2] at q; cases d <;> exact q.elim
      | some e =>
        rw [e1, e2] at q
        have du := I.lk2 e1
        have ev := I.lk1 e2
        obtain ⟨ow, J⟩ := id I
        have hτ : τ.length = vs.length := by have := J.lt; simp at this; omega
        have J' : SI C σ H ρ (vs ++ [u, v]) (τ ++ [x, y]) ow := by simpa using J
        cases d <;> cases e <;> first | exact q.elim | skip
        · rw [du.int_eq, ev.int_eq]
          exact .inl ⟨_, _, rfl, rfl, k _ _ _ _ (I.pop2.int _) q⟩
        · rw [du.str_eq, ev.str_eq]
          exact .inr (.inl ⟨_, _, rfl, rfl, q.1, k _ _ _ _ (I.pop2.str _) q.2⟩)
        · rcases J.dr2 with z | ⟨o1, r1⟩
          · rw [z] at q; exact q.elim
          · rcases J.dr1 with z | ⟨o2, r2⟩
            · obtain ⟨_, _, _, _, _, _, q⟩ := J.wL r1 q
              rw [z] at q; exact q.elim
            · obtain ⟨l, zs, ds, rfl, hl, d1, q⟩ := J.wL r1 q
              obtain ⟨l2, zs2, es, rfl, hl2, d2, q⟩ := J.wL r2 q
              refine .inr (.inr (.inl ⟨l, l2, zs, zs2, rfl, rfl, hl, hl2, by rw [← d1.length, ← d2.length]; exact q.1, fun p hp => ?_⟩))
              exact k _ _ _ _ (J'.newL hτ hp (d1.append d2)) q.2
        · rcases J.dr2 with z | ⟨o1, r1⟩
          · rw [z] at q; exact q.elim
          · rcases J.dr1 with z | ⟨o2, r2⟩
            · obtain ⟨_, _, _, _, _, _, q⟩ := J.wT r1 q
              rw [z] at q; exact q.elim
            · obtain ⟨l, zs, ds, rfl, hl, d1, q⟩ := J.wT r1 q
              obtain ⟨l2, zs2, es, rfl, hl2, d2, q⟩ := J.wT r2 q
              refine .inr (.inr (.inr ⟨l, l2, zs, zs2, rfl, rfl, hl.sq, hl2.sq, by rw [← d1.length, ← d2.length]; exact q.1, fun z => ?_, fun z1 z2 => ?_, fun z1 z2 p ob hp hd => ?_⟩))
              · subst z
                refine k _ _ _ _ (J'.oneD hτ (d := .tuple (ds ++ es)) ?_) q.2
                rw [d1.nil_inv]; exact .tuple hl2 d2
              · subst z2
                refine k _ _ _ _ (J'.oneD hτ (d := .tuple (ds ++ es)) ?_) q.2
                rw [d2.nil_inv, List.append_nil]; exact .tuple hl d1
              · exact k _ _ _ _ (J'.newT hτ hp hd (d1.append d2)) q.2) ha hb
def dMul : DO2 := fun ρ x y Q => match lk ρ x, lk ρ y with
  | some (.int i), some (.int j) => CMulW i j ∧ Q (.dat (.int (i * j))) ρ
  | some (.list _), some (.int k) => wL (dr ρ x) fun ds => (-(2 ^ 63) ≤ k ∧ k < 2 ^ 63 ∧ ds.length * k.toNat ≤ sizeLine) ∧ Q (.own (List.replicate k.toNat ds).flatten) ρ
  | some (.tuple _), some (.int k) => wT (dr ρ x) fun ds => (ds ≠ [] ∧ 2 ≤ k ∧ k ≤ 1000 ∧ ds.length ≤ 1000) ∧ Q (.dat (.tuple (List.replicate k.toNat ds).flatten)) ρ
  | _, _ => False
theorem DIsL.rep {K : PySem.W.Frag} {B : Addr → Prop} {H : Hp} {ds : List D} {vs : List V} (h : DIsL K B H ds vs) : ∀ k : Nat, DIsL K B H (List.replicate k ds).flatten (List.replicate k vs).flatten
  | 0 => .nil
  | k + 1 => by
    rw [List.replicate_succ, List.replicate_succ, List.flatten_cons, List.flatten_cons]
    exact h.append (h.rep k)
theorem op_mulAll : OpR C.X (binaryOp .Mult) (fun x y H Q => rI CMulW (fun i j => .int (i * j)) x y H Q ∨ rRep x y H Q ∨ rRepF C.X.K x y H Q) := OpR.or op_mulW (OpR.or op_rep op_repF)
theorem de_mul (ha : DPE C a fa) (hb : DPE C b fb) : DPE C (.BinOp a .Mult b pos) (dOp dMul fa fb) :=
  de_op op_mulAll (by
    intro σ H ρ vs τ u v x y Qd Q I q k
    unfold dMul at q
    cases e1 : lk ρ x with
    | none => rw [e1] at q; exact q.elim
    | some d =>
      cases e2 : lk ρ y with
      | none => rw [e1, e2] at q; cases d <;> exact q.elim
      | some e =>
        rw [e1, e2] at q
        have du := I.lk2 e1
        have ev := I.lk1 e2
        obtain ⟨ow, J⟩ := id I
        have hτ : τ.length = vs.length := by have := J.lt; simp at this; omega
        have J' : SI C σ H ρ (vs ++ [u, v]) (τ ++ [x, y]) ow := by simpa using J
        cases d <;> cases e <;> first | exact q.elim | skip
        · rw [du.int_eq, ev.int_eq]
          exact .inl ⟨_, _, rfl, rfl, q.1, k _ _ _ _ (I.pop2.int _) q.2⟩
        · rcases J.dr2 with z | ⟨o1, r1⟩
          · rw [z] at q; exact q.elim
          · obtain ⟨l, zs, ds, rfl, hl, d1, q⟩ := J.wL r1 q
            rw [ev.int_eq]
            refine .inr (.inl ⟨l, _, zs, rfl, rfl, hl, q.1.1, q.1.2.1, by rw [← d1.length]; exact q.1.2.2, fun p hp => ?_⟩)
            exact k _ _ _ _ (J'.newL hτ hp (d1.rep _)) q.2
        · rcases J.dr2 with z | ⟨o1, r1⟩
          · rw [z] at q; exact q.elim
          · obtain ⟨l, zs, ds, rfl, hl, d1, q⟩ := J.wT r1 q
            rw [ev.int_eq]
            refine .inr (.inr ⟨l, _, zs, rfl, rfl, hl.sq, fun z => q.1.1 ?_, by have := q.1.2.1; omega, q.1.2.2.1, by rw [← d1.length]; exact q.1.2.2.2, fun z => absurd q.1.2.1 (by omega), fun _ p ob hp hd => ?_⟩)
            · subst z; exact d1.nil_inv
            · exact k _ _ _ _ (J'.newT hτ hp hd (d1.rep _)) q.2) ha hb
theorem atI_getD {K : PySem.W.Frag} {B : Addr → Prop} {H : Hp} {ds : List D} {zs : List V} {i : Int} {d : D} (h : DIsL K B H ds zs) (e : atI ds i = some d) : ∃ v, atI zs i = some v ∧ DIs K B H d v := by
  unfold atI at e ⊢
  rw [h.length] at e
  cases e2 : ixN zs.length i with
  | none => rw [e2] at e; simp at e
  | some j =>
    rw [e2] at e
    exact h.get e
theorem TIsL.getX {K : PySem.W.Frag} {B Bb : Addr → Prop} {σ : St} {H : Hp} : ∀ {ts : List T} {vs : List V} {os : List Addr} {j : Nat} {t : T}, TIsL K B Bb σ H ts vs os → ts[j]? = some t → ∃ v o, vs[j]? = some v ∧ TIs K B Bb σ H t v o
  | _, _, _, _, _, .nil, e => by simp at e
  | _, _, _, 0, _, .cons r _, e => by simp at e; subst e; exact ⟨_, _, rfl, r⟩
  | _, _, _, j + 1, _, .cons _ t, e => by
    obtain ⟨v, o, h1, h2⟩ := TIsL.getX (j := j) t (by simpa using e)
    exact ⟨v, o, by simpa using h1, h2⟩
theorem atI_getT {K : PySem.W.Frag} {B Bb : Addr → Prop} {σ : St} {H : Hp} {ts : List T} {zs : List V} {os : List Addr} {i : Int} {t : T} (h : TIsL K B Bb σ H ts zs os) (e : atI ts i = some t) : ∃ v o, atI zs i = some v ∧ TIs K B Bb σ H t v o := by
  unfold atI at e ⊢
  rw [h.length] at e
  cases e2 : ixN zs.length i with
  | none => rw [e2] at e; simp at e
  | some j =>
    rw [e2] at e
    exact h.getX e
def wI : Option D → (Int → Prop) → Prop
  | some (.int i), k => k i
  | _, _ => False
theorem wI_some {o : Option D} {k : Int → Prop} (h : wI o k) : ∃ i, o = some (.int i) ∧ k i := by
  unfold wI at h
  split at h
  · exact ⟨_, rfl, h⟩
  · exact h.elim
def kT (t : T) (k : T → Prop) : Prop := match t with
  | .dat d => k (.dat d)
  | .bor d => k (.bor d)
  | _ => False
def gI {α : Type} (l : List α) : Int → Option α
  | .ofNat k => l[k]?
  | .negSucc k => l.reverse[k]?
theorem gI_at {α : Type} (l : List α) (i : Int) : gI l i = atI l i := by
  cases i with
  | ofNat k =>
    show l[k]? = _
    unfold atI ixN
    rw [if_pos (by simp)]
    by_cases h : k < l.length
    · rw [if_pos (by simpa using h)]; rfl
    · rw [if_neg (by simpa using h), List.getElem?_eq_none (by omega)]; rfl
  | negSucc k =>
    show l.reverse[k]? = _
    unfold atI ixN
    rw [if_neg (by omega)]
    by_cases h : k < l.length
    · rw [if_pos (by omega), List.getElem?_reverse h]
      show _ = l[(Int.negSucc k + (l.length : Int)).toNat]?
      congr 1
      omega
    · rw [if_neg (by omega), List.getElem?_eq_none (by simpa using h)]; rfl
def dIx : DO2 := fun ρ x y Q => wI (lk ρ y) fun i => match dr ρ x with
  | .dat (.list ds) => wO (gI ds i) fun d => Q (.dat d) ρ
  | .dat (.tuple ds) => wO (gI ds i) fun d => Q (.dat d) ρ
  | .own ds => wO (gI ds i) fun d => Q (.dat d) ρ
  | .bor (.list ds) => wO (gI ds i) fun d => Q (.bor d) ρ
  | .bor (.tuple ds) => wO (gI ds i) fun d => Q (.bor d) ρ
  | .lbo ds => wO (gI ds i) fun d => Q (.bor d) ρ
  | .lst ts => wO (gI ts i) fun t => kT t fun t => Q t ρ
  | .tup ts => wO (gI ts i) fun t => kT t fun t => Q t ρ
  | .dat (.str z) => z.length ≤ sizeLine ∧ wO (gI z.cps.toList i) fun c => Q (.dat (.str ⟨#[c]⟩)) ρ
  | .bor (.str z) => z.length ≤ sizeLine ∧ wO (gI z.cps.toList i) fun c => Q (.dat (.str ⟨#[c]⟩)) ρ
  | _ => False
theorem sim_ix : SimR2 C (rIx C.K) dIx := by
  intro σ H ρ vs τ u v x y Qd Q I q k
  unfold dIx at q
  simp only [gI_at] at q
  obtain ⟨i, e2, q⟩ := wI_some q
  have ev := I.lk1 e2
  rw [ev.int_eq]
  obtain ⟨ow, J⟩ := id I
  have hτ : τ.length = vs.length := by have := J.lt; simp at this; omega
  have J' : SI C σ H ρ (vs ++ [u, v]) (τ ++ [x, y]) ow := by simpa using J
  have kk : ∀ {t : T} {w : V} {o : List Addr}, TIs C.K (Bar C ow) (BarB C ow) (wipe σ C.cv) H t w o → kT t (fun t => Qd t ρ) → Q w H := fun {t w o} r h => by
    cases r with
    | dat d => exact k _ _ _ _ (J'.oneD hτ d) h
    | bor d => exact k _ _ _ _ (J'.oneB hτ d) h
    | _ => exact h.elim
  rcases J.dr2 with z | ⟨os, r⟩
  · rw [z] at q; exact q.elim
  · generalize Ds.dr ρ x = t at q r
    cases r with
    | dat d =>
      cases d with
      | list e n t =>
        obtain ⟨d, ed, q⟩ := wO_some q
        obtain ⟨w, hw, dw⟩ := atI_getD t ed
        exact .inl ⟨_, _, _, w, rfl, rfl, .of e, hw, k _ _ _ _ (J'.oneD hτ dw) q⟩
      | tuple e t =>
        obtain ⟨d, ed, q⟩ := wO_some q
        obtain ⟨w, hw, dw⟩ := atI_getD t ed
        exact .inr (.inl ⟨_, _, _, w, rfl, rfl, e.sq, hw, k _ _ _ _ (J'.oneD hτ dw) q⟩)
      | str z =>
        obtain ⟨hz, q⟩ := q
        obtain ⟨c, ec, q⟩ := wO_some q
        exact .inr (.inr ⟨z, _, c, rfl, rfl, hz, ec, k _ _ _ _ (I.pop2.str _) q⟩)
      | _ => exact q.elim
    | bor d =>
      cases d with
      | list e n t =>
        obtain ⟨d, ed, q⟩ := wO_some q
        obtain ⟨w, hw, dw⟩ := atI_getD t ed
        exact .inl ⟨_, _, _, w, rfl, rfl, .of e, hw, k _ _ _ _ (J'.oneB hτ dw) q⟩
      | tuple e t =>
        obtain ⟨d, ed, q⟩ := wO_some q
        obtain ⟨w, hw, dw⟩ := atI_getD t ed
        exact .inr (.inl ⟨_, _, _, w, rfl, rfl, e.sq, hw, k _ _ _ _ (J'.oneB hτ dw) q⟩)
      | str z =>
        obtain ⟨hz, q⟩ := q
        obtain ⟨c, ec, q⟩ := wO_some q
        exact .inr (.inr ⟨z, _, c, rfl, rfl, hz, ec, k _ _ _ _ (I.pop2.str _) q⟩)
      | _ => exact q.elim
    | own e t =>
      obtain ⟨d, ed, q⟩ := wO_some q
      obtain ⟨w, hw, dw⟩ := atI_getD t ed
      exact .inl ⟨_, _, _, w, rfl, rfl, .of e, hw, k _ _ _ _ (J'.oneD hτ dw) q⟩
    | lbo e t =>
      obtain ⟨d, ed, q⟩ := wO_some q
      obtain ⟨w, hw, dw⟩ := atI_getD t ed
      exact .inl ⟨_, _, _, w, rfl, rfl, .of e, hw, k _ _ _ _ (J'.oneB hτ dw) q⟩
    | lst e t =>
      obtain ⟨d, ed, q⟩ := wO_some q
      obtain ⟨w, o, hw, dw⟩ := atI_getT t ed
      exact .inl ⟨_, _, _, w, rfl, rfl, .of e, hw, kk dw q⟩
    | tup e n t =>
      obtain ⟨d, ed, q⟩ := wO_some q
      obtain ⟨w, o, hw, dw⟩ := atI_getT t ed
      exact .inr (.inl ⟨_, _, _, w, rfl, rfl, .inl e.rd, hw, kk dw q⟩)
    | _ => exact q.elim
theorem de_ix (ha : DPE C a fa) (hb : DPE C b fb) (hs : PlainIx b := by exact fun _ _ => rfl) : DPE C (.Subscript a b pos) (dOp dIx fa fb) :=
  let ⟨_, pa, sa⟩ := ha.ex; let ⟨_, pb, sb⟩ := hb.ex; ⟨_, pe_ix ix_seq pa pb hs, sim_op sim_ix sa sb⟩
def cut {α : Type} (xs : List α) (lo hi : Option Int) : List α := (xs.drop (HT.sIx xs.length 0 lo)).take (HT.sIx xs.length xs.length hi - HT.sIx xs.length 0 lo)
theorem DIsL.cut {K : PySem.W.Frag} {B : Addr → Prop} {H : Hp} {ds : List D} {vs : List V} (h : DIsL K B H ds vs) (lo hi : Option Int) : DIsL K B H (Ds.cut ds lo hi) (cutV vs lo hi) := by
  unfold Ds.cut cutV
  rw [h.length]
  exact (h.drop _).take _
theorem cut_map (ns : List Int) (lo hi : Option Int) : cutV (ns.map V.int) lo hi = (cut ns lo hi).map V.int := by
  unfold cut cutV
  simp
theorem ints_is {K : PySem.W.Frag} {B : Addr → Prop} {H : Hp} : ∀ {ns : List Int}, DIsL K B H (ns.map PyData.int) (ns.map V.int)
  | [] => .nil
  | _ :: _ => .cons (.int _) ints_is
abbrev DOp := List T → (Option Int → List T → Prop) → Prop
def SimO (C : Ctx) (t : TO) (f : DOp) : Prop := ∀ (σ : St) (H : Hp) (ρ : List T) (vs : List V) (τ : List T) (Qd : Option Int → List T → Prop) (Q : Option Int → Hp → Prop), SS C σ H ρ vs τ → f ρ Qd →
  (∀ o H' ρ', SS C σ H' ρ' vs τ → Qd o ρ' → Q o H') → t σ H Q
structure DPO (C : Ctx) (e : Option Expr) (f : DOp) : Prop where
  ex : ∃ t, PO C.X e t ∧ SimO C t f
def dNoPart : DOp := fun ρ Q => Q none ρ
def dPart (f : DE) : DOp := fun ρ Q => f ρ fun x ρ1 => wI (lk ρ1 x) fun i => Q (some i) ρ1
theorem do_none : DPO C none dNoPart := ⟨_, po_none, fun σ H ρ vs τ Qd Q I h k => k _ _ _ I h⟩
theorem do_some {e : Expr} {f : DE} (h : DPE C e f) : DPO C (some e) (dPart f) :=
  let ⟨_, p, s⟩ := h.ex
  ⟨_, po_some p, fun σ H ρ vs τ Qd Q I q k => s σ H ρ vs τ _ _ I q fun v H1 x ρ1 I1 q1 => by
    obtain ⟨i, e1, q1⟩ := wI_some q1
    exact ⟨i, (I1.lk1 e1).int_eq, k _ _ _ I1.pop q1⟩⟩
def dSl (fa : DE) (fl fh : DOp) : DE := fun ρ Q => fa ρ fun x ρ1 => fl ρ1 fun lo ρ2 => fh ρ2 fun hi ρ3 => match dr ρ3 x with
  | .own ds => Q (.own (cut ds lo hi)) ρ3
  | .dat (.list ds) => Q (.own (cut ds lo hi)) ρ3
  | .bor (.list ds) => Q (.lbo (cut ds lo hi)) ρ3
  | .lbo ds => Q (.lbo (cut ds lo hi)) ρ3
  | .lst ts => wO (datL ts) fun ds => Q (.own (cut ds lo hi)) ρ3
  | .dat (.tuple ds) => Q (.dat (.tuple (cut ds lo hi))) ρ3
  | .bor (.tuple ds) => Q (.bor (.tuple (cut ds lo hi))) ρ3
  | .scr ns => Q (.own ((cut ns lo hi).map .int)) ρ3
  | .dat (.str z) => z.length ≤ sizeLine ∧ Q (.dat (.str (cutS z lo hi))) ρ3
  | .bor (.str z) => z.length ≤ sizeLine ∧ Q (.dat (.str (cutS z lo hi))) ρ3
  | _ => False
theorem cut_whole {α : Type} {xs : List α} {lo hi : Option Int} (h : HT.sIx xs.length 0 lo = 0 ∧ HT.sIx xs.length xs.length hi = xs.length) : cut xs lo hi = xs := by
  unfold cut
  rw [h.1, h.2]; simp
theorem de_slice {lo hi : Option Expr} {fl fh : DOp} {p2 : Pos} (ha : DPE C a fa) (hl : DPO C lo fl) (hh : DPO C hi fh) : DPE C (.Subscript a (.Slice lo hi none p2) pos) (dSl fa fl fh) :=
  let ⟨_, pa, sa⟩ := ha.ex; let ⟨_, pl, sl⟩ := hl.ex; let ⟨_, ph, sh⟩ := hh.ex
  ⟨_, pe_slice (sl_list.or (sl_tupF.or sl_str)) pa pl ph, fun σ H ρ vs τ Qd Q I q k => sa σ H ρ vs τ _ _ I q fun v H1 x ρ1 I1 q1 => sl σ H1 ρ1 _ _ _ _ I1 q1 fun l H2 ρ2 I2 q2 => sh σ H2 ρ2 _ _ _ _ I2 q2 fun h H3 ρ3 I3 q3 => by
    obtain ⟨ow, J⟩ := id I3
    rcases J.dr1 with z | ⟨os, r⟩
    · rw [z] at q3; exact q3.elim
    · generalize Ds.dr ρ3 x = t at q3 r
      cases r with
      | own e t => exact .inl ⟨_, _, rfl, .of e, fun p hp => k _ _ _ _ (J.newL J.lt1 hp (t.cut _ _)) q3⟩
      | lbo e t => exact .inl ⟨_, _, rfl, .of e, fun p hp => k _ _ _ _ (J.newLB J.lt1 hp (t.cut _ _)) q3⟩
      | lst e t =>
        obtain ⟨ds, e2, q3⟩ := wO_some q3
        exact .inl ⟨_, _, rfl, .of e, fun p hp => k _ _ _ _ (J.newL J.lt1 hp ((datL_is t e2).cut _ _)) q3⟩
      | scr e => exact .inl ⟨_, _, rfl, e.sq, fun p hp => by
          rw [cut_map]
          exact k _ _ _ _ (J.newL J.lt1 hp ints_is) q3⟩
      | dat d =>
        cases d with
        | list e n t => exact .inl ⟨_, _, rfl, .of e, fun p hp => k _ _ _ _ (J.newL J.lt1 hp (t.cut _ _)) q3⟩
        | tuple e t =>
          refine .inr (.inl ⟨_, _, rfl, e.sq, fun w => ?_, fun w p ob hp hd => k _ _ _ _ (J.newT J.lt1 hp hd (t.cut _ _)) q3⟩)
          rw [← t.length] at w
          refine k _ _ _ _ (J.oneD J.lt1 (.tuple e t)) ?_
          have q4 := q3
          dsimp only at q4
          rw [cut_whole w] at q4; exact q4
        | str z => exact .inr (.inr ⟨z, rfl, q3.1, k _ _ _ _ (I3.pop.str _) q3.2⟩)
        | _ => exact q3.elim
      | bor d =>
        cases d with
        | list e n t => exact .inl ⟨_, _, rfl, .of e, fun p hp => k _ _ _ _ (J.newLB J.lt1 hp (t.cut _ _)) q3⟩
        | tuple e t =>
          refine .inr (.inl ⟨_, _, rfl, e.sq, fun w => ?_, fun w p ob hp hd => k _ _ _ _ (J.newTB J.lt1 hp hd (t.cut _ _)) q3⟩)
          rw [← t.length] at w
          refine k _ _ _ _ (J.oneB J.lt1 (.tuple e t)) ?_
          have q4 := q3
          dsimp only at q4
          rw [cut_whole w] at q4; exact q4
        | str z => exact .inr (.inr ⟨z, rfl, q3.1, k _ _ _ _ (I3.pop.str _) q3.2⟩)
        | _ => exact q3.elim
      | _ => exact q3.elim⟩
end
end Ds
namespace Ds
open PySem L2
structure br (b : Bool) (p q : Prop) : Prop where
  t : b = true → p
  f : b = false → q
theorem br_split {b : Bool} {p q : Prop} (h1 : b = true → p) (h2 : b = false → q) : br b p q := ⟨h1, h2⟩
theorem br_dec {c p q : Prop} [Decidable c] (h1 : c → p) (h2 : ¬ c → q) : br (decide c) p q := ⟨fun h => h1 (of_decide_eq_true h), fun h => h2 (of_decide_eq_false h)⟩
theorem br_ndec {c p q : Prop} [Decidable c] (h1 : ¬ c → p) (h2 : c → q) : br (!decide c) p q := ⟨fun h => h1 (of_decide_eq_false (by simpa using h)), fun h => h2 (of_decide_eq_true (by simpa using h))⟩
theorem br_t {b : Bool} {p q : Prop} (e : b = true) (h : p) : br b p q := ⟨fun _ => h, fun z => by rw [e] at z; cases z⟩
theorem br_f {b : Bool} {p q : Prop} (e : b = false) (h : q) : br b p q := ⟨fun z => (by rw [e] at z; cases z), fun _ => h⟩
def wB : Option D → (Bool → Prop) → Prop
  | some (.bool b), k => k b
  | _, _ => False
theorem wB_some {o : Option D} {k : Bool → Prop} (h : wB o k) : ∃ i, o = some (.bool i) ∧ k i := by
  unfold wB at h
  split at h
  · exact ⟨_, rfl, h⟩
  · exact h.elim
section
variable {C : Ctx} {a b c : Expr} {rest : List Expr} {fa fb fc : DE} {ta tb : DTt} {pos : Pos}
def tVal (f : DE) : DTt := fun ρ Q => f ρ fun x ρ1 => wB (lk ρ1 x) fun b => Q b ρ1
theorem dt_val (h : DPE C a fa) (he : ∀ whole, isTrue a C.X.env whole = (do let v ← whole; standAt a.pos; holding [v] (truthy v)) := by intro _; rfl) : DPT C a (tVal fa) :=
  let ⟨_, p, s⟩ := h.ex
  ⟨_, pt_val p he, fun σ H ρ vs τ Qd Q I q k => s σ H ρ vs τ _ _ I q fun v H1 x ρ1 I1 q1 => by
    obtain ⟨b, e, q1⟩ := wB_some q1
    exact ⟨b, (I1.lk1 e).bool_eq, k _ _ _ I1.pop q1⟩⟩
def dAndT (t u : DTt) : DTt := fun ρ Q => t ρ fun b ρ1 => br b (u ρ1 Q) (Q false ρ1)
def dOrT (t u : DTt) : DTt := fun ρ Q => t ρ fun b ρ1 => br b (Q true ρ1) (u ρ1 Q)
def dNotT (t : DTt) : DTt := fun ρ Q => t ρ fun b ρ1 => Q (!b) ρ1
theorem dt_not (h : DPT C a ta) : DPT C (.UnaryOp .Not a pos) (dNotT ta) :=
  let ⟨_, p, s⟩ := h.ex
  ⟨_, pt_not p, fun σ H ρ vs τ Qd Q I q k => s σ H ρ vs τ _ _ I q fun b H1 ρ1 I1 q1 => k _ _ _ I1 q1⟩
theorem dw_and1 (h : DPT C a ta) : DPW C (.BoolOp .And [a] pos) ta := let ⟨_, p, s⟩ := h.ex; ⟨_, pw_and1 p, s⟩
theorem dw_or1 (h : DPT C a ta) : DPW C (.BoolOp .Or [a] pos) ta := let ⟨_, p, s⟩ := h.ex; ⟨_, pw_or1 p, s⟩
theorem dw_and (h : DPT C a ta) (h2 : DPW C (.BoolOp .And (b :: rest) pos) tb) : DPW C (.BoolOp .And (a :: b :: rest) pos) (dAndT ta tb) :=
  let ⟨_, p, s⟩ := h.ex; let ⟨_, p2, s2⟩ := h2.ex
  ⟨_, pw_and p p2, fun σ H ρ vs τ Qd Q I q k => s σ H ρ vs τ _ _ I q fun b H1 ρ1 I1 q1 => by
    cases b with
    | true => rw [if_pos rfl]; exact s2 σ H1 ρ1 vs τ Qd Q I1 (q1.t rfl) k
    | false => rw [if_neg (by decide)]; exact k _ _ _ I1 (q1.f rfl)⟩
theorem dw_or (h : DPT C a ta) (h2 : DPW C (.BoolOp .Or (b :: rest) pos) tb) : DPW C (.BoolOp .Or (a :: b :: rest) pos) (dOrT ta tb) :=
  let ⟨_, p, s⟩ := h.ex; let ⟨_, p2, s2⟩ := h2.ex
  ⟨_, pw_or p p2, fun σ H ρ vs τ Qd Q I q k => s σ H ρ vs τ _ _ I q fun b H1 ρ1 I1 q1 => by
    cases b with
    | true => rw [if_pos rfl]; exact k _ _ _ I1 (q1.t rfl)
    | false => rw [if_neg (by decide)]; exact s2 σ H1 ρ1 vs τ Qd Q I1 (q1.f rfl) k⟩
theorem DPW.t (h : DPW C a ta) : DPT C a ta := let ⟨_, p, s⟩ := h.ex; ⟨_, p.pt, s⟩
def dAndV (fa fb : DE) : DE := fun ρ Q => fa ρ fun x ρ1 => wB (lk ρ1 x) fun b => br b (fb ρ1 Q) (Q (.dat (.bool false)) ρ1)
def dOrV (fa fb : DE) : DE := fun ρ Q => fa ρ fun x ρ1 => wB (lk ρ1 x) fun b => br b (Q (.dat (.bool true)) ρ1) (fb ρ1 Q)
def dNotV (fa : DE) : DE := fun ρ Q => fa ρ fun x ρ1 => wB (lk ρ1 x) fun b => Q (.dat (.bool (!b))) ρ1
theorem de_one {op} (h : DPE C a fa) : DPE C (.BoolOp op [a] pos) fa := let ⟨_, p, s⟩ := h.ex; ⟨_, pe_one p, s⟩
theorem de_and (h : DPE C a fa) (h2 : DPE C (.BoolOp .And (b :: rest) pos) fb) : DPE C (.BoolOp .And (a :: b :: rest) pos) (dAndV fa fb) :=
  let ⟨_, p, s⟩ := h.ex; let ⟨_, p2, s2⟩ := h2.ex
  ⟨_, pe_and p p2, fun σ H ρ vs τ Qd Q I q k => s σ H ρ vs τ _ _ I q fun v H1 x ρ1 I1 q1 => by
    obtain ⟨b, e, q1⟩ := wB_some q1
    refine ⟨b, (I1.lk1 e).bool_eq, ?_⟩
    cases b with
    | true => rw [if_pos rfl]; exact s2 σ H1 ρ1 vs τ Qd Q I1.pop (q1.t rfl) k
    | false => rw [if_neg (by decide)]; exact k _ _ _ _ (I1.pop.bool _) (q1.f rfl)⟩
theorem de_or (h : DPE C a fa) (h2 : DPE C (.BoolOp .Or (b :: rest) pos) fb) : DPE C (.BoolOp .Or (a :: b :: rest) pos) (dOrV fa fb) :=
  let ⟨_, p, s⟩ := h.ex; let ⟨_, p2, s2⟩ := h2.ex
  ⟨_, pe_or p p2, fun σ H ρ vs τ Qd Q I q k => s σ H ρ vs τ _ _ I q fun v H1 x ρ1 I1 q1 => by
    obtain ⟨b, e, q1⟩ := wB_some q1
    refine ⟨b, (I1.lk1 e).bool_eq, ?_⟩
    cases b with
    | true => rw [if_pos rfl]; exact k _ _ _ _ (I1.pop.bool _) (q1.t rfl)
    | false => rw [if_neg (by decide)]; exact s2 σ H1 ρ1 vs τ Qd Q I1.pop (q1.f rfl) k⟩
def dIf (t : DTt) (fa fb : DE) : DE := fun ρ Q => t ρ fun b ρ1 => br b (fa ρ1 Q) (fb ρ1 Q)
theorem de_if (h : DPT C c ta) (ha : DPE C a fa) (hb : DPE C b fb) : DPE C (.IfExp c a b pos) (dIf ta fa fb) :=
  let ⟨_, p, s⟩ := h.ex; let ⟨_, pa, sa⟩ := ha.ex; let ⟨_, pb, sb⟩ := hb.ex
  ⟨_, pe_ifExp p pa pb, fun σ H ρ vs τ Qd Q I q k => s σ H ρ vs τ _ _ I q fun b H1 ρ1 I1 q1 => by
    cases b with
    | true => rw [if_pos rfl]; exact sa σ H1 ρ1 vs τ Qd Q I1 (q1.t rfl) k
    | false => rw [if_neg (by decide)]; exact sb σ H1 ρ1 vs τ Qd Q I1 (q1.f rfl) k⟩
def dChain (p1 p2 : Int → Int → Bool) (fa fb fc : DE) : DE := fun ρ Q => fa ρ fun x ρ1 => fb ρ1 fun y ρ2 => wI (lk ρ2 x) fun i => wI (lk ρ2 y) fun j =>
  br (p1 i j) (fc ρ2 fun z ρ3 => wI (lk ρ3 z) fun k => Q (.dat (.bool (p2 j k))) ρ3) (Q (.dat (.bool false)) ρ2)
end
abbrev DOn := List T → List T → DQ → Prop
def SimC (C : Ctx) (r : List V → Hp → VK → Prop) (f : DOn) : Prop := ∀ (σ : St) (H : Hp) (ρ : List T) (vs : List V) (τ : List T) (xs : List V) (ts : List T) (Qd : DQ) (Q : VK), SS C σ H ρ (vs ++ xs) (τ ++ ts) → ts.length = xs.length → τ.length = vs.length → f ρ ts Qd →
  (∀ w H' z ρ', SS C σ H' ρ' (vs ++ [w]) (τ ++ [z]) → Qd z ρ' → Q w H') → r xs H Q
def dCB (f : DOn) (fs : DA) : DE := fun ρ Q => fs ρ fun ts ρ1 => f ρ1 ts Q
section
variable {C : Ctx} {x : Str} {p pos : Pos} {e : Expr} {es : List Expr} {fs : DA} {id T : String} {r : List V → Hp → VK → Prop} {f : DOn}
theorem sim_cb {t : TA} (h : SimC C r f) (ha : SimA C t fs) : Sim C (tCB r t) (dCB f fs) := fun σ H ρ vs τ Qd Q I q k =>
  ha σ H ρ vs τ _ _ I q fun xs H1 ts ρ1 I1 hl q1 => h σ H1 ρ1 vs τ xs ts Qd Q I1 hl (I1.lenA hl) q1 k
theorem de_callB (hc : CallR C.X (.builtin id) r) (hs : SimC C r f) (hg : Gl C.X x) (hm : C.X.mg x = none) (hv : bootBuiltins x = some (.builtin id)) (ha : DPA C (e :: es) fs) (hn : x ≠ "__name__" := by decide) (hdb : (x == ("__debug__" : Str)) = false := by decide)
    (he : starEach (e :: es) C.X.env = (false, eval e C.X.env) :: starEach es C.X.env := by rfl) (hpl : (backTo pos (starEach es C.X.env)).any (·.1) = false := by rfl) : DPE C (.Call (.Name x p) (e :: es) [] pos) (dCB f fs) :=
  let ⟨_, pa, sa⟩ := ha.ex; ⟨_, pe_callB hc hg hm hv pa hn hdb he hpl, sim_cb hs sa⟩
theorem de_callTy (hc : CallR C.X (.type T) r) (hs : SimC C r f) (hg : Gl C.X x) (hm : C.X.mg x = none) (hv : bootBuiltins x = some (.type T)) (ha : DPA C (e :: es) fs) (hn : x ≠ "__name__" := by decide) (hdb : (x == ("__debug__" : Str)) = false := by decide)
    (he : starEach (e :: es) C.X.env = (false, eval e C.X.env) :: starEach es C.X.env := by rfl) (hpl : (backTo pos (starEach es C.X.env)).any (·.1) = false := by rfl) : DPE C (.Call (.Name x p) (e :: es) [] pos) (dCB f fs) :=
  let ⟨_, pa, sa⟩ := ha.ex; ⟨_, pe_callTy hc hg hm hv pa hn hdb he hpl, sim_cb hs sa⟩
end
section
variable {C : Ctx} {σ : St} {H : Hp} {ρ : List T} {vs xs : List V} {τ ts : List T}
theorem SS.lkA (I : SS C σ H ρ (vs ++ xs) (τ ++ ts)) (hτ : τ.length = vs.length) {j : Nat} {t : T} {d : D} (e : ts[j]? = some t) (h : lk ρ t = some d) : ∃ v, xs[j]? = some v ∧ DIs C.K N0 H d v := by
  obtain ⟨ow, J⟩ := I
  obtain ⟨v, hv, r⟩ := J.temp (j := τ.length + j) (t := t) (by rw [List.getElem?_append_right (by omega)]; simpa using e)
  rw [hτ, List.getElem?_append_right (by omega)] at hv
  simp at hv
  exact ⟨v, hv, r.lk J.look h⟩
theorem len1 {t : T} (h : [t].length = xs.length) : ∃ v, xs = [v] := by
  match xs, h with
  | [v], _ => exact ⟨v, rfl⟩
theorem len2 {t u : T} (h : [t, u].length = xs.length) : ∃ v w, xs = [v, w] := by
  match xs, h with
  | [v, w], _ => exact ⟨v, w, rfl⟩
def cu1 (f : D → (D → Prop) → Prop) : DOn := fun ρ ts Q => match ts with
  | [x] => wD (lk ρ x) fun d => f d fun w => Q (.dat w) ρ
  | _ => False
def cu2 (f : D → D → (D → Prop) → Prop) : DOn := fun ρ ts Q => match ts with
  | [x, y] => wD (lk ρ x) fun d => wD (lk ρ y) fun e => f d e fun w => Q (.dat w) ρ
  | _ => False
theorem sim_cu1 {r : List V → Hp → VK → Prop} {f : D → (D → Prop) → Prop} (h : ∀ (H : Hp) (d : D) (u : V) (Qd : D → Prop) (Q : VK), DIs C.K N0 H d u → f d Qd → (∀ w z, sv w = some z → Qd w → Q z H) → r [u] H Q) : SimC C r (cu1 f) := by
  intro σ H ρ vs τ xs ts Qd Q I hl hτ q k
  unfold cu1 at q
  split at q
  · obtain ⟨v, rfl⟩ := len1 hl
    obtain ⟨d, e1, q⟩ := wD_some q
    exact h H d v _ Q (SS.lk1 I e1) q fun w z hz hq => k z H _ ρ (SS.sc (SS.pop I) hz) hq
  · exact q.elim
theorem sim_cu2 {r : List V → Hp → VK → Prop} {f : D → D → (D → Prop) → Prop} (h : ∀ (H : Hp) (d e : D) (u v : V) (Qd : D → Prop) (Q : VK), DIs C.K N0 H d u → DIs C.K N0 H e v → f d e Qd → (∀ w z, sv w = some z → Qd w → Q z H) → r [u, v] H Q) : SimC C r (cu2 f) := by
  intro σ H ρ vs τ xs ts Qd Q I hl hτ q k
  unfold cu2 at q
  split at q
  · obtain ⟨v, w, rfl⟩ := len2 hl
    obtain ⟨d, e1, q⟩ := wD_some q
    obtain ⟨e, e2, q⟩ := wD_some q
    obtain ⟨v', hv, d1⟩ := I.lkA hτ (j := 0) rfl e1
    obtain ⟨w', hw, d2⟩ := I.lkA hτ (j := 1) rfl e2
    simp at hv hw
    subst hv hw
    exact h H d e _ _ _ Q d1 d2 q fun w z hz hq => k z H _ ρ (SS.sc (I.drop hτ) hz) hq
  · exact q.elim
def dLen : DOn := fun ρ ts Q => match ts with
  | [x] => match dr ρ x with
    | .scr ns => Q (.dat (.int ns.length)) ρ
    | _ => wD (lk ρ x) fun d => match d with
      | .list ds => Q (.dat (.int ds.length)) ρ
      | .tuple ds => Q (.dat (.int ds.length)) ρ
      | .str z => z.length ≤ sizeLine ∧ Q (.dat (.int z.length)) ρ
      | _ => False
  | _ => False
theorem sim_len : SimC C (fun xs H Q => ∃ x n, xs = [x] ∧ LenV C.K x H n ∧ Q (.int n) H) dLen := by
  intro σ H ρ vs τ xs ts Qd Q I hl hτ q k
  unfold dLen at q
  split at q
  · rename_i x
    obtain ⟨v, rfl⟩ := len1 hl
    have main : wD (lk ρ x) (fun d => match d with
      | .list ds => Qd (.dat (.int ds.length)) ρ
      | .tuple ds => Qd (.dat (.int ds.length)) ρ
      | .str z => z.length ≤ sizeLine ∧ Qd (.dat (.int z.length)) ρ
      | _ => False) → ∃ x n, [v] = [x] ∧ LenV C.K x H n ∧ Q (.int n) H := fun q => by
      obtain ⟨d, e1, q⟩ := wD_some q
      have dv := SS.lk1 I e1
      cases dv with
      | list e n t => exact ⟨_, _, rfl, .inl ⟨_, .of e, rfl⟩, k _ _ _ _ (SS.int (SS.pop I) _) (by rw [← t.length]; exact q)⟩
      | tuple e t => exact ⟨_, _, rfl, .inr ⟨_, e.sq, rfl⟩, k _ _ _ _ (SS.int (SS.pop I) _) (by rw [← t.length]; exact q)⟩
      | str z => exact ⟨_, _, rfl, ⟨q.1, rfl⟩, k _ _ _ _ (SS.int (SS.pop I) _) q.2⟩
      | _ => exact q.elim
    split at q
    · rename_i ns e
      obtain ⟨ow, J⟩ := id I
      rcases SI.dr1 J with z | ⟨os, r⟩
      · rw [e] at z; cases z
      · rw [e] at r
        cases r with
        | scr h => exact ⟨_, _, rfl, .inl ⟨_, h.sq, rfl⟩, k _ _ _ _ (SS.int (SS.pop I) _) (by rw [List.length_map]; exact q)⟩
    · exact main q
  · exact q.elim
end
section
variable {C : Ctx} {p pos : Pos} {e : Expr} {fs : DA}
theorem de_len (hg : Gl C.X "len") (hm : C.X.mg "len" = none) (ha : DPA C [e] fs) (he : starEach [e] C.X.env = [(false, eval e C.X.env)] := by rfl) : DPE C (.Call (.Name "len" p) [e] [] pos) (dCB dLen fs) :=
  de_callB call_len sim_len hg hm PySem.boot_len ha (by decide) (by decide) he
end
section
variable {C : Ctx}
def fInt (g : Int → (D → Prop) → Prop) : D → (D → Prop) → Prop := fun d k => match d with
  | .int i => g i k
  | _ => False
abbrev dAbs : DOn := cu1 (fInt fun i k => k (.int (if i < 0 then -i else i)))
abbrev dMin2 : DOn := cu2 (fII fun i j k => k (.int (if j < i then j else i)))
abbrev dMax2 : DOn := cu2 (fII fun i j k => k (.int (if j > i then j else i)))
theorem sim_min2 : SimC C (fun xs H Q => ∃ i j, xs = [.int i, .int j] ∧ Q (.int (if j < i then j else i)) H) dMin2 := sim_cu2 fun H d e u v Qd Q du ev q k => by
  cases d <;> cases e <;> first | exact q.elim | skip
  exact ⟨_, _, by rw [du.int_eq, ev.int_eq], k _ _ rfl q⟩
theorem sim_max2 : SimC C (fun xs H Q => ∃ i j, xs = [.int i, .int j] ∧ Q (.int (if j > i then j else i)) H) dMax2 := sim_cu2 fun H d e u v Qd Q du ev q k => by
  cases d <;> cases e <;> first | exact q.elim | skip
  exact ⟨_, _, by rw [du.int_eq, ev.int_eq], k _ _ rfl q⟩
abbrev dInt : DOn := cu1 fun d k => match d with
  | .int i => k (.int i)
  | .bool b => k (.int (if b then 1 else 0))
  | _ => False
theorem sim_int : SimC C (fun xs H Q => (∃ i, xs = [.int i] ∧ Q (.int i) H) ∨ ∃ k, xs = [.bl k] ∧ Q (.int (if k then 1 else 0)) H) dInt := sim_cu1 fun H d u Qd Q du q k => by
  cases d <;> first | exact q.elim | skip
  · exact .inr ⟨_, by rw [du.bool_eq], k _ _ rfl q⟩
  · exact .inl ⟨_, by rw [du.int_eq], k _ _ rfl q⟩
def wInts (o : Option D) (k : List Int → Prop) : Prop := ∃ ns : List Int, o = some (.list (ns.map .int)) ∧ k ns
theorem ints_inv {K : PySem.W.Frag} {B : Addr → Prop} {H : Hp} : ∀ {ns : List Int} {vs : List V}, DIsL K B H (ns.map PyData.int) vs → vs = ns.map V.int
  | [], _, h => by cases h; rfl
  | n :: ns, _, h => by
    cases h with
    | cons r t => rw [r.int_eq, ints_inv t]; rfl
def ci1 (f : List Int → (D → Prop) → Prop) : DOn := fun ρ ts Q => match ts with
  | [x] => wInts (lk ρ x) fun ns => f ns fun w => Q (.dat w) ρ
  | _ => False
theorem sim_ci1 {r : List V → Hp → VK → Prop} {f : List Int → (D → Prop) → Prop} (h : ∀ (H : Hp) (ns : List Int) (a : Addr) (Qd : D → Prop) (Q : VK), SqL C.K H a (ns.map V.int) → f ns Qd → (∀ w z, sv w = some z → Qd w → Q z H) → r [.ref a] H Q) : SimC C r (ci1 f) := by
  intro σ H ρ vs τ xs ts Qd Q I hl hτ q k
  unfold ci1 at q
  split at q
  · obtain ⟨v, rfl⟩ := len1 hl
    obtain ⟨ns, e1, q⟩ := q
    have dv := SS.lk1 I e1
    cases dv with
    | list e n t =>
      rw [ints_inv t] at e
      exact h H ns _ _ Q (.of e) q fun w z hz hq => k z H _ ρ (SS.sc (SS.pop I) hz) hq
  · exact q.elim
abbrev dSum : DOn := ci1 fun ns k => k (.int ns.sum)
theorem sim_sum : SimC C (rSum C.K) dSum := sim_ci1 fun H ns a Qd Q h q k => ⟨a, ns, rfl, h, k _ _ rfl q⟩
def minI : List Int → Int
  | [] => 0
  | a :: r => r.foldl min a
def maxI : List Int → Int
  | [] => 0
  | a :: r => r.foldl max a
theorem minI_le : ∀ (r : List Int) (a : Int), r.foldl min a ≤ a ∧ (∀ y, y ∈ r → r.foldl min a ≤ y) ∧ (r.foldl min a = a ∨ r.foldl min a ∈ r)
  | [], a => ⟨Int.le_refl _, fun _ z => by simp at z, .inl rfl⟩
  | b :: r, a => by
    obtain ⟨h1, h2, h3⟩ := minI_le r (min a b)
    have e : (b :: r).foldl min a = r.foldl min (min a b) := rfl
    rw [e]
    refine ⟨by omega, fun y hy => ?_, ?_⟩
    · rcases List.mem_cons.mp hy with rfl | hy
      · omega
      · exact h2 y hy
    · rcases h3 with h3 | h3
      · by_cases z : a ≤ b
        · left; omega
        · right; rw [h3, show min a b = b by omega]; simp
      · right; exact List.mem_cons_of_mem _ h3
theorem maxI_ge : ∀ (r : List Int) (a : Int), a ≤ r.foldl max a ∧ (∀ y, y ∈ r → y ≤ r.foldl max a) ∧ (r.foldl max a = a ∨ r.foldl max a ∈ r)
  | [], a => ⟨Int.le_refl _, fun _ z => by simp at z, .inl rfl⟩
  | b :: r, a => by
    obtain ⟨h1, h2, h3⟩ := maxI_ge r (max a b)
    have e : (b :: r).foldl max a = r.foldl max (max a b) := rfl
    rw [e]
    refine ⟨by omega, fun y hy => ?_, ?_⟩
    · rcases List.mem_cons.mp hy with rfl | hy
      · omega
      · exact h2 y hy
    · rcases h3 with h3 | h3
      · by_cases z : b ≤ a
        · left; omega
        · right; rw [h3, show max a b = b by omega]; simp
      · right; exact List.mem_cons_of_mem _ h3
abbrev dMinL : DOn := ci1 fun ns k => ns ≠ [] ∧ k (.int (minI ns))
abbrev dMaxL : DOn := ci1 fun ns k => ns ≠ [] ∧ k (.int (maxI ns))
theorem bools_inv {K : PySem.W.Frag} {B : Addr → Prop} {H : Hp} : ∀ {ns : List Bool} {vs : List V}, DIsL K B H (ns.map PyData.bool) vs → vs = ns.map V.bl
  | [], _, h => by cases h; rfl
  | n :: ns, _, h => by
    cases h with
    | cons r t => rw [r.bool_eq, bools_inv t]; rfl
def cb1 (f : List Bool → Bool) : DOn := fun ρ ts Q => match ts with
  | [x] => ∃ bs : List Bool, lk ρ x = some (.list (bs.map .bool)) ∧ Q (.dat (.bool (f bs))) ρ
  | _ => False
theorem sim_cb1 {r : List V → Hp → VK → Prop} {f : List Bool → Bool} (h : ∀ (H : Hp) (bs : List Bool) (a : Addr) (Q : VK), SqL C.K H a (bs.map V.bl) → Q (.bl (f bs)) H → r [.ref a] H Q) : SimC C r (cb1 f) := by
  intro σ H ρ vs τ xs ts Qd Q I hl hτ q k
  unfold cb1 at q
  split at q
  · obtain ⟨v, rfl⟩ := len1 hl
    obtain ⟨ns, e1, q⟩ := q
    have dv := SS.lk1 I e1
    cases dv with
    | list e n t =>
      rw [bools_inv t] at e
      exact h H ns _ Q (.of e) (k _ H _ ρ (SS.bool (SS.pop I) _) q)
  · exact q.elim
abbrev dAll : DOn := cb1 fun bs => bs.all id
abbrev dAny : DOn := cb1 fun bs => bs.any id
theorem sim_all : SimC C (rAll C.K) dAll := sim_cb1 fun H bs a Q h q => ⟨a, bs, rfl, h, q⟩
end
section
variable {C : Ctx} {p pos : Pos} {e e2 : Expr} {fs : DA}
theorem de_min2 (hg : Gl C.X "min") (hm : C.X.mg "min" = none) (hc : C.X.calm = true) (ha : DPA C [e, e2] fs) (he : starEach [e, e2] C.X.env = (false, eval e C.X.env) :: starEach [e2] C.X.env := by rfl) (hp : (backTo pos (starEach [e2] C.X.env)).any (·.1) = false := by rfl) :
    DPE C (.Call (.Name "min" p) [e, e2] [] pos) (dCB dMin2 fs) := de_callB (call_min2 hc) sim_min2 hg hm (by decide +kernel) ha (by decide) (by decide) he hp
theorem de_max2 (hg : Gl C.X "max") (hm : C.X.mg "max" = none) (hc : C.X.calm = true) (ha : DPA C [e, e2] fs) (he : starEach [e, e2] C.X.env = (false, eval e C.X.env) :: starEach [e2] C.X.env := by rfl) (hp : (backTo pos (starEach [e2] C.X.env)).any (·.1) = false := by rfl) :
    DPE C (.Call (.Name "max" p) [e, e2] [] pos) (dCB dMax2 fs) := de_callB (call_max2 hc) sim_max2 hg hm (by decide +kernel) ha (by decide) (by decide) he hp
theorem de_sum (hg : Gl C.X "sum") (hm : C.X.mg "sum" = none) (hc : C.X.calm = true) (ha : DPA C [e] fs) (he : starEach [e] C.X.env = [(false, eval e C.X.env)] := by rfl) : DPE C (.Call (.Name "sum" p) [e] [] pos) (dCB dSum fs) :=
  de_callB (cr_sum hc) sim_sum hg hm (by decide +kernel) ha (by decide) (by decide) he
theorem de_all (hg : Gl C.X "all") (hm : C.X.mg "all" = none) (hc : C.X.calm = true) (ha : DPA C [e] fs) (he : starEach [e] C.X.env = [(false, eval e C.X.env)] := by rfl) : DPE C (.Call (.Name "all" p) [e] [] pos) (dCB dAll fs) :=
  de_callB (cr_all hc) sim_all hg hm (by decide +kernel) ha (by decide) (by decide) he
theorem de_int1 (hg : Gl C.X "int") (hm : C.X.mg "int" = none) (ha : DPA C [e] fs) (he : starEach [e] C.X.env = [(false, eval e C.X.env)] := by rfl) : DPE C (.Call (.Name "int" p) [e] [] pos) (dCB dInt fs) :=
  de_callTy call_int1 sim_int hg hm (by decide +kernel) ha (by decide) (by decide) he
end
end Ds
namespace Ds
open PySem L2
theorem noAliL_append : ∀ {a b : List T}, noAliL (a ++ b) = (noAliL a && noAliL b)
  | [], _ => by simp [noAliL]
  | x :: a, b => by simp [noAliL, noAliL_append, Bool.and_assoc]
theorem wipe_get_in {σ : St} {i : Nat} : ∀ {is : List Nat}, i ∈ is → i < σ.length → (wipe σ is)[i]? = some none
  | [], h, _ => by simp at h
  | j :: is, h, hi => by
    unfold wipe
    by_cases z : j = i
    · subst z
      exact List.getElem?_set_self (by rw [wipe_length]; exact hi)
    · rw [List.getElem?_set_ne z]
      exact wipe_get_in (by simpa [Ne.symm z] using h) hi
theorem wipe_out {σ : St} {i : Nat} : ∀ {is : List Nat}, i ∉ is → (wipe σ is)[i]? = σ[i]?
  | [], _ => rfl
  | j :: is, h => by
    unfold wipe
    rw [List.getElem?_set_ne (fun z => h (by simp [z])), wipe_out (fun z => h (by simp [z]))]
theorem wipe_ext {σ σ' : St} {is : List Nat} (hl : σ.length = σ'.length) (h : ∀ i, i ∉ is → σ[i]? = σ'[i]?) : wipe σ is = wipe σ' is := by
  refine List.ext_getElem? fun i => ?_
  by_cases hi : i ∈ is
  · by_cases z : i < σ.length
    · rw [wipe_get_in hi z, wipe_get_in hi (by omega)]
    · rw [List.getElem?_eq_none (by rw [wipe_length]; omega), List.getElem?_eq_none (by rw [wipe_length]; omega)]
  · rw [wipe_out hi, wipe_out hi, h i hi]
theorem set_wipe {σ : St} {i : Nat} {x : Option V} {own : List Nat} (h : i ∈ own) : wipe (σ.set i x) own = wipe σ own := wipe_ext (by simp) fun j hj => List.getElem?_set_ne fun z => hj (by rw [← z]; exact h)
section
variable {C : Ctx} {σ σ' : St} {H H' : Hp} {ρ ρ' : List T} {vs vs' xs ys : List V} {τ τ' ts us : List T} {ow : Nat → List Addr} {v w : V} {t x : T}
theorem SS.assign (h : SS C σ H ρ (vs ++ [v]) (τ ++ [t])) {i : Nat} (hi : i < ρ.length) (nt : noAli t = true) (nτ : noAliL τ = true ∨ i ∈ C.cv) (nl : i ∉ C.lent) : SS C (σ.set i (some v)) H (ρ.set i t) vs τ := by
  obtain ⟨ow, I⟩ := h
  have hτ := I.lt1
  let n := ρ.length + τ.length
  have hin : i ≠ n := by omega
  have top := I.top
  refine ⟨fun k => if k = i then ow n else if k < n then ow k else [], I.next (S := fun k => k = i ∨ n ≤ k) (by simp [I.ln]) hτ (noAliL_set I.na nt) (fun k hk => ?_) (fun k u hk e => ?_) (by simp) (fun b o e _ => e) (fun b z => z)
    (fun k a hk h => ?_) (fun m1 m2 k u hk e => ?_) (fun k hk => ?_) (fun j k a hj hk hjk h => ?_) (fun k a hk h => ?_) (fun j hj => ?_)⟩
  · have h1 : k ≠ i := fun z => hk (.inl z)
    have h2 : k < n := by by_cases z : k < n; exact z; exact absurd (.inr (by omega)) hk
    simp only [if_neg h1, if_pos h2]
  · have h1 : k ≠ i := fun z => hk (.inl z)
    have h2 : k < n := by by_cases z : k < n; exact z; exact absurd (.inr (by omega)) hk
    have e1 : (ρ ++ τ)[k]? = some u := by
      by_cases hk2 : k < ρ.length
      · rw [List.getElem?_append_left (by simpa using hk2), List.getElem?_set_ne (Ne.symm h1)] at e
        rw [List.getElem?_append_left hk2]; exact e
      · rw [List.getElem?_append_right (by simp; omega)] at e
        rw [List.getElem?_append_right (by omega)]
        simpa using e
    refine ⟨?_, ?_, ?_⟩
    · rw [← List.append_assoc, List.getElem?_append_left (by simp; omega)]; exact e1
    · have e3 : (σ ++ List.map some (vs ++ [v]))[k]? = (σ ++ List.map some vs)[k]? := by
        rw [List.map_append, ← List.append_assoc]
        exact List.getElem?_append_left (by simp [← I.ln, ← hτ]; omega)
      rw [e3]
      by_cases hk2 : k < ρ.length
      · have a1 : k < (σ.set i (some v)).length := by simp [← I.ln]; exact hk2
        have a2 : k < σ.length := by rw [← I.ln]; exact hk2
        exact (List.getElem?_append_left a1).trans ((List.getElem?_set_ne (Ne.symm h1)).trans (List.getElem?_append_left a2).symm)
      · have a1 : (σ.set i (some v)).length ≤ k := by simp [← I.ln]; omega
        have a2 : σ.length ≤ k := by rw [← I.ln]; omega
        refine (List.getElem?_append_right a1).trans (Eq.trans ?_ (List.getElem?_append_right a2).symm)
        simp
    · rcases nτ with nτ | nc
      · have all : noAliL (ρ ++ τ) = true := by rw [noAliL_append, I.na, nτ]; rfl
        exact .inr (noAliL_iff.mp all k u e1)
      · exact .inl (set_wipe nc)
  · rcases hk with rfl | hk
    · simp only [if_true] at h; exact .inl ⟨n, .inr (Nat.le_refl _), h⟩
    · simp [if_neg (show k ≠ i by omega), show ¬ k < n by omega] at h
  · rcases hk with rfl | hk
    · rw [List.getElem?_append_left (by simpa using hi), List.getElem?_set_self hi] at e
      cases e
      refine .inr ⟨v, ?_, ?_⟩
      · rw [List.getElem?_append_left (by simp [← I.ln]; exact hi), List.getElem?_set_self (by rw [← I.ln]; exact hi)]
      · simp only [if_true]
        exact top.move m1 m2 (fun _ _ _ q => q) (.inr nt)
    · have : k < (ρ.set i t ++ τ).length := (List.getElem?_eq_some_iff.mp e).1
      simp at this
      omega
  · rcases hk with rfl | hk
    · simp only [if_true]; exact I.nd n
    · simp [if_neg (show k ≠ i by omega), show ¬ k < n by omega]
  · rcases hj with rfl | hj
    · have : n ≤ k := hk.resolve_left (Ne.symm hjk)
      simp [if_neg (Ne.symm hjk), show ¬ k < n by omega]
    · simp [if_neg (show j ≠ i by omega), show ¬ j < n by omega] at h
  · rcases hk with rfl | hk
    · simp only [if_true] at h; exact I.ot n a h
    · simp [if_neg (show k ≠ i by omega), show ¬ k < n by omega] at h
  · refine List.getElem?_set_ne fun z => nl ?_
    rw [z]; exact hj
theorem SS.nip {ws : List V} {us : List T} (h : SS C σ H ρ (vs ++ ws ++ [v]) (τ ++ us ++ [t])) (hτ : τ.length = vs.length) : SS C σ H ρ (vs ++ [v]) (τ ++ [t]) := by
  obtain ⟨ow, I⟩ := h
  have top := I.top
  simp at top
  have I' : SI C σ H ρ (vs ++ (ws ++ [v])) (τ ++ (us ++ [t])) ow := by simpa using I
  refine I'.one hτ (Same.refl H) v t (ow (ρ.length + (τ.length + us.length))) (fun ow' m1 m2 _ => top.move m1 m2 (fun _ _ _ q => q) (.inl rfl)) (I.nd _) (fun a ha => .inl ⟨_, by omega, ha⟩) fun a ha => I.ot _ a ha
end
abbrev DG := T → List T → (List T → Prop) → Prop
abbrev DGs := List T → List T → (List T → Prop) → Prop
def SimG (C : Ctx) (g : TG) (f : DG) : Prop := ∀ (σ : St) (H : Hp) (ρ : List T) (vs : List V) (τ : List T) (v : V) (t : T) (Qd : List T → Prop) (Q : St → Hp → Prop), SS C σ H ρ (vs ++ [v]) (τ ++ [t]) → noAliL τ = true → f t ρ Qd →
  (∀ σ' H' ρ', SS C σ' H' ρ' vs τ → Qd ρ' → Q σ' H') → g v σ H Q
structure DPG (C : Ctx) (e : Expr) (f : DG) : Prop where
  ex : ∃ g, PG C.X e g ∧ SimG C g f
def SimGs (C : Ctx) (g : TGs) (f : DGs) : Prop := ∀ (σ : St) (H : Hp) (ρ : List T) (vs : List V) (τ : List T) (xs : List V) (ts : List T) (Qd : List T → Prop) (Q : St → Hp → Prop), SS C σ H ρ (vs ++ xs) (τ ++ ts) → ts.length = xs.length → noAliL τ = true → noAliL ts = true → f ts ρ Qd →
  (∀ σ' H' ρ', SS C σ' H' ρ' vs τ → Qd ρ' → Q σ' H') → g xs σ H Q
structure DPGs (C : Ctx) (es : List Expr) (f : DGs) : Prop where
  ex : ∃ g, PGs C.X es g ∧ SimGs C g f
def dgName (i : Nat) : DG := fun t ρ Q => match noAli t with
  | true => Q (ρ.set i t)
  | false => False
def dgNil : DGs := fun ts ρ Q => match ts with
  | [] => Q ρ
  | _ => False
section
variable {C : Ctx} {pos : Pos}
theorem na_ok {t : T} {P : Prop} (h : match noAli t with | true => P | false => False) : noAli t = true ∧ P := by
  cases e : noAli t with
  | false => rw [e] at h; exact h.elim
  | true => rw [e] at h; exact ⟨rfl, h⟩
theorem getElem?_of_set {α : Type} {l : List α} {i : Nat} : ¬ i < l.length → ∀ a, l.set i a = l := fun h a => List.set_eq_of_length_le (by omega)
theorem SS.lnN {σ : St} {H : Hp} {ρ : List T} {vs : List V} {τ : List T} (h : SS C σ H ρ vs τ) : ρ.length = σ.length := let ⟨_, I⟩ := h; I.ln
theorem dg_name {i : Nat} {x : Str} (hN : C.X.N.Nodup) (hi : C.X.N[i]? = some x) (hx : Loc C.X.env.scope x) (nl : i ∉ C.lent) (hf : C.X.fn x = true ∨ C.X.env.scope.names.lookup x = some .local := by first | exact .inl rfl | exact .inr rfl | assumption) :
    DPG C (.Name x pos) (dgName i) :=
  ⟨_, pg_name hN hi hx hf, fun σ H ρ vs τ v t Qd Q I na q k => by
    obtain ⟨nt, q⟩ := na_ok q
    by_cases z : i < ρ.length
    · exact k _ _ _ (I.assign z nt (.inl na) nl) q
    · refine k _ _ ρ ?_ (by rw [getElem?_of_set z] at q; exact q)
      rw [getElem?_of_set (by rw [← I.lnN]; exact z)]
      exact I.pop⟩
theorem dgs_nil : DPGs C [] dgNil := ⟨_, pgs_nil, fun σ H ρ vs τ xs ts Qd Q I hl na nt q k => by
  unfold dgNil at q
  split at q
  · have : xs = [] := List.length_eq_zero_iff.mp hl.symm
    subst this
    exact ⟨rfl, k _ _ _ (by simpa using I) q⟩
  · exact q.elim⟩
theorem SS.first {σ : St} {H : Hp} {ρ : List T} {vs xs : List V} {τ ts : List T} {v : V} {t : T} (h : SS C σ H ρ (vs ++ (v :: xs)) (τ ++ (t :: ts))) (hl : ts.length = xs.length) : SS C σ H ρ (vs ++ xs ++ [v]) (τ ++ ts ++ [t]) := by
  obtain ⟨ow, I⟩ := h
  have hτ : τ.length = vs.length := by have := I.lt; simp at this; omega
  let n := ρ.length + τ.length
  have J := SI.temps (us := ts ++ [t]) (ys := xs ++ [v]) I hτ (Same.refl H) (by simp [hl]) (fun j => if j < ts.length then ow (n + (j + 1)) else if j = ts.length then ow n else []) rfl
    (ow' := fun k => if k < ρ.length + τ.length then ow k else (fun j => if j < ts.length then ow (n + (j + 1)) else if j = ts.length then ow n else []) (k - (ρ.length + τ.length)))
    (fun m1 m2 j u e => by
      by_cases hj : j < ts.length
      · rw [List.getElem?_append_left hj] at e
        obtain ⟨w, hw, r⟩ := I.temp (j := τ.length + (j + 1)) (t := u) (by rw [List.getElem?_append_right (by omega)]; simpa using e)
        rw [hτ, List.getElem?_append_right (by omega)] at hw
        simp at hw
        refine ⟨w, by rw [List.getElem?_append_left (by omega)]; exact hw, ?_⟩
        simp only [if_pos hj]
        have e2 : ρ.length + (τ.length + (j + 1)) = n + (j + 1) := by omega
        rw [e2] at r
        exact r.move m1 m2 (fun _ _ _ q => q) (.inl rfl)
      · have hj2 : j = ts.length := by
          have := (List.getElem?_eq_some_iff.mp e).1
          simp at this; omega
        subst hj2
        simp at e; subst e
        obtain ⟨w, hw, r⟩ := I.temp (j := τ.length) (t := t) (by rw [List.getElem?_append_right (by omega)]; simp)
        rw [hτ, List.getElem?_append_right (by omega)] at hw
        simp at hw; subst hw
        refine ⟨v, by rw [hl]; simp, ?_⟩
        simp only [if_neg (Nat.lt_irrefl _), if_true]
        exact r.move m1 m2 (fun _ _ _ q => q) (.inl rfl))
    (fun j => by
      by_cases hj : j < ts.length
      · simp only [if_pos hj]; exact I.nd _
      · simp only [if_neg hj]
        by_cases hj2 : j = ts.length
        · simp only [if_pos hj2]; exact I.nd _
        · simp [if_neg hj2])
    (fun i j a hij hi => by
      by_cases h1 : i < ts.length
      · simp only [if_pos h1] at hi
        by_cases h2 : j < ts.length
        · simp only [if_pos h2]; exact I.dj _ _ a (by omega) hi
        · simp only [if_neg h2]
          by_cases h3 : j = ts.length
          · simp only [if_pos h3]; exact I.dj _ _ a (by omega) hi
          · simp [if_neg h3]
      · simp only [if_neg h1] at hi
        by_cases h4 : i = ts.length
        · simp only [if_pos h4] at hi
          by_cases h2 : j < ts.length
          · simp only [if_pos h2]; exact I.dj _ _ a (by omega) hi
          · simp only [if_neg h2]
            by_cases h3 : j = ts.length
            · omega
            · simp [if_neg h3]
        · simp [if_neg h4] at hi)
    (fun j a h => by
      by_cases hj : j < ts.length
      · simp only [if_pos hj] at h; exact .inl ⟨_, by omega, h⟩
      · simp only [if_neg hj] at h
        by_cases hj2 : j = ts.length
        · simp only [if_pos hj2] at h; exact .inl ⟨_, by omega, h⟩
        · simp [if_neg hj2] at h)
    (fun j a h => by
      by_cases hj : j < ts.length
      · simp only [if_pos hj] at h; exact I.ot _ a h
      · simp only [if_neg hj] at h
        by_cases hj2 : j = ts.length
        · simp only [if_pos hj2] at h; exact I.ot _ a h
        · simp [if_neg hj2] at h)
  exact ⟨_, by simpa using J⟩
def dgCons (g : DG) (gs : DGs) : DGs := fun ts ρ Q => match ts with
  | t :: ts => g t ρ fun ρ1 => gs ts ρ1 Q
  | [] => False
variable {e : Expr} {es : List Expr} {g : DG} {gs : DGs}
theorem dgs_cons (h1 : DPG C e g) (h2 : DPGs C es gs) (hs : (assignEach (e :: es) C.X.env).map (·.2) = assign e C.X.env :: (assignEach es C.X.env).map (·.2) := by rfl) : DPGs C (e :: es) (dgCons g gs) :=
  let ⟨_, p1, s1⟩ := h1.ex; let ⟨_, p2, s2⟩ := h2.ex
  ⟨_, pgs_cons p1 p2 hs, fun σ H ρ vs τ xs ts Qd Q I hl na nt q k => by
    unfold dgCons at q
    split at q
    · rename_i t ts
      match xs, hl with
      | v :: xs, hl =>
        simp [noAliL] at nt
        refine ⟨v, xs, rfl, s1 σ H ρ (vs ++ xs) (τ ++ ts) v t _ _ (I.first (by simpa using hl)) (by rw [noAliL_append, na, nt.2]; rfl) q fun σ' H' ρ' I' q' => ?_⟩
        exact s2 σ' H' ρ' vs τ xs ts _ _ I' (by simpa using hl) na nt.2 q' k
    · exact q.elim⟩
def partsT : T → Option (List T)
  | .dat (.tuple ds) => some (ds.map .dat)
  | .dat (.list ds) => some (ds.map .dat)
  | .bor (.tuple ds) => some (ds.map .bor)
  | .bor (.list ds) => some (ds.map .bor)
  | .own ds => some (ds.map .dat)
  | .tup ts => some ts
  | _ => none
def dgTup (n : Nat) (gs : DGs) : DG := fun t ρ Q => match noAli t with
  | true => wO (partsT t) fun ts => ts.length = n ∧ gs ts ρ Q
  | false => False
theorem noAli_dat : ∀ ds : List D, noAliL (ds.map T.dat) = true
  | [] => rfl
  | _ :: ds => by simp [noAliL, noAli, noAli_dat ds]
theorem noAli_bor : ∀ ds : List D, noAliL (ds.map T.bor) = true
  | [] => rfl
  | _ :: ds => by simp [noAliL, noAli, noAli_bor ds]
end
section
variable {C : Ctx} {σ : St} {H : Hp} {ρ : List T} {vs xs : List V} {τ : List T} {v : V} {t : T} {ow : Nat → List Addr}
theorem DIsL.datL {K : PySem.W.Frag} {B Bb : Addr → Prop} : ∀ {ds : List D} {xs : List V}, DIsL K B H ds xs → TIsL K B Bb σ H (ds.map T.dat) xs []
  | _, _, .nil => .nil
  | _, _, .cons r t => .cons (o1 := []) (o2 := []) (.dat r) (DIsL.datL t)
theorem DIsL.borL {K : PySem.W.Frag} {B Bb : Addr → Prop} : ∀ {ds : List D} {xs : List V}, DIsL K Bb H ds xs → TIsL K B Bb σ H (ds.map T.bor) xs []
  | _, _, .nil => .nil
  | _, _, .cons r t => .cons (o1 := []) (o2 := []) (.bor r) (DIsL.borL t)
theorem TIsL.split {K : PySem.W.Frag} {B Bb : Addr → Prop} : ∀ {ts : List T} {xs : List V} {os : List Addr}, TIsL K B Bb σ H ts xs os → os.Nodup → ∃ f : Nat → List Addr, (∀ (j : Nat) (t : T), ts[j]? = some t → ∃ v, xs[j]? = some v ∧ TIs K B Bb σ H t v (f j)) ∧
    (∀ j, (f j).Nodup) ∧ (∀ i j a, i ≠ j → a ∈ f i → a ∉ f j) ∧ ∀ j a, a ∈ f j → a ∈ os
  | _, _, _, .nil, _ => ⟨fun _ => [], fun j t e => by simp at e, fun _ => List.nodup_nil, fun _ _ _ _ z => by simp at z, fun _ _ z => by simp at z⟩
  | t :: ts, x :: xs, _, .cons (o1 := o1) (o2 := o2) r q, nd => by
    have nd' := List.nodup_append.mp nd
    obtain ⟨f, h1, h2, h3, h4⟩ := TIsL.split q nd'.2.1
    refine ⟨fun j => match j with | 0 => o1 | j + 1 => f j, fun j u e => ?_, fun j => ?_, fun i j a hij hi => ?_, fun j a h => ?_⟩
    · cases j with
      | zero => simp at e; subst e; exact ⟨x, rfl, r⟩
      | succ j => exact h1 j u (by simpa using e)
    · cases j with
      | zero => exact nd'.1
      | succ j => exact h2 j
    · cases i with
      | zero => cases j with
        | zero => exact absurd rfl hij
        | succ j => exact fun z => nd'.2.2 a hi a (h4 j a z) rfl
      | succ i => cases j with
        | zero => exact fun z => nd'.2.2 a z a (h4 i a hi) rfl
        | succ j => exact h3 i j a (by omega) hi
    · cases j with
      | zero => exact List.mem_append_left _ h
      | succ j => exact List.mem_append_right _ (h4 j a h)
theorem SS.apart (I : SS C σ H ρ (vs ++ [v]) (τ ++ [t])) {us : List T} (e : partsT t = some us) : ∃ a xs, v = .ref a ∧ (SqT C.K H a xs ∨ SqL C.K H a xs) ∧ us.length = xs.length ∧ SS C σ H ρ (vs ++ xs) (τ ++ us) := by
  obtain ⟨ow, J⟩ := I
  have top := J.top
  have go : ∀ {us : List T} {xs : List V} {os : List Addr}, TIsL C.K (Bar C ow) (BarB C ow) (wipe σ C.cv) H us xs os → os.Nodup → (∀ a, a ∈ os → a ∈ ow (ρ.length + τ.length)) → SS C σ H ρ (vs ++ xs) (τ ++ us) := fun {us xs os} r nd sub => by
    obtain ⟨f, h1, h2, h3, h4⟩ := r.split nd
    have hl := r.length
    refine ⟨_, SI.temps (us := us) (ys := xs) (ow' := fun k => if k < ρ.length + τ.length then ow k else (fun j => if j < us.length then f j else []) (k - (ρ.length + τ.length))) J J.lt1 (Same.refl H) hl (fun j => if j < us.length then f j else []) rfl (fun m1 m2 j u e => ?_) (fun j => ?_) (fun i j a hij hi => ?_) (fun j a h => ?_) (fun j a h => ?_)⟩
    · obtain ⟨w, hw, q⟩ := h1 j u e
      refine ⟨w, hw, ?_⟩
      have hj : j < us.length := (List.getElem?_eq_some_iff.mp e).1
      simp only [if_pos hj]
      exact q.move m1 m2 (fun _ _ _ q => q) (.inl rfl)
    · show (if j < us.length then f j else []).Nodup
      split
      · exact h2 j
      · exact List.nodup_nil
    · have hi : a ∈ (if i < us.length then f i else []) := hi
      show a ∉ (if j < us.length then f j else [])
      split at hi
      · split
        · exact h3 i j a hij hi
        · simp
      · simp at hi
    · have h : a ∈ (if j < us.length then f j else []) := h
      split at h
      · exact .inl ⟨_, Nat.le_refl _, sub a (h4 j a h)⟩
      · simp at h
    · have h : a ∈ (if j < us.length then f j else []) := h
      split at h
      · exact J.ot _ a (sub a (h4 j a h))
      · simp at h
  have hnd := J.nd (ρ.length + τ.length)
  generalize hos : ow (ρ.length + τ.length) = os at top go hnd
  cases top with
  | dat d =>
    cases d with
    | list e0 n q => simp [partsT] at e; subst e; exact ⟨_, _, rfl, .inr (.of e0), by rw [List.length_map]; exact q.length, go (q.datL) List.nodup_nil fun _ z => by simp at z⟩
    | tuple e0 q => simp [partsT] at e; subst e; exact ⟨_, _, rfl, .inl e0.sq, by rw [List.length_map]; exact q.length, go (q.datL) List.nodup_nil fun _ z => by simp at z⟩
    | _ => simp [partsT] at e
  | bor d =>
    cases d with
    | list e0 n q => simp [partsT] at e; subst e; exact ⟨_, _, rfl, .inr (.of e0), by rw [List.length_map]; exact q.length, go (q.borL) List.nodup_nil fun _ z => by simp at z⟩
    | tuple e0 q => simp [partsT] at e; subst e; exact ⟨_, _, rfl, .inl e0.sq, by rw [List.length_map]; exact q.length, go (q.borL) List.nodup_nil fun _ z => by simp at z⟩
    | _ => simp [partsT] at e
  | own e0 q => simp [partsT] at e; subst e; exact ⟨_, _, rfl, .inr (.of e0), by rw [List.length_map]; exact q.length, go (q.datL) List.nodup_nil fun _ z => by simp at z⟩
  | tup e0 n q => simp [partsT] at e; subst e; exact ⟨_, _, rfl, .inl (.inl e0.rd), q.length, go q hnd fun _ z => z⟩
  | _ => simp [partsT] at e
end
theorem pg_or {X : Cx} {e : Expr} {g g' : TG} (h : PG X e g) (h' : PG X e g') : PG X e (fun v σ H Q => g v σ H Q ∨ g' v σ H Q) :=
  ⟨fun pins s σ H v u Q I r q => q.elim (h.run pins s σ H v u Q I r) (h'.run pins s σ H v u Q I r)⟩
section
variable {C : Ctx} {pos : Pos} {es : List Expr} {gs : DGs} {k : Nat} {n : Nat}
theorem noAli_parts : ∀ {t : T} {us : List T}, noAli t = true → partsT t = some us → noAliL us = true := fun {t us} h e => by
  unfold partsT at e
  split at e <;> simp at e <;> subst e <;> first | exact noAli_dat _ | exact noAli_bor _ | (simpa [noAli] using h)
theorem dg_tup (hc : C.X.calm = true) (h : DPGs C es gs) (hn : (assignEach es C.X.env).length = n := by rfl) (hst : (assignEach es C.X.env).findIdx? (·.1) = none := by rfl) : DPG C (.Tuple es k pos) (dgTup n gs) :=
  let ⟨_, p, s⟩ := h.ex
  ⟨_, pg_or (pg_tup hc p hn hst) (pg_lst hc p hn hst), fun σ H ρ vs τ v t Qd Q I na q k => by
    obtain ⟨nt, q⟩ := na_ok q
    obtain ⟨us, e, hl, q⟩ := wO_some q
    obtain ⟨a, xs, rfl, hq, hlen, I'⟩ := I.apart e
    have fin := s σ H ρ vs τ xs us Qd Q I' hlen na (noAli_parts nt e) q k
    rcases hq with hq | hq
    · exact .inl ⟨a, xs, rfl, hq, by omega, fin⟩
    · exact .inr ⟨a, xs, rfl, hq, by omega, fin⟩⟩
end
structure DEnds where
  nx : List T → Prop
  rt : T → List T → Prop
  bk : List T → Prop := fun _ => False
  ct : List T → Prop := fun _ => False
abbrev DS := DEnds → List T → Prop
structure EndsOk (C : Ctx) (vs : List V) (τ : List T) (Dd : DEnds) (D : Ends) : Prop where
  nx : ∀ σ H ρ, SS C σ H ρ vs τ → Dd.nx ρ → D.nx σ H
  rt : ∀ σ H ρ v x, SS C σ H ρ (vs ++ [v]) (τ ++ [x]) → Dd.rt x ρ → D.rt v H
  bk : ∀ σ H ρ, SS C σ H ρ vs τ → Dd.bk ρ → D.bk σ H
  ct : ∀ σ H ρ, SS C σ H ρ vs τ → Dd.ct ρ → D.ct σ H
def SimS (C : Ctx) (t : TS) (f : DS) : Prop := ∀ (σ : St) (H : Hp) (ρ : List T) (vs : List V) (τ : List T) (Dd : DEnds) (D : Ends), SS C σ H ρ vs τ → noAliL τ = true → f Dd ρ → EndsOk C vs τ Dd D → t D σ H
structure DPS (C : Ctx) (st : Stmt) (f : DS) : Prop where
  ex : ∃ t, PS C.X st t ∧ SimS C t f
structure DPSs (C : Ctx) (st : List Stmt) (f : DS) : Prop where
  ex : ∃ t, PSs C.X st t ∧ SimS C t f
def dNext : DS := fun D ρ => D.nx ρ
structure dSeq (f g : DS) (D : DEnds) (ρ : List T) : Prop where
  run : f { D with nx := fun ρ1 => g D ρ1 } ρ
def dAsg (f : DE) (g : DG) : DS := fun D ρ => f ρ fun x ρ1 => g x ρ1 D.nx
def dDrop (f : DE) : DS := fun D ρ => f ρ fun _ ρ1 => D.nx ρ1
def retT (R : T → List T → Prop) (x : T) (ρ : List T) : Prop := match x with
  | .bor d => safe d = true ∧ R (.dat d) ρ
  | .ali _ => False
  | x => match noAli x with
    | true => R x ρ
    | false => False
def dRet (f : DE) : DS := fun D ρ => f ρ fun x ρ1 => retT D.rt x ρ1
def dIfS (c : DTt) (f g : DS) : DS := fun D ρ => c ρ fun b ρ1 => br b (f D ρ1) (g D ρ1)
section
variable {C : Ctx} {st : Stmt} {rest : List Stmt} {f g : DS} {fe : DE} {e tg c : Expr} {pos pos' : Pos} {dg : DG} {tc : DTt} {i : Nat} {x : Str}
theorem dss_nil : DPSs C [] dNext := ⟨_, pss_nil, fun σ H ρ vs τ Dd D I _ h k => k.nx _ _ _ I h⟩
theorem dss_cons (h : DPS C st f) (h2 : DPSs C rest g) : DPSs C (st :: rest) (dSeq f g) :=
  let ⟨_, p, s⟩ := h.ex; let ⟨_, p2, s2⟩ := h2.ex
  ⟨_, pss_cons p p2, fun σ H ρ vs τ Dd D I na h k => s σ H ρ vs τ { Dd with nx := fun ρ1 => g Dd ρ1 } _ I na h.run ⟨fun σ1 H1 ρ1 I1 q => s2 σ1 H1 ρ1 vs τ Dd D I1 na q k, k.rt, k.bk, k.ct⟩⟩
theorem dss_one (h : DPS C st f) : DPSs C [st] f := let ⟨_, p, s⟩ := h.ex; ⟨_, pss_one p, s⟩
def SimS0 (C : Ctx) (t : TS) (f : DS) : Prop := ∀ (σ : St) (H : Hp) (ρ : List T) (Dd : DEnds) (D : Ends), SS C σ H ρ [] [] → f Dd ρ → EndsOk C [] [] Dd D → t D σ H
structure DPS0 (C : Ctx) (st : Stmt) (f : DS) : Prop where
  ex : ∃ t, PS C.X st t ∧ SimS0 C t f
structure DPSs0 (C : Ctx) (st : List Stmt) (f : DS) : Prop where
  ex : ∃ t, PSs C.X st t ∧ SimS0 C t f
theorem SimS.z {t : TS} (s : SimS C t f) : SimS0 C t f := fun σ H ρ Dd D I h k => s σ H ρ [] [] Dd D I rfl h k
theorem DPS.z (h : DPS C st f) : DPS0 C st f := let ⟨_, p, s⟩ := h.ex; ⟨_, p, s.z⟩
theorem DPSs.z {rows : List Stmt} (h : DPSs C rows f) : DPSs0 C rows f := let ⟨_, p, s⟩ := h.ex; ⟨_, p, s.z⟩
def dBreak : DS := fun D ρ => D.bk ρ
def dCont : DS := fun D ρ => D.ct ρ
def dNever : DS := fun _ _ => False
theorem ds_expr (h : DPE C e fe) (hs : swapsWith e none pos.line C.X.env = pure false := by rfl) : DPS C (.Expr e pos) (dDrop fe) :=
  let ⟨_, p, s⟩ := h.ex
  ⟨_, ps_expr p hs, fun σ H ρ vs τ Dd D I na h k => s σ H ρ vs τ _ _ I h fun v H1 x ρ1 I1 q => k.nx _ _ _ I1.pop q⟩
theorem ret_ok {fx : T} {v : V} {σ : St} {H : Hp} {ρ : List T} {vs : List V} {τ : List T} {R : T → List T → Prop} (I : SS C σ H ρ (vs ++ [v]) (τ ++ [fx])) (h : retT R fx ρ) : ∃ x, SS C σ H ρ (vs ++ [v]) (τ ++ [x]) ∧ R x ρ ∧ noAli x = true := by
  cases fx with
  | bor d =>
    obtain ⟨ow, J⟩ := I
    have top := J.top.bor_inv
    exact ⟨_, J.oneD J.lt1 (J.safe top h.1), h.2, rfl⟩
  | ali _ => exact h.elim
  | lst ts => obtain ⟨n, h⟩ := na_ok h; exact ⟨_, I, h, n⟩
  | tup ts => obtain ⟨n, h⟩ := na_ok h; exact ⟨_, I, h, n⟩
  | ins _ ts => obtain ⟨n, h⟩ := na_ok h; exact ⟨_, I, h, n⟩
  | dat _ => exact ⟨_, I, h, rfl⟩
  | own _ => exact ⟨_, I, h, rfl⟩
  | lbo _ => exact ⟨_, I, h, rfl⟩
  | dct _ => exact ⟨_, I, h, rfl⟩
  | scr _ => exact ⟨_, I, h, rfl⟩
  | exc _ => exact ⟨_, I, h, rfl⟩
  | mem _ => exact ⟨_, I, h, rfl⟩
  | emp => exact ⟨_, I, h, rfl⟩
theorem ds_ret (h : DPE C e fe) : DPS C (.Return (some e) pos) (dRet fe) :=
  let ⟨_, p, s⟩ := h.ex
  ⟨_, ps_ret p, fun σ H ρ vs τ Dd D I na h k => s σ H ρ vs τ _ _ I h fun v H1 x ρ1 I1 q => by
    obtain ⟨y, I2, q2, _⟩ := ret_ok I1 q
    exact k.rt _ _ _ _ _ I2 q2⟩
def dRetN : DS := fun D ρ => D.rt (.dat .none) ρ
theorem ds_if {a b : List Stmt} (h : DPT C c tc) (ha : DPSs C a f) (hb : DPSs C b g) : DPS C (.If c a b pos) (dIfS tc f g) :=
  let ⟨_, p, s⟩ := h.ex; let ⟨_, pa, sa⟩ := ha.ex; let ⟨_, pb, sb⟩ := hb.ex
  ⟨_, ps_if p pa pb, fun σ H ρ vs τ Dd D I na h k => s σ H ρ vs τ _ _ I h fun b H1 ρ1 I1 q => by
    cases b with
    | true => rw [if_pos rfl]; exact sa σ H1 ρ1 vs τ Dd D I1 na (q.t rfl) k
    | false => rw [if_neg (by decide)]; exact sb σ H1 ρ1 vs τ Dd D I1 na (q.f rfl) k⟩
theorem sim_asg {te : TE} {g : TG} (hs : Sim C te fe) (hg : SimG C g dg) : SimS C (tAsg te g) (dAsg fe dg) := fun σ H ρ vs τ Dd D I na h k =>
  hs σ H ρ vs τ _ _ I h fun v H1 x ρ1 I1 q => hg σ H1 ρ1 vs τ v x _ _ I1 na q fun σ2 H2 ρ2 I2 q2 => k.nx _ _ _ I2 q2
theorem ds_asg (h : DPE C e fe) (hg : DPG C tg dg) (hs : swapsWithSole [tg] e pos.line C.X.env = pure false := by rfl) (hw : swappedStores [tg] e C.X.env = pure none := by rfl)
    (h1 : (assignEach [tg] C.X.env).map (·.2) = [assign tg C.X.env] := by rfl) : DPS C (.Assign [tg] e pos) (dAsg fe dg) :=
  let ⟨_, p, s⟩ := h.ex; let ⟨_, pg, sg⟩ := hg.ex
  ⟨_, ps_asg p pg hs hw h1, sim_asg s sg⟩
theorem ds_set (hN : C.X.N.Nodup) (hi : C.X.N[i]? = some x) (hx : Loc C.X.env.scope x) (nl : i ∉ C.lent) (h : DPE C e fe) (hs : swapsWith e (some (.Name x pos')) pos.line C.X.env = pure false := by rfl)
    (hf : C.X.fn x = true ∨ C.X.env.scope.names.lookup x = some .local := by first | exact .inl rfl | exact .inr rfl | assumption) : DPS C (.Assign [.Name x pos'] e pos) (dAsg fe (dgName i)) :=
  let ⟨_, p, s⟩ := h.ex
  let ⟨_, _, sg⟩ := (dg_name (pos := pos') hN hi hx nl hf).ex
  ⟨_, ps_set hN hi hx p hs hf, sim_asg s (by
    intro σ H ρ vs τ v t Qd Q I na q k
    obtain ⟨nt, q⟩ := na_ok q
    by_cases z : i < ρ.length
    · exact k _ _ _ (I.assign z nt (.inl na) nl) q
    · refine k _ _ ρ ?_ (by rw [getElem?_of_set z] at q; exact q)
      rw [getElem?_of_set (by rw [← I.lnN]; exact z)]
      exact I.pop)⟩
def dAug (i : Nat) (op : Int → Int → Int) (f : DE) : DS := fun D ρ => wI ((ρ[i]?).bind toD) fun n => f ρ fun x ρ1 => wI (lk ρ1 x) fun m => D.nx (ρ1.set i (.dat (.int (op n m))))
end
def dWhile (c : DTt) (f : DS) : DS := fun D ρ => ∃ W : Nat → List T → Prop, (∃ m, W m ρ) ∧ ∀ m ρ, W m ρ → c ρ fun b ρ1 => br b (f { D with nx := fun ρ2 => ∃ m', m' < m ∧ W m' ρ2, ct := fun ρ2 => ∃ m', m' < m ∧ W m' ρ2, bk := D.nx } ρ1) (D.nx ρ1)
section
variable {C : Ctx} {f : DS} {c : Expr} {body : List Stmt} {tc : DTt} {pos : Pos}
end
def WalksD (C : Ctx) (J : It) (sv : List V) (sx : List T) (its : List T) : Prop := ∀ (i : Nat) (σ : St) (H : Hp) (ρ : List T) (vs : List V) (τ : List T), τ.length = vs.length → SS C σ H ρ (vs ++ sv) (τ ++ sx) →
  (its.length ≤ i → J.stop i H) ∧ ∀ t, its[i]? = some t → J.go i H ∧ ∀ w H', J.yld i H w H' → SS C σ H' ρ (vs ++ sv ++ [w]) (τ ++ sx ++ [t])
abbrev DI := List T → (List T → List T → Prop) → Prop
def SimI (C : Ctx) (wi : TI) (f : DI) : Prop := ∀ (σ : St) (H : Hp) (ρ : List T) (vs : List V) (τ : List T) (Qd : List T → List T → Prop) (R : It → Hp → Prop), SS C σ H ρ vs τ → f ρ Qd →
  (∀ J H' sv sx its ρ', SS C σ H' ρ' (vs ++ sv) (τ ++ sx) → noAliL sx = true → WalksD C J sv sx its → Qd its ρ' → R J H') → wi σ H R
structure DPI (C : Ctx) (tg it : Expr) (f : DI) : Prop where
  ex : ∃ wi, PI C.X tg it wi ∧ SimI C wi f
theorem SS.ltE {C : Ctx} {σ : St} {H : Hp} {ρ : List T} {vs : List V} {τ : List T} (h : SS C σ H ρ vs τ) : τ.length = vs.length := let ⟨_, I⟩ := h; I.lt
def dFor (g : DG) (f : DS) (D : DEnds) : List T → List T → Prop
  | [], ρ => D.nx ρ
  | t :: ts, ρ => g t ρ fun ρ1 => f { D with nx := fun ρ2 => dFor g f D ts ρ2, ct := fun ρ2 => dFor g f D ts ρ2, bk := D.nx } ρ1
def dForS (fi : DI) (g : DG) (f : DS) : DS := fun D ρ => fi ρ fun its ρ1 => dFor g f D its ρ1
section
variable {C : Ctx} {f : DS} {fi : DI} {dg : DG} {tg it : Expr} {body : List Stmt} {pos : Pos}
theorem ds_for (hp : PassesOwn (model C.X.prog C.X.w) C.X.A C.X.env C.X.xe) (hc : C.X.calm = true) (hi : DPI C tg it fi) (hg : DPG C tg dg) (hb : DPSs C body f) (hs : ∀ x, foldedSetIterable it C.X.env x = pure x := by intro _; rfl) :
    DPS C (.For tg it body [] pos) (dForS fi dg f) :=
  let ⟨_, p, s⟩ := hi.ex; let ⟨_, pg, sg⟩ := hg.ex; let ⟨_, pb, sb⟩ := hb.ex
  ⟨_, ps_for hp hc p pg pb hs, fun σ H ρ vs τ Dd D I na h k => s σ H ρ vs τ _ _ I h fun J H1 sv sx its ρ1 I1 nx wk q => by
    have na1 : noAliL (τ ++ sx) = true := by rw [noAliL_append, na, nx]; rfl
    have hτ := I.ltE
    refine ⟨fun i m σ H => m = its.length - i ∧ i ≤ its.length ∧ ∃ ρ, SS C σ H ρ (vs ++ sv) (τ ++ sx) ∧ dFor dg f Dd (its.drop i) ρ, ⟨_, rfl, Nat.zero_le _, ρ1, I1, q⟩, ?_⟩
    rintro i m σ2 H2 ⟨rfl, hi, ρ2, I2, q2⟩
    obtain ⟨st, go⟩ := wk i σ2 H2 ρ2 vs τ hτ I2
    by_cases hlt : i < its.length
    · have e : its[i]? = some its[i] := List.getElem?_eq_getElem hlt
      obtain ⟨g1, y⟩ := go _ e
      refine .inr ⟨g1, fun σ' H' => ∃ ρ', SS C σ' H' ρ' (vs ++ sv) (τ ++ sx) ∧ dFor dg f Dd (its.drop (i + 1)) ρ', fun σ' H' ⟨ρ', I', q'⟩ => ⟨_, by omega, rfl, by omega, ρ', I', q'⟩, fun w H3 hy => ?_⟩
      have I3 := y w H3 hy
      rw [List.drop_eq_getElem_cons hlt] at q2
      exact sg σ2 H3 ρ2 _ _ w _ _ _ I3 na1 q2 fun σ4 H4 ρ4 I4 q4 => sb σ4 H4 ρ4 _ _ _ _ I4 na1 q4
        ⟨fun σ' H' ρ' I' q' => ⟨ρ', I', q'⟩, fun σ' H' ρ' u z I' q' => k.rt _ _ _ _ _ (I'.nip hτ) q', fun σ' H' ρ' I' q' => k.nx _ _ _ (I'.drop hτ) q', fun σ' H' ρ' I' q' => ⟨ρ', I', q'⟩⟩
    · have e : i = its.length := by omega
      subst e
      rw [List.drop_length] at q2
      exact .inl ⟨st (Nat.le_refl _), k.nx _ _ _ (I2.drop hτ) q2⟩⟩
end
theorem dFor_inv {g : DG} {f : DS} {D : DEnds} {its : List T} {ρ : List T} (Pv : Nat → List T → Prop) (h0 : Pv 0 ρ)
    (hs : ∀ i t ρ (K : List T → Prop), its[i]? = some t → Pv i ρ → (∀ ρ', Pv (i + 1) ρ' → K ρ') → g t ρ fun ρ1 => f { D with nx := K, ct := K, bk := D.nx } ρ1) (hd : ∀ ρ, Pv its.length ρ → D.nx ρ) : dFor g f D its ρ := by
  have go : ∀ (l : List T) (i : Nat) ρ, its.drop i = l → Pv i ρ → i ≤ its.length → dFor g f D l ρ := by
    intro l
    induction l with
    | nil =>
      intro i ρ e p hi
      have : its.length ≤ i := List.drop_eq_nil_iff.mp e
      exact hd ρ (by rw [show its.length = i by omega]; exact p)
    | cons t l ih =>
      intro i ρ e p hi
      have hlt : i < its.length := by
        by_cases z : i < its.length
        · exact z
        · rw [List.drop_of_length_le (by omega)] at e; cases e
      rw [List.drop_eq_getElem_cons hlt] at e
      injection e with e1 e2
      exact hs i t ρ (fun ρ2 => dFor g f D l ρ2) (by rw [← e1]; exact List.getElem?_eq_getElem hlt) p fun ρ2 p2 => ih (i + 1) ρ2 e2 p2 (by omega)
  exact go its 0 ρ rfl h0 (Nat.zero_le _)
end Ds
namespace Ds
open PySem L2
def iSeqA (K : PySem.W.Frag) (tl : TE) : TI := fun σ H R => tl σ H fun x H1 => ∃ a, x = .ref a ∧ (((∃ xs, SqL K H1 a xs) ∧ R (Itl K a) H1) ∨ ((∃ xs, SqT K H1 a xs) ∧ R (Itt K a) H1))
theorem pi_seqA {X : Cx} {tg l : Expr} {tl : TE} (hl : PE X l tl) : PI X tg l (iSeqA X.K tl) := by
  refine ⟨fun pins s σ H R I h => ?_⟩
  refine thn (hl.run pins s σ H _ I h) fun v s1 ⟨x, H1, I1, r1, q1⟩ => ?_
  obtain ⟨a, e, q1⟩ := q1
  subst e
  cases r1
  rcases q1 with ⟨⟨xs, hq⟩, q⟩ | ⟨⟨xs, hq⟩, q⟩
  · obtain ⟨its, rv, p, hz⟩ := I1.list hq
    refine wpAny_pyIter_list p.isList ?_
    refine ⟨s1.heap.objs.size, [s1.heap.objs.size], _, _, H1, rfl, I1.kept (t' := s1.toks) fun b o e => Heap.get?_push_of_some _ e, turn_list a _, ⟨_, Heap.get?_push_size _ rfl, rfl, rfl⟩, fun b hb => ?_, q⟩
    have e : b = s1.heap.objs.size := by simpa using hb
    subst e
    exact I1.fpOk (Nat.le_refl _) (I1.hok.fresh (Nat.le_refl _))
  · obtain ⟨its, rv, p, hz⟩ := I1.tuple hq
    refine wpAny_pyIter_tuple (show s1.heap.IsTuple a its.toArray from p) ?_
    refine ⟨s1.heap.objs.size, [s1.heap.objs.size], _, _, H1, rfl, I1.kept (t' := s1.toks) fun b o e => Heap.get?_push_of_some _ e, turn_tuple a _, ⟨_, Heap.get?_push_size _ rfl, rfl, rfl⟩, fun b hb => ?_, q⟩
    have e : b = s1.heap.objs.size := by simpa using hb
    subst e
    exact I1.fpOk (Nat.le_refl _) (I1.hok.fresh (Nat.le_refl _))
def itemsT : T → Option (List T)
  | .dat (.list ds) => some (ds.map .dat)
  | .dat (.tuple ds) => some (ds.map .dat)
  | .bor (.list ds) => some (ds.map .bor)
  | .bor (.tuple ds) => some (ds.map .bor)
  | .own ds => some (ds.map .dat)
  | .lbo ds => some (ds.map .bor)
  | _ => none
def isL : T → Bool
  | .dat (.tuple _) => false
  | .bor (.tuple _) => false
  | _ => true
section
variable {C : Ctx} {σ : St} {H : Hp} {ρ : List T} {vs xs : List V} {τ ts : List T} {v : V} {t x : T} {ow : Nat → List Addr} {its : List T}
theorem SI.src (J : SI C σ H ρ vs τ ow) {os : List Addr} (r : TIs C.K (Bar C ow) (BarB C ow) (wipe σ C.cv) H x v os) (e : itemsT x = some its) : ∃ a zs, v = .ref a ∧ (isL x = true → SqL C.K H a zs) ∧ (isL x = false → SqT C.K H a zs) ∧ its.length = zs.length ∧
    ∀ (i : Nat) (t : T), its[i]? = some t → ∃ w, zs[i]? = some w ∧ TIs C.K (Bar C ow) (BarB C ow) (wipe σ C.cv) H t w [] := by
  have dd : ∀ {ds : List D} {zs : List V}, DIsL C.K (Bar C ow) H ds zs → (ds.map T.dat).length = zs.length ∧ ∀ (i : Nat) (t : T), (ds.map T.dat)[i]? = some t → ∃ w, zs[i]? = some w ∧ TIs C.K (Bar C ow) (BarB C ow) (wipe σ C.cv) H t w [] := fun {ds zs} q => by
    refine ⟨by rw [List.length_map]; exact q.length, fun i t e => ?_⟩
    rw [List.getElem?_map, Option.map_eq_some_iff] at e
    obtain ⟨d, e1, rfl⟩ := e
    obtain ⟨w, hw, q⟩ := q.get e1
    exact ⟨w, hw, .dat q⟩
  have bb : ∀ {ds : List D} {zs : List V}, DIsL C.K (BarB C ow) H ds zs → (ds.map T.bor).length = zs.length ∧ ∀ (i : Nat) (t : T), (ds.map T.bor)[i]? = some t → ∃ w, zs[i]? = some w ∧ TIs C.K (Bar C ow) (BarB C ow) (wipe σ C.cv) H t w [] := fun {ds zs} q => by
    refine ⟨by rw [List.length_map]; exact q.length, fun i t e => ?_⟩
    rw [List.getElem?_map, Option.map_eq_some_iff] at e
    obtain ⟨d, e1, rfl⟩ := e
    obtain ⟨w, hw, q⟩ := q.get e1
    exact ⟨w, hw, .bor q⟩
  cases r with
  | dat d =>
    cases d with
    | list e0 n q => simp [itemsT] at e; subst e; exact ⟨_, _, rfl, fun _ => .of e0, fun z => by simp [isL] at z, dd q⟩
    | tuple e0 q => simp [itemsT] at e; subst e; exact ⟨_, _, rfl, fun z => by simp [isL] at z, fun _ => e0.sq, dd q⟩
    | _ => simp [itemsT] at e
  | bor d =>
    cases d with
    | list e0 n q => simp [itemsT] at e; subst e; exact ⟨_, _, rfl, fun _ => .of e0, fun z => by simp [isL] at z, bb q⟩
    | tuple e0 q => simp [itemsT] at e; subst e; exact ⟨_, _, rfl, fun z => by simp [isL] at z, fun _ => e0.sq, bb q⟩
    | _ => simp [itemsT] at e
  | own e0 q => simp [itemsT] at e; subst e; exact ⟨_, _, rfl, fun _ => .of e0, fun z => by simp [isL] at z, dd q⟩
  | lbo e0 q => simp [itemsT] at e; subst e; exact ⟨_, _, rfl, fun _ => .of e0, fun z => by simp [isL] at z, bb q⟩
  | _ => simp [itemsT] at e
theorem itemsT_na (e : itemsT x = some its) : noAli x = true := by
  unfold itemsT at e
  split at e <;> first | rfl | simp at e
end
section
variable {C : Ctx} {tg it e e2 : Expr} {fe : DE} {fs : DA} {pos p : Pos} {x y : T} {its its2 : List T} {σ : St} {H : Hp} {ρ : List T} {vs : List V} {τ : List T} {v w : V}
def dSeqI (f : DE) : DI := fun ρ Q => f ρ fun x ρ1 => wO (itemsT x) fun its => Q its ρ1
theorem SS.last {sv : List V} {sx : List T} (I : SS C σ H ρ (vs ++ sv) (τ ++ sx)) : SS C σ H ρ (vs ++ sv) (τ ++ sx) := I
theorem SS.push1 (I : SS C σ H ρ vs τ) {t : T} (ow : Nat → List Addr) (J : SI C σ H ρ vs τ ow) (r : TIs C.K (Bar C ow) (BarB C ow) (wipe σ C.cv) H t v []) : SS C σ H ρ (vs ++ [v]) (τ ++ [t]) := by
  have J' : SI C σ H ρ (vs ++ []) (τ ++ []) ow := by simpa using J
  exact J'.one J.lt (Same.refl H) v t [] (fun ow' m1 m2 _ => r.move m1 m2 (fun _ _ _ q => q) (.inl rfl)) List.nodup_nil (fun _ z => by simp at z) fun _ z => by simp at z
theorem walks_list {a : Addr} (e : itemsT x = some its) (hk : isL x = true) : WalksD C (Itl C.K a) [.ref a] [x] its := by
  intro i σ H ρ vs τ hτ I
  obtain ⟨ow, J⟩ := id I
  obtain ⟨a', zs, ea, hq, _, hlen, at_⟩ := J.src J.top e
  cases ea
  have hq := hq hk
  refine ⟨fun h => ⟨zs, hq, by omega⟩, fun t et => ?_⟩
  obtain ⟨w, hw, r⟩ := at_ i t et
  refine ⟨⟨zs, w, hq, hw⟩, fun w' H' hy => ?_⟩
  obtain ⟨rfl, hy⟩ := hy
  have := hy zs hq
  rw [hw] at this; cases this
  exact I.push1 ow J r
theorem walks_tup {a : Addr} (e : itemsT x = some its) (hk : isL x = false) : WalksD C (Itt C.K a) [.ref a] [x] its := by
  intro i σ H ρ vs τ hτ I
  obtain ⟨ow, J⟩ := id I
  obtain ⟨a', zs, ea, _, hq, hlen, at_⟩ := J.src J.top e
  cases ea
  have hq := hq hk
  refine ⟨fun h => ⟨zs, hq, by omega⟩, fun t et => ?_⟩
  obtain ⟨w, hw, r⟩ := at_ i t et
  refine ⟨⟨zs, w, hq, hw⟩, fun w' H' hy => ?_⟩
  obtain ⟨rfl, hy⟩ := hy
  have := hy zs hq
  rw [hw] at this; cases this
  exact I.push1 ow J r
theorem di_seq (h : DPE C it fe) : DPI C tg it (dSeqI fe) :=
  let ⟨_, p, s⟩ := h.ex
  ⟨_, pi_seqA p, fun σ H ρ vs τ Qd R I h k => s σ H ρ vs τ _ _ I h fun v H1 x ρ1 I1 q => by
    obtain ⟨its, e, q⟩ := wO_some q
    obtain ⟨ow, J⟩ := id I1
    obtain ⟨a, zs, rfl, h1, h2, _⟩ := J.src J.top e
    have na : noAliL [x] = true := by simp [noAliL, itemsT_na e]
    refine ⟨a, rfl, ?_⟩
    cases hk : isL x with
    | true => exact .inl ⟨⟨zs, h1 hk⟩, k _ _ _ _ _ _ I1 na (walks_list e hk) q⟩
    | false => exact .inr ⟨⟨zs, h2 hk⟩, k _ _ _ _ _ _ I1 na (walks_tup e hk) q⟩⟩
def rngT (lo : Int) (n : Nat) : List T := (List.range n).map fun k => .dat (.int (lo + (k : Nat)))
def dRange1 (f : DA) : DI := fun ρ Q => f ρ fun ts ρ1 => match ts with
  | [x] => wI (lk ρ1 x) fun j => (-(2 ^ 62) ≤ j ∧ j < 2 ^ 62) ∧ Q (rngT 0 j.toNat) ρ1
  | _ => False
def dRange2 (f : DA) : DI := fun ρ Q => f ρ fun ts ρ1 => match ts with
  | [x, y] => wI (lk ρ1 x) fun i => wI (lk ρ1 y) fun j => (-(2 ^ 62) ≤ i ∧ i < 2 ^ 62 ∧ -(2 ^ 62) ≤ j ∧ j < 2 ^ 62) ∧ Q (rngT i (j - i).toNat) ρ1
  | _ => False
theorem rngT_get {lo : Int} {n i : Nat} {t : T} (e : (rngT lo n)[i]? = some t) : i < n ∧ t = .dat (.int (lo + (i : Nat))) := by
  unfold rngT at e
  rw [List.getElem?_map, Option.map_eq_some_iff] at e
  obtain ⟨k, e1, rfl⟩ := e
  obtain ⟨h1, h2⟩ := List.getElem?_eq_some_iff.mp e1
  simp at h1 h2
  subst h2
  exact ⟨h1, rfl⟩
theorem rngT_len {lo : Int} {n : Nat} : (rngT lo n).length = n := by simp [rngT]
theorem walks_rng {lo : Int} {n : Nat} : WalksD C (Itr lo n) [] [] (rngT lo n) := by
  intro i σ H ρ vs τ hτ I
  refine ⟨fun h => by rw [rngT_len] at h; exact h, fun t et => ?_⟩
  obtain ⟨h1, rfl⟩ := rngT_get et
  refine ⟨h1, fun w H' hy => ?_⟩
  obtain ⟨rfl, rfl⟩ := hy
  exact SS.int I _
theorem di_range1 (hg : Gl C.X "range") (hm : C.X.mg "range" = none) (ha : DPA C [e] fs) (hs : starEach [e] C.X.env = [(false, eval e C.X.env)] := by rfl) : DPI C tg (.Call (.Name "range" p) [e] [] pos) (dRange1 fs) :=
  let ⟨_, pa, sa⟩ := ha.ex
  ⟨_, pi_range1 hg hm pa hs, fun σ H ρ vs τ Qd R I h k => sa σ H ρ vs τ _ _ I h fun xs H1 ts ρ1 I1 hl q => by
    split at q
    · obtain ⟨v, rfl⟩ := len1 hl
      obtain ⟨j, ej, hb, q⟩ := wI_some q
      have I1' : SS C σ H1 ρ1 (vs ++ [v]) _ := I1
      exact ⟨j, by rw [(I1'.lk1 ej).int_eq], hb.1, hb.2, k _ _ [] [] _ _ (by simpa using I1'.pop) rfl walks_rng q⟩
    · exact q.elim⟩
theorem di_range2 (hg : Gl C.X "range") (hm : C.X.mg "range" = none) (ha : DPA C [e, e2] fs) (hs : starEach [e, e2] C.X.env = [(false, eval e C.X.env), (false, eval e2 C.X.env)] := by rfl) (hs2 : starEach [e2] C.X.env = [(false, eval e2 C.X.env)] := by rfl) :
    DPI C tg (.Call (.Name "range" p) [e, e2] [] pos) (dRange2 fs) :=
  let ⟨_, pa, sa⟩ := ha.ex
  ⟨_, pi_range2 hg hm pa hs hs2, fun σ H ρ vs τ Qd R I h k => sa σ H ρ vs τ _ _ I h fun xs H1 ts ρ1 I1 hl q => by
    split at q
    · obtain ⟨v, w, rfl⟩ := len2 hl
      obtain ⟨i, ei, q⟩ := wI_some q
      obtain ⟨j, ej, hb, q⟩ := wI_some q
      have hτ := I.ltE
      obtain ⟨v', hv, d1⟩ := I1.lkA hτ (j := 0) rfl ei
      obtain ⟨w', hw, d2⟩ := I1.lkA hτ (j := 1) rfl ej
      simp at hv hw
      subst hv hw
      exact ⟨i, j, by rw [d1.int_eq, d2.int_eq], hb, k _ _ [] [] _ _ (by simpa using I1.drop hτ) rfl walks_rng q⟩
    · exact q.elim⟩
def pairT : T → T → T
  | .dat a, .dat b => .dat (.tuple [a, b])
  | a, b => .tup [a, b]
def enumT (its : List T) : List T := its.zipIdx.map fun q => pairT (.dat (.int (q.2 : Nat))) q.1
def zipT (its its2 : List T) : List T := (its.zip its2).map fun q => pairT q.1 q.2
theorem unow {K : PySem.W.Frag} {B Bb : Addr → Prop} {σ : St} {H : Hp} {t u : T} {v w : V} {p : Addr} (hp : TPl H p [v, w]) (nb : ¬ B p) (r : TIs K B Bb σ H t v []) (r2 : TIs K B Bb σ H u w []) : TIs K B Bb σ H (pairT t u) (.ref p) [] := by
  unfold pairT
  split
  · exact .dat (.tuple (.inl ⟨hp, nb⟩) (.cons r.dat_inv (.cons r2.dat_inv .nil)))
  · exact .tup hp nb (.cons (o1 := []) (o2 := []) r (.cons (o1 := []) (o2 := []) r2 .nil))
theorem SS.pushPair (I : SS C σ H ρ vs τ) (ow : Nat → List Addr) (J : SI C σ H ρ vs τ ow) {t u : T} {p : Addr} {ob : Obj} (hp : H p = none) (hd : ob.dict = none) (r : TIs C.K (Bar C ow) (BarB C ow) (wipe σ C.cv) H t v []) (r2 : TIs C.K (Bar C ow) (BarB C ow) (wipe σ C.cv) H u w []) :
    SS C σ (upd H p (.frz ob (.tup [v, w]))) ρ (vs ++ [.ref p]) (τ ++ [pairT t u]) := by
  have J' : SI C σ H ρ (vs ++ []) (τ ++ []) ow := by simpa using J
  exact J'.one J.lt (same_upd hp) (.ref p) _ [] (fun ow' m1 m2 hb => unow ⟨_, upd_same, hd⟩ (fun z => (hb p z).elim (J.nbar hp) (by simp)) (r.move m1 m2 (fun _ _ z => by simp at z) (.inl rfl)) (r2.move m1 m2 (fun _ _ z => by simp at z) (.inl rfl)))
    List.nodup_nil (fun _ z => by simp at z) fun _ z => by simp at z
theorem sqM_of {K : PySem.W.Frag} {b : Bool} {a : Addr} {zs : List V} (h1 : b = true → SqL K H a zs) (h2 : b = false → SqT K H a zs) : SqM K b H a zs := by
  cases b
  · exact h2 rfl
  · exact h1 rfl
def dEnumI (f : DA) : DI := fun ρ Q => f ρ fun ts ρ1 => match ts with
  | [x] => isL x = isL x ∧ wO (itemsT x) fun its => Q (enumT its) ρ1
  | _ => False
theorem walks_enum {a : Addr} (e : itemsT x = some its) : WalksD C (IteM C.K (isL x) a) [.ref a] [x] (enumT its) := by
  intro i σ H ρ vs τ hτ I
  obtain ⟨ow, J⟩ := id I
  obtain ⟨a', zs, ea, h1, h2, hlen, at_⟩ := J.src J.top e
  cases ea
  have hq := sqM_of h1 h2
  refine ⟨fun h => ⟨zs, hq, by simp [enumT] at h; omega⟩, fun t et => ?_⟩
  unfold enumT at et
  rw [List.getElem?_map, Option.map_eq_some_iff] at et
  obtain ⟨q, e1, rfl⟩ := et
  rw [List.getElem?_zipIdx] at e1
  simp only [Option.map_eq_some_iff] at e1
  obtain ⟨t, et, rfl⟩ := e1
  obtain ⟨w, hw, r⟩ := at_ i t et
  refine ⟨⟨zs, w, hq, hw⟩, fun w' H' hy => ?_⟩
  obtain ⟨p, ob, w2, rfl, hp, hd, rfl, hy⟩ := hy
  have := hy zs hq
  rw [hw] at this; cases this
  have e0 : 0 + i = i := by omega
  simp only [e0]
  exact I.pushPair ow J hp hd (.dat (.int _)) r
theorem di_enum {elts : List Expr} {kk : Nat} {tpos : Pos} (hg : Gl C.X "enumerate") (hm : C.X.mg "enumerate" = none) (ha : DPA C [e] fs) (hs : starEach [e] C.X.env = [(false, eval e C.X.env)] := by rfl) :
    DPI C (.Tuple elts kk tpos) (.Call (.Name "enumerate" p) [e] [] pos) (dEnumI fs) :=
  let ⟨_, pa, sa⟩ := ha.ex
  ⟨_, pi_enumM hg hm pa hs, fun σ H ρ vs τ Qd R I h k => sa σ H ρ vs τ _ _ I h fun xs H1 ts ρ1 I1 hl q => by
    split at q
    · rename_i x
      obtain ⟨v, rfl⟩ := len1 hl
      obtain ⟨its, e, q⟩ := wO_some q.2
      have I1' : SS C σ H1 ρ1 (vs ++ [v]) (τ ++ [x]) := I1
      obtain ⟨ow, J⟩ := id I1'
      obtain ⟨a, zs, rfl, h1, h2, _⟩ := J.src J.top e
      exact ⟨_, a, zs, rfl, sqM_of h1 h2, k _ _ _ _ _ _ I1' (by simp [noAliL, itemsT_na e]) (walks_enum e) q⟩
    · exact q.elim⟩
def dZipI (f : DA) : DI := fun ρ Q => f ρ fun ts ρ1 => match ts with
  | [x, y] => isL x = isL x ∧ wO (itemsT x) fun its => wO (itemsT y) fun its2 => Q (zipT its its2) ρ1
  | _ => False
theorem zipT_get {i : Nat} {t : T} (e : (zipT its its2)[i]? = some t) : ∃ a b, its[i]? = some a ∧ its2[i]? = some b ∧ t = pairT a b := by
  unfold zipT at e
  rw [List.getElem?_map, Option.map_eq_some_iff] at e
  obtain ⟨q, e1, rfl⟩ := e
  rw [List.getElem?_zip_eq_some] at e1
  exact ⟨_, _, e1.1, e1.2, rfl⟩
theorem SI.two (J : SI C σ H ρ (vs ++ [v, w]) (τ ++ [x, y]) ow) (hτ : τ.length = vs.length) : (∃ o, TIs C.K (Bar C ow) (BarB C ow) (wipe σ C.cv) H x v o) ∧ ∃ o, TIs C.K (Bar C ow) (BarB C ow) (wipe σ C.cv) H y w o := by
  obtain ⟨v', hv, r⟩ := J.temp (j := τ.length) (t := x) (by rw [List.getElem?_append_right (by omega)]; simp)
  obtain ⟨w', hw, r2⟩ := J.temp (j := τ.length + 1) (t := y) (by rw [List.getElem?_append_right (by omega)]; simp)
  rw [hτ, List.getElem?_append_right (by omega)] at hv
  rw [hτ, List.getElem?_append_right (by omega)] at hw
  simp at hv hw
  subst hv hw
  exact ⟨⟨_, r⟩, ⟨_, r2⟩⟩
theorem di_zip {elts : List Expr} {kk : Nat} {tpos : Pos} (hg : Gl C.X "zip") (hm : C.X.mg "zip" = none) (ha : DPA C [e, e2] fs) (hs : starEach [e, e2] C.X.env = (false, eval e C.X.env) :: starEach [e2] C.X.env := by rfl) (hpl : (backTo pos (starEach [e2] C.X.env)).any (·.1) = false := by rfl) :
    DPI C (.Tuple elts kk tpos) (.Call (.Name "zip" p) [e, e2] [] pos) (dZipI fs) :=
  let ⟨_, pa, sa⟩ := ha.ex
  ⟨_, pi_zipM hg hm pa hs hpl, fun σ H ρ vs τ Qd R I h k => sa σ H ρ vs τ _ _ I h fun xs H1 ts ρ1 I1 hl q => by
    split at q
    · rename_i x y
      obtain ⟨v, w, rfl⟩ := len2 hl
      obtain ⟨hk, q⟩ := q
      obtain ⟨its, e, q⟩ := wO_some q
      obtain ⟨its2, e2, q⟩ := wO_some q
      have hτ := I.ltE
      obtain ⟨ow, J⟩ := id I1
      obtain ⟨⟨o1, r1⟩, ⟨o2, r2⟩⟩ := J.two hτ
      obtain ⟨a, zs, rfl, h1, h2, _⟩ := J.src r1 e
      obtain ⟨b, zs2, rfl, h3, h4, _⟩ := J.src r2 e2
      have na : noAliL [x, y] = true := by simp [noAliL, itemsT_na e, itemsT_na e2]
      refine ⟨_, _, a, b, zs, zs2, rfl, sqM_of h1 h2, sqM_of h3 h4, k _ _ _ _ _ _ I1 na (fun i σ H ρ vs τ hτ I => ?_) q⟩
      obtain ⟨ow, J⟩ := id I
      obtain ⟨⟨o1, r1⟩, ⟨o2, r2⟩⟩ := J.two hτ
      obtain ⟨a', zs, ea, h1, h2, hlen, at_⟩ := J.src r1 e
      cases ea
      obtain ⟨b', zs2, ea, h3, h4, hlen2, at2⟩ := J.src r2 e2
      cases ea
      have hq := sqM_of h1 h2
      have hq2 := sqM_of h3 h4
      refine ⟨fun h => ⟨zs, zs2, hq, hq2, by simp [zipT] at h; omega⟩, fun t et => ?_⟩
      obtain ⟨t1, t2, g1, g2, rfl⟩ := zipT_get et
      obtain ⟨w1, hw1, q1⟩ := at_ i t1 g1
      obtain ⟨w2, hw2, q2⟩ := at2 i t2 g2
      refine ⟨⟨zs, zs2, w1, w2, hq, hq2, hw1, hw2⟩, fun w' H' hyl => ?_⟩
      obtain ⟨p, ob, u1, u2, rfl, hp, hd, rfl, y1, y2⟩ := hyl
      have := y1 zs hq
      rw [hw1] at this; cases this
      have := y2 zs2 hq2
      rw [hw2] at this; cases this
      exact I.pushPair ow J hp hd q1 q2
    · exact q.elim⟩
end
end Ds
namespace Ds
open PySem L2
open PyProof.Rows (envOfC)
def ExIs (K : PySem.W.Frag) (H : Hp) (ex : Exn) (cls : Value) (d : Option Addr) : Prop := PySem.W.nsIn K mainGlobals ex.cls = some (some cls) ∧ match ex.fs with
  | none => d = none
  | some fs => ∃ dx fv, d = some dx ∧ H dx = some (.xd fv) ∧ fv.map (·.1) = fs.map (·.1) ∧ DIsL K N0 H (fs.map (·.2)) (fv.map (·.2))
def relW (C : Ctx) : WX := fun cls d σ H => ∃ ex ρ, ExIs C.K H ex cls d ∧ SS C σ H ρ [] [] ∧ C.Wd ex ρ
def DTk (C : Ctx) : Prop := Takes C.X (relW C)
mutual
def clean : T → Bool
  | .bor _ => false
  | .lbo _ => false
  | .ali _ => false
  | .lst ts => cleanL ts
  | .tup ts => cleanL ts
  | .ins _ ts => cleanL ts
  | _ => true
def cleanL : List T → Bool
  | [] => true
  | t :: ts => clean t && cleanL ts
end
section
variable {K : PySem.W.Frag} {B B' Bb Bb' : Addr → Prop} {H H' : Hp} {σ σ' : St}
mutual
theorem clean_na : ∀ {t : T}, clean t = true → noAli t = true
  | .dat _, _ => rfl
  | .bor _, h => by simp [clean] at h
  | .own _, _ => rfl
  | .lbo _, h => by simp [clean] at h
  | .lst ts, h => by simp only [noAli]; exact cleanL_na (by simpa [clean] using h)
  | .tup ts, h => by simp only [noAli]; exact cleanL_na (by simpa [clean] using h)
  | .dct _, _ => rfl
  | .scr _, _ => rfl
  | .exc _, _ => rfl
  | .mem _, _ => rfl
  | .ins _ ts, h => by simp only [noAli]; exact cleanL_na (by simpa [clean] using h)
  | .ali _, h => by simp [clean] at h
  | .emp, _ => rfl
theorem cleanL_na : ∀ {ts : List T}, cleanL ts = true → noAliL ts = true
  | [], _ => rfl
  | t :: ts, h => by
    simp only [cleanL, Bool.and_eq_true] at h
    simp only [noAliL, Bool.and_eq_true]
    exact ⟨clean_na h.1, cleanL_na h.2⟩
end
mutual
theorem TIs.clean (h1 : ∀ b o, H b = some o → ¬ B b → H' b = some o ∧ ¬ B' b) : ∀ {t : T} {v : V} {os : List Addr}, (∀ b o, b ∈ os → H b = some o → H' b = some o) → Ds.clean t = true → TIs K B Bb σ H t v os → TIs K B' Bb' σ' H' t v os
  | _, _, _, _, _, .dat h => .dat (h.move h1)
  | _, _, _, _, c, .bor h => by simp [Ds.clean] at c
  | _, _, _, h3, _, .own e t => .own (h3 _ _ (by simp) e) (t.move h1)
  | _, _, _, _, c, .lbo e t => by simp [Ds.clean] at c
  | _, _, _, h3, c, .lst e t => .lst (h3 _ _ (by simp) e) (TIsL.clean h1 (fun b o hb => h3 b o (List.mem_cons_of_mem _ hb)) (by simpa [Ds.clean] using c) t)
  | _, _, _, h3, c, .tup ⟨o, e, d⟩ n t => .tup ⟨o, (h1 _ _ e n).1, d⟩ (h1 _ _ e n).2 (TIsL.clean h1 h3 (by simpa [Ds.clean] using c) t)
  | _, _, _, h3, _, .dct e t q => .dct (h3 _ _ (by simp) e) (t.move h1) q
  | _, _, _, _, _, .scr h => .scr (h.move h1)
  | _, _, _, _, _, .exc h => .exc (h.move h1)
  | _, _, _, h3, c, .ins n e k t => .ins n (h3 _ _ (by simp) e) k (TIsL.clean h1 (fun b o hb => h3 b o (List.mem_cons_of_mem _ hb)) (by simpa [Ds.clean] using c) t)
  | _, _, _, h3, _, .mem e t => .mem (h3 _ _ (by simp) e) (t.move h1)
  | _, _, _, _, c, .ali e => by simp [Ds.clean] at c
theorem TIsL.clean (h1 : ∀ b o, H b = some o → ¬ B b → H' b = some o ∧ ¬ B' b) : ∀ {ts : List T} {vs : List V} {os : List Addr}, (∀ b o, b ∈ os → H b = some o → H' b = some o) → Ds.cleanL ts = true → TIsL K B Bb σ H ts vs os → TIsL K B' Bb' σ' H' ts vs os
  | _, _, _, _, _, .nil => .nil
  | _, _, _, h3, c, .cons r t => by
    simp only [Ds.cleanL, Bool.and_eq_true] at c
    exact .cons (TIs.clean h1 (fun b o hb => h3 b o (List.mem_append_left _ hb)) c.1 r) (TIsL.clean h1 (fun b o hb => h3 b o (List.mem_append_right _ hb)) c.2 t)
end
end
abbrev DSp := List T → (T → T → Prop) → (Exn → T → Prop) → Prop
structure Pre (K : PySem.W.Frag) (B0 : Addr → Prop) (H : Hp) (ln : Option Nat) (vs : List V) (ts : List T) (o : List Addr) : Prop where
  len : ts.length = vs.length
  na : noAliL ts = true
  arg : ∀ (j : Nat) (t : T), ts[j]? = some t → ∃ v, vs[j]? = some v ∧ TIs K (fun a => a ∈ o ∨ B0 a) (fun a => a ∈ o) [] H t v (if ln = some j then o else [])
  nd : o.Nodup
  nb : ∀ a ∈ o, ¬ B0 a
  ot : ∀ a ∈ o, ∃ u, H a = some u ∧ Chg u
  b0 : ∀ a, B0 a → ∃ u, H a = some u ∧ Chg u
structure PostC (H : Hp) (o : List Addr) (H' : Hp) : Prop where
  sm : ∀ b u, H b = some u → b ∉ o → H' b = some u
  tr : ∀ b, H b ≠ none → H' b ≠ none
def LentIs (K : PySem.W.Frag) (B Bb : Addr → Prop) (ln : Option Nat) (vs : List V) (H' : Hp) (t' : T) (go : List Addr) : Prop := match ln with
  | some j => clean t' = true ∧ ((t' = .emp ∧ go = []) ∨ ∃ w, vs[j]? = some w ∧ TIs K B Bb [] H' t' w go)
  | none => go = []
structure Post (K : PySem.W.Frag) (B0 : Addr → Prop) (H : Hp) (ln : Option Nat) (vs : List V) (o : List Addr) (r : T) (t' : T) (v : V) (H' : Hp) : Prop where
  ex : ∃ go ro : List Addr, TIs K (fun a => a ∈ go ∨ a ∈ ro ∨ B0 a) (fun a => a ∈ go ∨ a ∈ ro) [] H' r v ro ∧ LentIs K (fun a => a ∈ go ∨ a ∈ ro ∨ B0 a) (fun a => a ∈ go ∨ a ∈ ro) ln vs H' t' go ∧
    go.Nodup ∧ ro.Nodup ∧ (∀ a ∈ go, a ∉ ro) ∧ (∀ a, a ∈ go ∨ a ∈ ro → a ∈ o ∨ H a = none) ∧ ∀ a, a ∈ go ∨ a ∈ ro → ∃ u, H' a = some u ∧ Chg u
  na : clean r = true
  co : PostC H o H'
structure PostX (K : PySem.W.Frag) (B0 : Addr → Prop) (H : Hp) (ln : Option Nat) (vs : List V) (o : List Addr) (ex : Exn) (t' : T) (cls : Value) (d : Option Addr) (H' : Hp) : Prop where
  is : ExIs K H' ex cls d
  ex : ∃ go : List Addr, LentIs K (fun a => a ∈ go ∨ B0 a) (fun a => a ∈ go) ln vs H' t' go ∧ go.Nodup ∧ (∀ a ∈ go, a ∈ o ∨ H a = none) ∧ ∀ a ∈ go, ∃ u, H' a = some u ∧ Chg u
  co : PostC H o H'
def toSp (K : PySem.W.Frag) (n : Nat) (ln : Option Nat) (f : DSp) : Sp := fun vs H Q E => ∃ (B0 : Addr → Prop) (ts : List T) (o : List Addr), ts.length = n ∧ Pre K B0 H ln vs ts o ∧
  f ts (fun r t' => ∀ v H', Post K B0 H ln vs o r t' v H' → Q v H') (fun ex t' => ∀ cls d H', PostX K B0 H ln vs o ex t' cls d H' → E cls d H')
def lentOf (ln : Option Nat) (ρ : List T) : T := match ln with
  | some j => (ρ[j]?).getD .emp
  | none => .emp
def lentL (ln : Option Nat) : List Nat := match ln with
  | some j => [j]
  | none => []
def slots0 (n : Nat) (ts : List T) : List T := ts ++ List.replicate (n - ts.length) .emp
section
variable {K : PySem.W.Frag} {B0 : Addr → Prop} {H : Hp} {ln : Option Nat} {vs : List V} {ts : List T} {o : List Addr}
theorem noAli_rep : ∀ n, noAliL (List.replicate n T.emp) = true
  | 0 => rfl
  | n + 1 => by simp [List.replicate_succ, noAliL, noAli, noAli_rep n]
theorem Pre.start {X : Cx} {Wd : Exn → List T → Prop} {N : List Str} {cv : List Nat} (P : Pre X.K B0 H ln vs ts o) (hn : vs.length ≤ N.length) :
    SS ⟨X, Wd, B0, H, o, lentL ln, L2.start N vs, cv⟩ (L2.start N vs) H (slots0 N.length ts) [] [] := by
  have l1 : (slots0 N.length ts).length = N.length := by simp [slots0, P.len]; omega
  have l2 : (L2.start N vs).length = N.length := by simp [L2.start]; omega
  have hv : ∀ (k : Nat) (v : V), vs[k]? = some v → (L2.start N vs ++ List.map some [])[k]? = some (some v) := fun k v e => by
    have hk := (List.getElem?_eq_some_iff.mp e).1
    simp only [L2.start, List.map_nil, List.append_nil]
    rw [List.getElem?_append_left (by simpa using hk), List.getElem?_map, e]; rfl
  have ow_ : ∀ k, ((fun k => if ln = some k ∧ k < ts.length then o else []) k).Nodup := fun k => by
    show (if ln = some k ∧ k < ts.length then o else []).Nodup
    split
    · exact P.nd
    · exact List.nodup_nil
  refine ⟨fun k => if ln = some k ∧ k < ts.length then o else [], ⟨⟨fun a h => P.b0 a h, fun a h => P.nb a h⟩, by rw [l1, l2], rfl, ?_, fun k t e => ?_, ow_, fun j k a hjk hj hk => ?_, fun k a h => ?_, fun k a h => ?_, fun b u e _ => e, fun b n => n, fun i _ => rfl⟩⟩
  · rw [slots0, noAliL_append, P.na, noAli_rep]; rfl
  · rw [List.append_nil] at e
    by_cases hk : k < ts.length
    · rw [slots0, List.getElem?_append_left hk] at e
      obtain ⟨v, h1, r⟩ := P.arg k t e
      refine .inr ⟨v, hv k v h1, ?_⟩
      have nt := noAliL_iff.mp P.na k t e
      have sub : ∀ b, (∃ j, b ∈ (fun k => if ln = some k ∧ k < ts.length then o else []) j) → b ∈ o := fun b ⟨j, h⟩ => by
        have h : b ∈ (if ln = some j ∧ j < ts.length then o else []) := h
        split at h
        · exact h
        · simp at h
      have r' := r.move (K := X.K) (σ' := wipe (L2.start N vs) cv) (B' := Bar ⟨X, Wd, B0, H, o, lentL ln, L2.start N vs, cv⟩ (fun k => if ln = some k ∧ k < ts.length then o else [])) (Bb' := BarB ⟨X, Wd, B0, H, o, lentL ln, L2.start N vs, cv⟩ (fun k => if ln = some k ∧ k < ts.length then o else []))
        (H' := H) (fun b u e n => ⟨e, fun z => n (z.imp (sub b) id)⟩) (fun b u e n => ⟨e, fun z => n (sub b z)⟩) (fun _ _ _ q => q) (.inr nt)
      have e3 : (if ln = some k ∧ k < ts.length then o else []) = (if ln = some k then o else []) := by simp [hk]
      show TIs _ _ _ _ _ t v (if ln = some k ∧ k < ts.length then o else [])
      rw [e3]; exact r'
    · rw [slots0, List.getElem?_append_right (by omega), List.getElem?_replicate] at e
      split at e
      · refine .inl ⟨(Option.some.inj e).symm, ?_⟩
        have := l1; omega
      · cases e
  · have hj : a ∈ (if ln = some j ∧ j < ts.length then o else []) := hj
    have hk : a ∈ (if ln = some k ∧ k < ts.length then o else []) := hk
    split at hj
    · rename_i c
      split at hk
      · rename_i c'
        have := c.1.symm.trans c'.1
        cases this; exact hjk rfl
      · simp at hk
    · simp at hj
  · have h : a ∈ (if ln = some k ∧ k < ts.length then o else []) := h
    split at h
    · exact P.ot a h
    · simp at h
  · have h : a ∈ (if ln = some k ∧ k < ts.length then o else []) := h
    split at h
    · exact .inl h
    · simp at h
theorem lent_end {X : Cx} {Wd : Exn → List T → Prop} {N : List Str} {cv : List Nat} {σ : St} {H' : Hp} {ρ : List T} {xs : List V} {τ : List T} {ow : Nat → List Addr} (P : Pre X.K B0 H ln vs ts o) (hn : vs.length ≤ N.length) (hj : ∀ j, ln = some j → j < vs.length)
    (I : SI ⟨X, Wd, B0, H, o, lentL ln, L2.start N vs, cv⟩ σ H' ρ xs τ ow) (ro : List Addr) (hro : ∀ a ∈ ro, ∃ k, a ∈ ow k) (hd : ∀ j, ln = some j → ∀ a ∈ ow j, a ∉ ro) (hc : clean (lentOf ln ρ) = true) :
    ∃ go, (∀ j, ln = some j → (ρ[j]? = some .emp ∨ ρ[j]? = none) ∨ go = ow j) ∧ LentIs X.K (fun a => a ∈ go ∨ a ∈ ro ∨ B0 a) (fun a => a ∈ go ∨ a ∈ ro) ln vs H' (lentOf ln ρ) go ∧ go.Nodup ∧ (∀ a ∈ go, a ∉ ro) ∧ ∀ a ∈ go, ∃ k, a ∈ ow k := by
  cases ln with
  | none => exact ⟨[], (fun j z => by cases z), rfl, List.nodup_nil, fun _ z => by simp at z, fun _ z => by simp at z⟩
  | some j =>
    have hjv := hj j rfl
    have hσ : σ[j]? = (L2.start N vs)[j]? := I.le j (by simp [lentL])
    have hs : (L2.start N vs)[j]? = some (some vs[j]) := by
      rw [L2.start, List.getElem?_append_left (by simpa using hjv), List.getElem?_map, List.getElem?_eq_getElem hjv]; rfl
    cases e : ρ[j]? with
    | none => exact ⟨[], (fun k z => by cases z; exact .inl (.inr e)), ⟨hc, .inl ⟨by simp [lentOf, e], rfl⟩⟩, List.nodup_nil, fun _ z => by simp at z, fun _ z => by simp at z⟩
    | some t =>
      have nt : noAli t = true := noAliL_iff.mp I.na j t e
      rcases I.slot e with rfl | ⟨v, hv, r⟩
      · exact ⟨[], (fun k z => by cases z; exact .inl (.inl e)), ⟨hc, .inl ⟨by simp [lentOf, e], rfl⟩⟩, List.nodup_nil, fun _ z => by simp at z, fun _ z => by simp at z⟩
      · refine ⟨ow j, (fun k z => by cases z; exact .inr rfl), ⟨hc, .inr ⟨vs[j], List.getElem?_eq_getElem hjv, ?_⟩⟩, I.nd j, hd j rfl, fun a h => ⟨j, h⟩⟩
        have ev : v = vs[j] := by
          rw [hv, hs] at hσ
          exact Option.some.inj (Option.some.inj hσ)
        subst ev
        have et : lentOf (some j) ρ = t := by simp [lentOf, e]
        rw [et]
        exact r.move (fun b u q n => ⟨q, fun z => n (by
          rcases z with z | z | z
          · exact .inl ⟨j, z⟩
          · exact .inl (hro b z)
          · exact .inr z)⟩) (fun b u q n => ⟨q, fun z => n (by
          rcases z with z | z
          · exact ⟨j, z⟩
          · exact hro b z)⟩) (fun _ _ _ q => q) (.inr nt)
end
def cl (t : T) (p : Prop) : Prop := match clean t with
  | true => p
  | false => False
theorem cl_is {t : T} {p : Prop} (h : cl t p) : clean t = true ∧ p := by
  unfold cl at h
  split at h
  · rename_i e; exact ⟨e, h⟩
  · exact h.elim
abbrev ctxOf (P : Program) (w : World) (K : PySem.W.Frag) (mg : Str → Option Value) (base : Heap) (N : List Str) (qual : Str) (sc : Scope) (f : Addr) (cdv : Value) (A : Around) (outer : List Env) (s : Shared) (H : Hp) (E : XK) (Wd : Exn → List T → Prop)
    (B0 : Addr → Prop) (o : List Addr) (ln : Option Nat) (vs : List V) (cv : List Nat) : Ctx := ⟨cxOf (L2.CX P w) P w K mg base N qual sc f cdv A outer s H E, Wd, B0, H, o, lentL ln, L2.start N vs, cv⟩
section
variable {P : Program} {w : World} {K : PySem.W.Frag} {mg : Str → Option Value} {base : Heap}
def OkBy (P : Program) (w : World) (K : PySem.W.Frag) (mg : Str → Option Value) (base : Heap) (N : List Str) (qual : Str) (st : Stmt) (f : Addr) (fd : FuncData) (ps : List Str) : Prop :=
  ∀ (k : Nat) (sp : Sp), (∀ vs H Q E, sp vs H Q E → vs.length = ps.length) →
    (∀ (cdv : Value) (A : Around) (outer : List Env) (s : Shared) (H : Hp) (vs : List V) (Q : VK) (E : XK), RoomG k (A.deeper (envOfC qual (defScope st) s.heap.objs.size f cdv)) → sp vs H Q E →
      ∃ t, PSs (cxOf (L2.CX P w) P w K mg base N qual (defScope st) f cdv A outer s H E) (defBody st) t ∧ t { nx := fun _ H' => Q .non H', rt := Q } (start N vs) H) → FnG P w K mg base (k + 1) f fd ps sp
theorem fn_dataG {qual : Str} {st : Stmt} {f : Addr} {fd : FuncData} {N ps : List Str} {k : Nat} (ok : OkBy P w K mg base N qual st f fd ps) (S : FnScope N ps (defScope st)) (cv : List Nat) (ln : Option Nat) (hln : ∀ j, ln = some j → j < ps.length) {spd : DSp} (body : (Exn → List T → Prop) → DS)
    (hbody : ∀ (cdv : Value) (A : Around) (outer : List Env) (s : Shared) (H : Hp) (E : XK) (Wd : Exn → List T → Prop) (B0 : Addr → Prop) (o : List Addr) (vs : List V), RoomG k (A.deeper (envOfC qual (defScope st) s.heap.objs.size f cdv)) →
      DTk (ctxOf P w K mg base N qual (defScope st) f cdv A outer s H E Wd B0 o ln vs cv) → DPSs0 (ctxOf P w K mg base N qual (defScope st) f cdv A outer s H E Wd B0 o ln vs cv) (defBody st) (body Wd))
    (hsp : ∀ ts Q W, ts.length = ps.length → spd ts Q W → body (fun ex ρ => cl (lentOf ln ρ) (W ex (lentOf ln ρ))) { nx := fun ρ => cl (lentOf ln ρ) (Q (.dat .none) (lentOf ln ρ)), rt := fun r ρ => cl r (cl (lentOf ln ρ) (Q r (lentOf ln ρ))) } (slots0 N.length ts)) :
    FnG P w K mg base (k + 1) f fd ps (toSp K ps.length ln spd) := by
  have hpl : ps.length ≤ N.length := by have := congrArg List.length S.pre; rw [List.length_take] at this; omega
  refine ok k _ (fun vs H Q E h => ?_) (fun cdv A outer s H vs Q E hr h => ?_)
  · obtain ⟨B0, ts, o, hl, P, _⟩ := h
    rw [← P.len, hl]
  · obtain ⟨B0, ts, o, hl, Pr, hq⟩ := h
    have hvs : vs.length = ps.length := by rw [← Pr.len, hl]
    have hn : vs.length ≤ N.length := by omega
    have hj : ∀ j, ln = some j → j < vs.length := fun j e => by rw [hvs]; exact hln j e
    have q := hsp ts _ _ hl hq
    let Wd : Exn → List T → Prop := fun ex ρ => cl (lentOf ln ρ) (∀ cls d H', PostX K B0 H ln vs o ex (lentOf ln ρ) cls d H' → E cls d H')
    let C : Ctx := ctxOf P w K mg base N qual (defScope st) f cdv A outer s H E Wd B0 o ln vs cv
    have I0 : SS C (L2.start N vs) H (slots0 N.length ts) [] [] := Pr.start (X := C.X) (Wd := Wd) hn
    have co : ∀ {σ : St} {H' : Hp} {ρ : List T} {xs : List V} {τ : List T} {ow : Nat → List Addr}, SI C σ H' ρ xs τ ow → PostC H o H' := fun I => ⟨fun b u e n => I.kp b u e n, fun b n => I.tr b n⟩
    have tk : DTk C := by
      have t0 : Takes C.X (fun cls d _ H => E cls d H) := takes_of rfl rfl rfl rfl
      refine t0.imp fun cls d σ H' h => ?_
      obtain ⟨ex, ρ, hx, ⟨ow, I⟩, hw⟩ := h
      obtain ⟨hc, hw⟩ := cl_is hw
      obtain ⟨go, _, h1, h2, _, h4⟩ := lent_end (X := C.X) (ln := ln) (ts := ts) Pr hn hj I [] (fun _ z => by simp at z) (fun _ _ _ _ z => by simp at z) hc
      refine hw cls d H' ⟨hx, ⟨go, ?_, h2, fun a h => ?_, fun a h => ?_⟩, co I⟩
      · have e1 : (fun a => a ∈ go ∨ a ∈ ([] : List Addr) ∨ B0 a) = fun a => a ∈ go ∨ B0 a := by funext a; simp
        have e2 : (fun a => a ∈ go ∨ a ∈ ([] : List Addr)) = fun a => a ∈ go := by funext a; simp
        rw [e1, e2] at h1; exact h1
      · obtain ⟨k, hk⟩ := h4 a h; exact I.fr k a hk
      · obtain ⟨k, hk⟩ := h4 a h; exact I.ot k a hk
    obtain ⟨t, pt, sim⟩ := (hbody cdv A outer s H E Wd B0 o vs hr tk).ex
    have fin : ∀ {σ : St} {H' : Hp} {ρ : List T} {v : V} {r : T}, SS C σ H' ρ ([] ++ [v]) ([] ++ [r]) → clean r = true → clean (lentOf ln ρ) = true → Post K B0 H ln vs o r (lentOf ln ρ) v H' := fun {σ H' ρ v r} I na hc => by
      obtain ⟨ow, I⟩ := I
      have top := I.top
      have hρ : ρ.length + ([] : List T).length = ρ.length := by simp
      rw [hρ] at top
      have hjρ : ∀ j, ln = some j → j ≠ ρ.length := fun j e => by
        have hσ : σ[j]? = (L2.start N vs)[j]? := I.le j (by simp [C, ctxOf, lentL, e])
        have hs : (L2.start N vs)[j]? = some (some (vs[j]'(hj j e))) := by
          rw [L2.start, List.getElem?_append_left (by simpa using hj j e), List.getElem?_map, List.getElem?_eq_getElem (hj j e)]; rfl
        rw [hs] at hσ
        have := (List.getElem?_eq_some_iff.mp hσ).1
        rw [I.ln]; omega
      obtain ⟨go, g1, h1, h2, h3, h4⟩ := lent_end (X := C.X) (ln := ln) (ts := ts) Pr hn hj I (ow ρ.length) (fun a h => ⟨_, h⟩) (fun j e a ha => I.dj _ _ a (hjρ j e) ha) hc
      refine ⟨⟨go, ow ρ.length, ?_, h1, h2, I.nd _, h3, fun a h => ?_, fun a h => ?_⟩, na, co I⟩
      · exact top.move (fun b u q n => ⟨q, fun z => n (by
          rcases z with z | z | z
          · exact .inl (h4 b z)
          · exact .inl ⟨_, z⟩
          · exact .inr z)⟩) (fun b u q n => ⟨q, fun z => n (by
          rcases z with z | z
          · exact h4 b z
          · exact ⟨_, z⟩)⟩) (fun _ _ _ q => q) (.inr (clean_na na))
      · rcases h with h | h
        · obtain ⟨k, hk⟩ := h4 a h; exact I.fr k a hk
        · exact I.fr _ a h
      · rcases h with h | h
        · obtain ⟨k, hk⟩ := h4 a h; exact I.ot k a hk
        · exact I.ot _ a h
    refine ⟨t, pt, sim _ _ _ _ _ I0 q ⟨fun σ H' ρ I hq => ?_, fun σ H' ρ v x I hq => ?_, fun _ _ _ _ z => z.elim, fun _ _ _ _ z => z.elim⟩⟩
    · obtain ⟨hc, hq⟩ := cl_is hq
      exact hq _ _ (fin (r := .dat .none) (SS.non I) rfl hc)
    · obtain ⟨hr, hq⟩ := cl_is hq
      obtain ⟨hc, hq⟩ := cl_is hq
      exact hq _ _ (fin I hr hc)
theorem fn_data {x qual : Str} {st : Stmt} {f : Addr} {fd : FuncData} {N ps : List Str} {k : Nat} (F : Fun K x qual st f fd) (S : FnScope N ps (defScope st)) (cv : List Nat) (ln : Option Nat) (hln : ∀ j, ln = some j → j < ps.length) {spd : DSp} (body : (Exn → List T → Prop) → DS)
    (hbody : ∀ (cdv : Value) (A : Around) (outer : List Env) (s : Shared) (H : Hp) (E : XK) (Wd : Exn → List T → Prop) (B0 : Addr → Prop) (o : List Addr) (vs : List V), RoomG k (A.deeper (envOfC qual (defScope st) s.heap.objs.size f cdv)) →
      DTk (ctxOf P w K mg base N qual (defScope st) f cdv A outer s H E Wd B0 o ln vs cv) → DPSs (ctxOf P w K mg base N qual (defScope st) f cdv A outer s H E Wd B0 o ln vs cv) (defBody st) (body Wd))
    (hsp : ∀ ts Q W, ts.length = ps.length → spd ts Q W → body (fun ex ρ => cl (lentOf ln ρ) (W ex (lentOf ln ρ))) { nx := fun ρ => cl (lentOf ln ρ) (Q (.dat .none) (lentOf ln ρ)), rt := fun r ρ => cl r (cl (lentOf ln ρ) (Q r (lentOf ln ρ))) } (slots0 N.length ts)) :
    FnG P w K mg base (k + 1) f fd ps (toSp K ps.length ln spd) :=
  fn_dataG (fun _ _ len hb => FunG F S len hb) S cv ln hln body (fun cdv A outer s H E Wd B0 o vs hr tk => (hbody cdv A outer s H E Wd B0 o vs hr tk).z) hsp
theorem fn_dataD {x qual : Str} {st : Stmt} {f : Addr} {fd : FuncData} {N ps : List Str} {k : Nat} {dvs : List V} {kws : List (Str × V)} (F : FunD K x qual (defArgs st) (defBody st) (defScope st) dvs kws f fd) (S : FnScope N ps (defScope st)) (cv : List Nat) (ln : Option Nat) (hln : ∀ j, ln = some j → j < ps.length) {spd : DSp} (body : (Exn → List T → Prop) → DS)
    (hbody : ∀ (cdv : Value) (A : Around) (outer : List Env) (s : Shared) (H : Hp) (E : XK) (Wd : Exn → List T → Prop) (B0 : Addr → Prop) (o : List Addr) (vs : List V), RoomG k (A.deeper (envOfC qual (defScope st) s.heap.objs.size f cdv)) →
      DTk (ctxOf P w K mg base N qual (defScope st) f cdv A outer s H E Wd B0 o ln vs cv) → DPSs (ctxOf P w K mg base N qual (defScope st) f cdv A outer s H E Wd B0 o ln vs cv) (defBody st) (body Wd))
    (hsp : ∀ ts Q W, ts.length = ps.length → spd ts Q W → body (fun ex ρ => cl (lentOf ln ρ) (W ex (lentOf ln ρ))) { nx := fun ρ => cl (lentOf ln ρ) (Q (.dat .none) (lentOf ln ρ)), rt := fun r ρ => cl r (cl (lentOf ln ρ) (Q r (lentOf ln ρ))) } (slots0 N.length ts)) :
    FnG P w K mg base (k + 1) f fd ps (toSp K ps.length ln spd) :=
  fn_dataG (fun _ _ len hb => FunDG F S len hb) S cv ln hln body (fun cdv A outer s H E Wd B0 o vs hr tk => (hbody cdv A outer s H E Wd B0 o vs hr tk).z) hsp
end
inductive Md where
  | dat | bor | lend
def argT (ρ : List T) : Md → T → Option T
  | .dat, a => (frz a).map .dat
  | .bor, a => (lk ρ a).map .bor
  | .lend, .ali i => match ρ[i]? with
    | some .emp => none
    | o => o
  | .lend, t => match noAli t with
    | true => some t
    | false => none
def argsT (ρ : List T) : List Md → List T → Option (List T)
  | [], [] => some []
  | m :: ms, a :: as => match argT ρ m a with
    | some t => (argsT ρ ms as).map fun ts => t :: ts
    | none => none
  | _, _ => none
def lnOf : List Md → Option Nat
  | [] => none
  | .lend :: _ => some 0
  | _ :: ms => (lnOf ms).map (· + 1)
def slotOf (ms : List Md) (as : List T) : Option Nat := (lnOf ms).bind fun j => (as[j]?).bind fun a => match a with
  | .ali i => some i
  | _ => none
def putT (s : Option Nat) (t : T) (ρ : List T) : List T := match s with
  | some i => ρ.set i t
  | none => ρ
mutual
def alis : T → List Nat
  | .ali i => [i]
  | .lst ts => alisL ts
  | .tup ts => alisL ts
  | .ins _ ts => alisL ts
  | _ => []
def alisL : List T → List Nat
  | [] => []
  | t :: ts => alis t ++ alisL ts
end
def freeOf (s : Option Nat) : List Md → List T → Bool
  | .lend :: ms, _ :: as => freeOf s ms as && !(ms.any fun m => match m with | .lend => true | _ => false)
  | _ :: ms, a :: as => (match s with | some i => !(alis a).contains i | none => true) && freeOf s ms as
  | _, _ => true
end Ds
namespace Ds
open PySem L2
section
variable {K : PySem.W.Frag} {B B' Bb : Addr → Prop} {H : Hp} {σ : St} {ρ : List T}
mutual
theorem TIs.toDB (h1 : ∀ b o, H b = some o → ¬ B b → ¬ B' b) (h2 : ∀ b o, H b = some o → ¬ Bb b → ¬ B' b) : ∀ {t : T} {v : V} {os : List Addr} {d : D}, (∀ a ∈ os, ¬ B' a) → TIs K B Bb σ H t v os → Ds.toD t = some d → DIs K B' H d v
  | _, _, _, _, _, .dat h, e => by simp only [Ds.toD, Option.some.injEq] at e; subst e; exact h.move fun b o q n => ⟨q, h1 b o q n⟩
  | _, _, _, _, _, .bor h, e => by simp only [Ds.toD, Option.some.injEq] at e; subst e; exact h.move fun b o q n => ⟨q, h2 b o q n⟩
  | _, _, _, _, no, .own h t, e => by simp only [Ds.toD, Option.some.injEq] at e; subst e; exact .list h (no _ (by simp)) (t.move fun b o q n => ⟨q, h1 b o q n⟩)
  | _, _, _, _, no, .lbo h t, e => by simp only [Ds.toD, Option.some.injEq] at e; subst e; exact .list h (no _ (by simp)) (t.move fun b o q n => ⟨q, h2 b o q n⟩)
  | _, _, _, _, no, .lst h t, e => by
    simp only [Ds.toD, Option.map_eq_some_iff] at e
    obtain ⟨ds, e1, rfl⟩ := e
    exact .list h (no _ (by simp)) (TIsL.toDB h1 h2 (fun a ha => no a (by simp [ha])) t e1)
  | _, _, _, _, no, .tup h n t, e => by
    simp only [Ds.toD, Option.map_eq_some_iff] at e
    obtain ⟨ds, e1, rfl⟩ := e
    exact .tuple (.inl ⟨h, let ⟨_, e, _⟩ := h; h1 _ _ e n⟩) (TIsL.toDB h1 h2 no t e1)
  | _, _, _, _, no, .dct h t q, e => by
    simp only [Ds.toD, Option.some.injEq] at e
    subst e; subst q
    exact .dict h (no _ (by simp)) (t.move fun b o q n => ⟨q, h1 b o q n⟩) (zip_kvs (by have := t.length; simpa using this))
  | _, _, _, _, _, .scr h, e => by simp [Ds.toD] at e
  | _, _, _, _, _, .exc h, e => by simp [Ds.toD] at e
  | _, _, _, _, _, .ins _ _ _ _, e => by simp [Ds.toD] at e
  | _, _, _, _, _, .mem _ _, e => by simp [Ds.toD] at e
  | _, _, _, _, _, .ali h, e => by simp [Ds.toD] at e
theorem TIsL.toDB (h1 : ∀ b o, H b = some o → ¬ B b → ¬ B' b) (h2 : ∀ b o, H b = some o → ¬ Bb b → ¬ B' b) : ∀ {ts : List T} {vs : List V} {os : List Addr} {ds : List D}, (∀ a ∈ os, ¬ B' a) → TIsL K B Bb σ H ts vs os → Ds.toDL ts = some ds → DIsL K B' H ds vs
  | _, _, _, _, _, .nil, e => by simp only [Ds.toDL, Option.some.injEq] at e; subst e; exact .nil
  | _, _, _, _, no, .cons r t, e => by
    simp only [Ds.toDL, Option.bind_eq_some_iff, Option.map_eq_some_iff] at e
    obtain ⟨d, e1, ds, e2, rfl⟩ := e
    exact .cons (TIs.toDB h1 h2 (fun a ha => no a (by simp [ha])) r e1) (TIsL.toDB h1 h2 (fun a ha => no a (by simp [ha])) t e2)
end
mutual
theorem TIs.lkB (h1 : ∀ b o, H b = some o → ¬ B b → ¬ B' b) (h2 : ∀ b o, H b = some o → ¬ Bb b → ¬ B' b) : ∀ {t : T} {v : V} {os : List Addr} {d : D}, (∀ a ∈ os, ¬ B' a) → (∀ (i : Nat) (t' : T) (v : V) (d : D), i ∈ alis t → ρ[i]? = some t' → σ[i]? = some (some v) → Ds.toD t' = some d → DIs K B' H d v) →
    TIs K B Bb σ H t v os → Ds.lk ρ t = some d → DIs K B' H d v
  | _, _, _, _, _, _, .dat h, e => by simp only [Ds.lk, Option.some.injEq] at e; subst e; exact h.move fun b o q n => ⟨q, h1 b o q n⟩
  | _, _, _, _, _, _, .bor h, e => by simp only [Ds.lk, Option.some.injEq] at e; subst e; exact h.move fun b o q n => ⟨q, h2 b o q n⟩
  | _, _, _, _, no, _, .own h t, e => by simp only [Ds.lk, Option.some.injEq] at e; subst e; exact .list h (no _ (by simp)) (t.move fun b o q n => ⟨q, h1 b o q n⟩)
  | _, _, _, _, no, _, .lbo h t, e => by simp only [Ds.lk, Option.some.injEq] at e; subst e; exact .list h (no _ (by simp)) (t.move fun b o q n => ⟨q, h2 b o q n⟩)
  | _, _, _, _, no, hs, .lst h t, e => by
    simp only [Ds.lk, Option.map_eq_some_iff] at e
    obtain ⟨ds, e1, rfl⟩ := e
    exact .list h (no _ (by simp)) (TIsL.lkB h1 h2 (fun a ha => no a (by simp [ha])) (fun i t' v d hi => hs i t' v d (by simpa [alis] using hi)) t e1)
  | _, _, _, _, no, hs, .tup h n t, e => by
    simp only [Ds.lk, Option.map_eq_some_iff] at e
    obtain ⟨ds, e1, rfl⟩ := e
    exact .tuple (.inl ⟨h, let ⟨_, e, _⟩ := h; h1 _ _ e n⟩) (TIsL.lkB h1 h2 no (fun i t' v d hi => hs i t' v d (by simpa [alis] using hi)) t e1)
  | _, _, _, _, no, _, .dct h t q, e => by
    simp only [Ds.lk, Option.some.injEq] at e
    subst e; subst q
    exact .dict h (no _ (by simp)) (t.move fun b o q n => ⟨q, h1 b o q n⟩) (zip_kvs (by have := t.length; simpa using this))
  | _, _, _, _, _, _, .scr h, e => by simp [Ds.lk] at e
  | _, _, _, _, _, _, .exc h, e => by simp [Ds.lk] at e
  | _, _, _, _, _, _, .ins _ _ _ _, e => by simp [Ds.lk] at e
  | _, _, _, _, _, _, .mem _ _, e => by simp [Ds.lk] at e
  | _, _, _, _, _, hs, .ali h, e => by
    simp only [Ds.lk, Option.bind_eq_some_iff] at e
    obtain ⟨t, e1, e2⟩ := e
    exact hs _ _ _ _ (by simp [alis]) e1 h e2
theorem TIsL.lkB (h1 : ∀ b o, H b = some o → ¬ B b → ¬ B' b) (h2 : ∀ b o, H b = some o → ¬ Bb b → ¬ B' b) : ∀ {ts : List T} {vs : List V} {os : List Addr} {ds : List D}, (∀ a ∈ os, ¬ B' a) → (∀ (i : Nat) (t' : T) (v : V) (d : D), i ∈ alisL ts → ρ[i]? = some t' → σ[i]? = some (some v) → Ds.toD t' = some d → DIs K B' H d v) →
    TIsL K B Bb σ H ts vs os → Ds.lkL ρ ts = some ds → DIsL K B' H ds vs
  | _, _, _, _, _, _, .nil, e => by simp only [Ds.lkL, Option.some.injEq] at e; subst e; exact .nil
  | _, _, _, _, no, hs, .cons r t, e => by
    simp only [Ds.lkL, Option.bind_eq_some_iff, Option.map_eq_some_iff] at e
    obtain ⟨d, e1, ds, e2, rfl⟩ := e
    exact .cons (TIs.lkB h1 h2 (fun a ha => no a (by simp [ha])) (fun i t' v d hi => hs i t' v d (by simp [alisL, hi])) r e1) (TIsL.lkB h1 h2 (fun a ha => no a (by simp [ha])) (fun i t' v d hi => hs i t' v d (by simp [alisL, hi])) t e2)
end
end
theorem argsT_len {ρ : List T} : ∀ {ms : List Md} {as ts : List T}, argsT ρ ms as = some ts → ts.length = as.length ∧ ms.length = as.length
  | [], [], ts, e => by simp [argsT] at e; subst e; exact ⟨rfl, rfl⟩
  | [], _ :: _, ts, e => by simp [argsT] at e
  | _ :: _, [], ts, e => by simp [argsT] at e
  | m :: ms, a :: as, ts, e => by
    unfold argsT at e
    split at e
    · simp only [Option.map_eq_some_iff] at e
      obtain ⟨ts', e1, rfl⟩ := e
      have := argsT_len e1
      simp; omega
    · simp at e
theorem argsT_get {ρ : List T} : ∀ {ms : List Md} {as ts : List T} {j : Nat} {t : T}, argsT ρ ms as = some ts → ts[j]? = some t → ∃ m a, ms[j]? = some m ∧ as[j]? = some a ∧ argT ρ m a = some t
  | [], [], ts, j, t, e, h => by simp [argsT] at e; subst e; simp at h
  | [], _ :: _, ts, _, _, e, _ => by simp [argsT] at e
  | _ :: _, [], ts, _, _, e, _ => by simp [argsT] at e
  | m :: ms, a :: as, ts, j, t, e, h => by
    unfold argsT at e
    split at e
    · rename_i t0 e0
      simp only [Option.map_eq_some_iff] at e
      obtain ⟨ts', e1, rfl⟩ := e
      cases j with
      | zero => simp at h; subst h; exact ⟨m, a, rfl, rfl, e0⟩
      | succ j => exact argsT_get (j := j) e1 (by simpa using h)
    · simp at e
theorem lnOf_mode : ∀ {ms : List Md} {j : Nat}, lnOf ms = some j → ms[j]? = some .lend
  | [], _, e => by simp [lnOf] at e
  | .lend :: _, _, e => by simp [lnOf] at e; subst e; rfl
  | .dat :: ms, j, e => by
    simp only [lnOf, Option.map_eq_some_iff] at e
    obtain ⟨k, e1, rfl⟩ := e
    simpa using lnOf_mode e1
  | .bor :: ms, j, e => by
    simp only [lnOf, Option.map_eq_some_iff] at e
    obtain ⟨k, e1, rfl⟩ := e
    simpa using lnOf_mode e1
theorem noLend_any : ∀ {ms : List Md} {j : Nat} {m : Md}, (ms.any fun m => match m with | .lend => true | _ => false) = false → ms[j]? = some m → m ≠ .lend
  | [], _, _, _, e => by simp at e
  | m :: ms, 0, _, h, e => by
    simp at e; subst e
    rintro rfl
    simp at h
  | m :: ms, j + 1, _, h, e => by
    rw [List.any_cons, Bool.or_eq_false_iff] at h
    exact noLend_any h.2 (by simpa using e)
theorem freeOf_ok : ∀ {s : Option Nat} {ms : List Md} {as : List T}, freeOf s ms as = true → (∀ (j : Nat) (a : T) (m : Md), ms[j]? = some m → m ≠ Md.lend → as[j]? = some a → ∀ i, s = some i → i ∉ alis a) ∧ ∀ (j : Nat), ms[j]? = some Md.lend → j < as.length → lnOf ms = some j
  | _, [], _, _ => ⟨fun j a m e => by simp at e, fun j e => by simp at e⟩
  | _, _ :: _, [], _ => ⟨fun j a m _ _ e => by simp at e, fun j _ h => by simp at h⟩
  | s, .lend :: ms, a :: as, h => by
    simp only [freeOf, Bool.and_eq_true, Bool.not_eq_true'] at h
    obtain ⟨h1, h2⟩ := freeOf_ok h.1
    refine ⟨fun j b m e n eb => ?_, fun j e hj => ?_⟩
    · cases j with
      | zero => simp at e; exact absurd e.symm n
      | succ j => exact h1 j b m (by simpa using e) n (by simpa using eb)
    · cases j with
      | zero => rfl
      | succ j => exact absurd rfl (noLend_any h.2 (show ms[j]? = some .lend by simpa using e))
  | s, .dat :: ms, a :: as, h => by
    simp only [freeOf, Bool.and_eq_true] at h
    obtain ⟨h1, h2⟩ := freeOf_ok h.2
    refine ⟨fun j b m e n eb => ?_, fun j e hj => ?_⟩
    · cases j with
      | zero =>
        simp at eb; subst eb
        intro i es
        have := h.1
        rw [es] at this
        simpa using this
      | succ j => exact h1 j b m (by simpa using e) n (by simpa using eb)
    · cases j with
      | zero => simp at e
      | succ j => simp [lnOf, h2 j (by simpa using e) (by simpa using hj)]
  | s, .bor :: ms, a :: as, h => by
    simp only [freeOf, Bool.and_eq_true] at h
    obtain ⟨h1, h2⟩ := freeOf_ok h.2
    refine ⟨fun j b m e n eb => ?_, fun j e hj => ?_⟩
    · cases j with
      | zero =>
        simp at eb; subst eb
        intro i es
        have := h.1
        rw [es] at this
        simpa using this
      | succ j => exact h1 j b m (by simpa using e) n (by simpa using eb)
    · cases j with
      | zero => simp at e
      | succ j => simp [lnOf, h2 j (by simpa using e) (by simpa using hj)]
section
variable {C : Ctx} {σ : St} {H H' : Hp} {ρ : List T} {vs xs : List V} {τ as ts : List T} {ow : Nat → List Addr} {ms : List Md}
def kOf (n j : Nat) (a : T) : Nat := match a with
  | .ali i => i
  | _ => n + j
def lkey (n : Nat) (ms : List Md) (as : List T) : Option Nat := (lnOf ms).bind fun j => (as[j]?).map fun a => kOf n j a
theorem SI.atA (I : SI C σ H ρ (vs ++ xs) (τ ++ as) ow) (hτ : τ.length = vs.length) {j : Nat} {a : T} (e : as[j]? = some a) : ∃ v, xs[j]? = some v ∧ TIs C.K (Bar C ow) (BarB C ow) (wipe σ C.cv) H a v (ow (ρ.length + τ.length + j)) := by
  obtain ⟨v, hv, r⟩ := I.temp (j := τ.length + j) (t := a) (by rw [List.getElem?_append_right (by omega)]; simpa using e)
  rw [hτ, List.getElem?_append_right (by omega)] at hv
  simp at hv
  exact ⟨v, hv, by rw [Nat.add_assoc]; exact r⟩
def B0c (C : Ctx) (ow : Nat → List Addr) (n : Nat) (o : List Addr) (a : Addr) : Prop := Bar C ow a ∧ a ∉ o ∧ ∀ k, n ≤ k → a ∉ ow k
theorem argT_na {ρ : List T} {m : Md} {a t : T} (e : argT ρ m a = some t) (hρ : noAliL ρ = true) : noAli t = true := by
  cases m with
  | dat => simp only [argT, Option.map_eq_some_iff] at e; obtain ⟨d, _, rfl⟩ := e; rfl
  | bor => simp only [argT, Option.map_eq_some_iff] at e; obtain ⟨d, _, rfl⟩ := e; rfl
  | lend =>
    cases a with
    | ali i =>
      simp only [argT] at e
      split at e
      · simp at e
      · exact noAliL_iff.mp hρ i t e
    | _ =>
      simp only [argT] at e
      split at e
      · rename_i h
        simp at e; subst e; exact h
      · simp at e
theorem SI.pre (I : SI C σ H ρ (vs ++ xs) (τ ++ as) ow) (hτ : τ.length = vs.length) (hl : as.length = xs.length) (ea : argsT ρ ms as = some ts) (hf : freeOf (slotOf ms as) ms as = true) :
    ∃ o : List Addr, (match lkey (ρ.length + τ.length) ms as with | some k => o = ow k | none => o = []) ∧ Pre C.K (B0c C ow (ρ.length + τ.length) o) H (lnOf ms) xs ts o := by
  obtain ⟨f1, f2⟩ := freeOf_ok hf
  obtain ⟨l1, l2⟩ := argsT_len ea
  let n := ρ.length + τ.length
  have hk : ∃ o : List Addr, (match lkey n ms as with | some k => o = ow k | none => o = []) := by
    cases lkey n ms as with
    | none => exact ⟨[], rfl⟩
    | some k => exact ⟨ow k, rfl⟩
  obtain ⟨o, ho⟩ := hk
  have hok : ∀ a ∈ o, ∃ k, lkey n ms as = some k ∧ a ∈ ow k ∧ o = ow k := fun a ha => by
    cases e : lkey n ms as with
    | none => rw [e] at ho; rw [ho] at ha; simp at ha
    | some k => rw [e] at ho; exact ⟨k, rfl, by rw [← ho]; exact ha, ho⟩
  have keyj : ∀ {j k : Nat} {a : T}, lkey n ms as = some k → as[j]? = some a → ms[j]? ≠ some .lend → k ≠ n + j := fun {j k a} e eja hm z => by
    unfold lkey at e
    simp only [Option.bind_eq_some_iff, Option.map_eq_some_iff] at e
    obtain ⟨j', e1, a', e2, e3⟩ := e
    have hm' := lnOf_mode e1
    unfold kOf at e3
    split at e3
    · rename_i i
      obtain ⟨v, hv, r⟩ := I.atA hτ e2
      generalize ow (ρ.length + τ.length + j') = oo at r
      cases r with
      | ali h =>
        have := (List.getElem?_eq_some_iff.mp (wipe_some h).1).1
        have := I.ln
        omega
    · have : j' = j := by omega
      subst this
      exact hm hm'
  refine ⟨o, ho, ⟨by omega, ?_, fun j t et => ?_, ?_, fun a ha z => z.2.1 ha, fun a ha => ?_, fun a ha => ?_⟩⟩
  · refine noAliL_iff.mpr fun j t et => ?_
    obtain ⟨m, a, _, _, e3⟩ := argsT_get ea et
    exact argT_na e3 I.na
  · obtain ⟨m, a, em, eA, e3⟩ := argsT_get ea et
    obtain ⟨v, hv, r⟩ := I.atA hτ eA
    refine ⟨v, hv, ?_⟩
    have bar1 : ∀ b u, H b = some u → ¬ Bar C ow b → ¬ (b ∈ o ∨ B0c C ow n o b) := fun b u q nb z => by
      rcases z with z | z
      · obtain ⟨k, _, h, _⟩ := hok b z; exact nb (.inl ⟨k, h⟩)
      · exact nb z.1
    have bar2 : ∀ b u, H b = some u → ¬ Bar C ow b → ¬ b ∈ o := fun b u q nb z => bar1 b u q nb (.inl z)
    have bar3 : ∀ b u, H b = some u → ¬ BarB C ow b → ¬ b ∈ o := fun b u q nb z => by
      obtain ⟨k, _, h, _⟩ := hok b z; exact nb ⟨k, h⟩
    by_cases hm : m = .lend
    · subst hm
      have hj : j < as.length := (List.getElem?_eq_some_iff.mp eA).1
      have hln := f2 j em hj
      rw [if_pos hln]
      have nt := argT_na e3 I.na
      have key : lkey n ms as = some (kOf n j a) := by
        unfold lkey
        rw [hln]
        show (as[j]?).map _ = _
        rw [eA]; rfl
      have go : ∀ {k : Nat} {s : St}, lkey n ms as = some k → TIs C.K (Bar C ow) (BarB C ow) s H t v (ow k) → TIs C.K (fun a => a ∈ o ∨ B0c C ow n o a) (fun a => a ∈ o) [] H t v o := fun {k s} ek r => by
        rw [ek] at ho
        have ho : o = ow k := ho
        rw [← ho] at r
        exact r.move (fun b u q nb => ⟨q, bar1 b u q nb⟩) (fun b u q nb => ⟨q, bar3 b u q nb⟩) (fun _ _ _ q => q) (.inr nt)
      cases a with
      | ali i =>
        have hvi : σ[i]? = some (some v) := by
          generalize ow (ρ.length + τ.length + j) = oo at r
          cases r with | ali h => exact (wipe_some h).1
        simp only [argT] at e3
        split at e3
        · simp at e3
        · rcases I.slot e3 with rfl | ⟨w, hw, r2⟩
          · rename_i z; exact absurd e3 z
          · rw [hvi] at hw; cases hw
            exact go key r2
      | dat d => exact go key (by cases e3; exact r)
      | bor d => exact go key (by cases e3; exact r)
      | own d => exact go key (by cases e3; exact r)
      | lbo d => exact go key (by cases e3; exact r)
      | dct d => exact go key (by cases e3; exact r)
      | scr d => exact go key (by cases e3; exact r)
      | exc d => exact go key (by cases e3; exact r)
      | mem d => exact go key (by cases e3; exact r)
      | emp => exact go key (by cases e3; exact r)
      | lst d =>
        simp only [argT] at e3
        split at e3
        · cases e3; exact go key r
        · cases e3
      | tup d =>
        simp only [argT] at e3
        split at e3
        · cases e3; exact go key r
        · cases e3
      | ins c d =>
        simp only [argT] at e3
        split at e3
        · cases e3; exact go key r
        · cases e3
    · have hln : lnOf ms ≠ some j := fun z => hm (by
        have := lnOf_mode z
        rw [em] at this; exact Option.some.inj this)
      rw [if_neg hln]
      have noTemp : ∀ b ∈ ow (n + j), ¬ b ∈ o := fun b hb z => by
        obtain ⟨k, ek, h, _⟩ := hok b z
        exact I.dj k (n + j) b (keyj ek eA (by rw [em]; simpa using hm)) h hb
      cases m with
      | dat =>
        simp only [argT, Option.map_eq_some_iff] at e3
        obtain ⟨d, e4, rfl⟩ := e3
        refine .dat (r.frz I.tupOk bar1 (fun b hb z => ?_) e4)
        rcases z with z | z
        · exact noTemp b hb z
        · exact z.2.2 (n + j) (by omega) hb
      | bor =>
        simp only [argT, Option.map_eq_some_iff] at e3
        obtain ⟨d, e4, rfl⟩ := e3
        refine .bor (r.lkB bar2 bar3 (fun b hb => noTemp b hb) (fun i t' w d' hi et' ew ed => ?_) e4)
        rcases I.slot et' with rfl | ⟨w', hw', r2⟩
        · simp [toD] at ed
        · rw [(wipe_some ew).1] at hw'; cases hw'
          refine r2.toDB bar2 bar3 (fun b hb z => ?_) ed
          obtain ⟨k, ek, h, _⟩ := hok b z
          refine I.dj k i b (fun z => ?_) h hb
          subst z
          unfold lkey at ek
          simp only [Option.bind_eq_some_iff, Option.map_eq_some_iff] at ek
          obtain ⟨j', e5, a', e6, e7⟩ := ek
          unfold kOf at e7
          split at e7
          · rename_i i'
            subst e7
            refine f1 j a .bor em (by simp) eA _ ?_ hi
            simp [slotOf, e5, e6]
          · have := (List.getElem?_eq_some_iff.mp et').1
            omega
      | lend => exact absurd rfl hm
  · cases e : lkey n ms as with
    | none => rw [e] at ho; rw [ho]; exact List.nodup_nil
    | some k => rw [e] at ho; rw [ho]; exact I.nd k
  · obtain ⟨k, _, h, _⟩ := hok a ha
    exact I.ot k a h
  · rcases ha.1 with ⟨k, h⟩ | h
    · exact I.ot k a h
    · obtain ⟨u, e, c⟩ := I.ok.b0 a h
      exact ⟨u, I.kp a u e fun z => I.ok.ob a z h, c⟩
theorem SI.post (I : SI C σ H ρ (vs ++ xs) (τ ++ as) ow) (hτ : τ.length = vs.length) (hl : as.length = xs.length) {o : List Addr} (ho : match lkey (ρ.length + τ.length) ms as with | some k => o = ow k | none => o = []) {go ro : List Addr} {t' : T} {ys : List V} {us : List T}
    (hco : PostC H o H') (hL : LentIs C.K (fun a => a ∈ go ∨ a ∈ ro ∨ B0c C ow (ρ.length + τ.length) o a) (fun a => a ∈ go ∨ a ∈ ro) (lnOf ms) xs H' t' go) (n1 : go.Nodup) (n2 : ro.Nodup) (dj : ∀ a ∈ go, a ∉ ro) (src : ∀ a, a ∈ go ∨ a ∈ ro → a ∈ o ∨ H a = none) (ot : ∀ a, a ∈ go ∨ a ∈ ro → ∃ u, H' a = some u ∧ Chg u)
    (hu : (us = [] ∧ ys = [] ∧ ro = []) ∨ ∃ r v, us = [r] ∧ ys = [v] ∧ clean r = true ∧ TIs C.K (fun a => a ∈ go ∨ a ∈ ro ∨ B0c C ow (ρ.length + τ.length) o a) (fun a => a ∈ go ∨ a ∈ ro) [] H' r v ro) :
    SS C σ H' (putT (slotOf ms as) t' ρ) (vs ++ ys) (τ ++ us) := by
  let n := ρ.length + τ.length
  have hul : us.length = ys.length := by rcases hu with ⟨rfl, rfl, _⟩ | ⟨r, v, rfl, rfl, _⟩ <;> rfl
  have hslot : ∀ i, slotOf ms as = some i → i < ρ.length ∧ lkey n ms as = some i ∧ ∃ j v, lnOf ms = some j ∧ xs[j]? = some v ∧ σ[i]? = some (some v) := fun i e => by
    unfold slotOf at e
    simp only [Option.bind_eq_some_iff] at e
    obtain ⟨j, e1, a, e2, e3⟩ := e
    split at e3
    · rename_i i'
      simp at e3; subst e3
      obtain ⟨v, hv, r⟩ := I.atA hτ e2
      generalize ow (ρ.length + τ.length + j) = oo at r
      cases r with
      | ali h => exact ⟨(by have := (List.getElem?_eq_some_iff.mp (wipe_some h).1).1; have := I.ln; omega), (by unfold lkey; rw [e1]; show (as[j]?).map _ = _; rw [e2]; rfl), j, v, e1, hv, (wipe_some h).1⟩
    · simp at e3
  have ho2 : ∀ a ∈ o, ∃ k, lkey n ms as = some k ∧ a ∈ ow k := fun a ha => by
    cases e : lkey n ms as with
    | none => rw [show o = [] by rw [e] at ho; exact ho] at ha; simp at ha
    | some k => exact ⟨k, rfl, by rw [e] at ho; rw [← (show o = ow k from ho)]; exact ha⟩
  have hkey : ∀ k, lkey n ms as = some k → (slotOf ms as = some k) ∨ n ≤ k := fun k e => by
    unfold lkey at e
    simp only [Option.bind_eq_some_iff, Option.map_eq_some_iff] at e
    obtain ⟨j, e1, a, e2, e3⟩ := e
    unfold kOf at e3
    split at e3
    · subst e3; exact .inl (by simp [slotOf, e1, e2])
    · exact .inr (by omega)
  let S : Nat → Prop := fun k => slotOf ms as = some k ∨ n ≤ k
  have hS : ∀ k, slotOf ms as = some k → k < n := fun k e => by have := (hslot k e).1; omega
  let go' : List Addr := if (slotOf ms as).isSome then go else []
  have go'sub : ∀ a ∈ go', a ∈ go := fun a h => by
    have h : a ∈ (if (slotOf ms as).isSome then go else []) := h
    split at h
    · exact h
    · simp at h
  have lenput : (putT (slotOf ms as) t' ρ).length = ρ.length := by
    unfold putT; split <;> simp
  have inS : ∀ a ∈ o, ∃ j, S j ∧ a ∈ ow j := fun a ha => by
    obtain ⟨k, ek, h⟩ := ho2 a ha
    exact ⟨k, hkey k ek, h⟩
  let ow' : Nat → List Addr := fun k => if slotOf ms as = some k then go' else if k < n then ow k else if k = n then ro else []
  have put : ∀ k, slotOf ms as ≠ some k → (putT (slotOf ms as) t' ρ)[k]? = ρ[k]? := fun k hk => by
    unfold putT
    split
    · rename_i i e
      refine List.getElem?_set_ne fun z => hk ?_
      rw [z] at e; exact e
    · rfl
  have bars : ∀ b, Bar C ow' b → b ∈ go ∨ b ∈ ro ∨ B0c C ow n o b := fun b z => by
    rcases z with ⟨k, z⟩ | z
    · have z : b ∈ (if slotOf ms as = some k then go' else if k < n then ow k else if k = n then ro else []) := z
      split at z
      · exact .inl (go'sub b z)
      · rename_i hk
        split at z
        · refine .inr (.inr ⟨.inl ⟨k, z⟩, fun q => ?_, fun k' hk' q => I.dj k k' b (by omega) z q⟩)
          obtain ⟨k', ek, h⟩ := ho2 b q
          refine I.dj k k' b (fun w => ?_) z h
          subst w
          rcases hkey k ek with w | w
          · exact hk w
          · omega
        · split at z
          · exact .inr (.inl z)
          · simp at z
    · refine .inr (.inr ⟨.inr z, fun q => ?_, fun k' _ q => I.nb0 q z⟩)
      obtain ⟨k, _, h⟩ := ho2 b q
      exact I.nb0 h z
  have barsB : ∀ b, (∃ k, b ∈ ow' k) → b ∈ go ∨ b ∈ ro ∨ ∃ k, b ∈ ow k := fun b ⟨k, z⟩ => by
    have z : b ∈ (if slotOf ms as = some k then go' else if k < n then ow k else if k = n then ro else []) := z
    split at z
    · exact .inl (go'sub b z)
    · split at z
      · exact .inr (.inr ⟨k, z⟩)
      · split at z
        · exact .inr (.inl z)
        · simp at z
  have nb : ∀ b u, H' b = some u → ¬ (b ∈ go ∨ b ∈ ro ∨ B0c C ow n o b) → H' b = some u ∧ ¬ Bar C ow' b := fun b u q z => ⟨q, fun w => z (bars b w)⟩
  have hS2 : ∀ k, ¬ S k → slotOf ms as ≠ some k ∧ k < n := fun k h => ⟨fun z => h (.inl z), by by_cases z : k < n; exact z; exact absurd (.inr (by omega)) h⟩
  have owS : ∀ k, slotOf ms as = some k → ow' k = go := fun k e => by
    show (if slotOf ms as = some k then go' else _) = go
    rw [if_pos e]
    show (if (slotOf ms as).isSome then go else []) = go
    rw [if_pos (by rw [e]; rfl)]
  have own_ : ow' n = ro := by
    show (if slotOf ms as = some n then go' else if n < n then ow n else if n = n then ro else []) = ro
    rw [if_neg (fun z => by have := hS n z; omega), if_neg (Nat.lt_irrefl _), if_pos rfl]
  have owHi : ∀ k, n < k → ow' k = [] := fun k hk => by
    show (if slotOf ms as = some k then go' else if k < n then ow k else if k = n then ro else []) = []
    rw [if_neg (fun z => by have := hS k z; omega), if_neg (by omega), if_neg (by omega)]
  have inGR : ∀ k a, S k → a ∈ ow' k → (slotOf ms as = some k ∧ a ∈ go) ∨ (k = n ∧ a ∈ ro) := fun k a hk h => by
    rcases hk with e | e
    · rw [owS k e] at h; exact .inl ⟨e, h⟩
    · by_cases z : k = n
      · subst z; rw [own_] at h; exact .inr ⟨rfl, h⟩
      · rw [owHi k (by omega)] at h; simp at h
  refine ⟨ow', I.next (S := S) (by rw [lenput, I.ln]) (by simp [hτ, hul]) ?_ (fun k hk => ?_) (fun k t hk e => ?_) lenput (fun b u e h => ?_) hco.tr (fun k a hk h => ?_) (fun m1 m2 k t hk e => ?_) (fun k hk => ?_) (fun j k a hj hk hjk h => ?_) (fun k a hk h => ?_) (fun _ _ => rfl)⟩
  · unfold putT
    split
    · rename_i i e
      exact noAliL_set I.na (clean_na (by
        obtain ⟨_, _, j, v, e1, _⟩ := hslot i e
        rw [e1] at hL; exact hL.1))
    · exact I.na
  · obtain ⟨h1, h2⟩ := hS2 k hk
    show (if slotOf ms as = some k then go' else if k < n then ow k else if k = n then ro else []) = ow k
    rw [if_neg h1, if_pos h2]
  · obtain ⟨h1, h2⟩ := hS2 k hk
    refine ⟨?_, ?_, .inl rfl⟩
    · by_cases hk2 : k < ρ.length
      · rw [List.getElem?_append_left (by rw [lenput]; exact hk2), put k h1] at e
        rw [List.getElem?_append_left hk2]; exact e
      · rw [List.getElem?_append_right (by rw [lenput]; omega), lenput] at e
        rw [List.getElem?_append_right (by omega)]
        rw [List.getElem?_append_left (by omega)] at e ⊢
        exact e
    · have z : k < (σ ++ List.map some vs).length := by simp [← I.ln, ← hτ]; exact h2
      simp only [List.map_append, ← List.append_assoc]
      exact (List.getElem?_append_left z).trans (List.getElem?_append_left z).symm
  · exact hco.sm b u e fun z => by
      obtain ⟨j, hj, q⟩ := inS b z
      exact h j hj q
  · have : a ∈ go ∨ a ∈ ro := (inGR k a hk h).imp (·.2) (·.2)
    rcases src a this with z | z
    · exact .inl (inS a z)
    · exact .inr z
  · rcases hk with ek | ek
    · obtain ⟨hi, _, j, v, e1, ev, es⟩ := hslot k ek
      have et : (putT (slotOf ms as) t' ρ)[k]? = some t' := by
        rw [ek]; show (ρ.set k t')[k]? = some t'
        exact List.getElem?_set_self hi
      rw [List.getElem?_append_left (by rw [lenput]; exact hi), et] at e
      cases e
      rw [e1] at hL
      obtain ⟨hc, hL⟩ := hL
      rcases hL with ⟨z, _⟩ | ⟨w, hw, r⟩
      · exact .inl ⟨z, by rw [lenput]; exact hi⟩
      · rw [ev] at hw; cases hw
        refine .inr ⟨v, ?_, ?_⟩
        · rw [List.getElem?_append_left (by rw [← I.ln]; exact hi)]; exact es
        · rw [owS k ek]
          exact r.clean nb (fun _ _ _ q => q) hc
    · have hlen : k < (putT (slotOf ms as) t' ρ ++ (τ ++ us)).length := (List.getElem?_eq_some_iff.mp e).1
      simp [lenput] at hlen
      rcases hu with ⟨rfl, rfl, _⟩ | ⟨r, v, rfl, rfl, hr, q⟩
      · simp at hlen; omega
      · simp at hlen
        have ek2 : k = n := by omega
        subst ek2
        rw [List.getElem?_append_right (by rw [lenput]; omega), lenput, List.getElem?_append_right (by omega)] at e
        have z : n - ρ.length - τ.length = 0 := by omega
        rw [z] at e
        simp at e; subst e
        refine .inr ⟨v, ?_, ?_⟩
        · simp only [List.map_append, ← List.append_assoc]
          rw [List.getElem?_append_right (by simp [← I.ln, ← hτ]; omega)]
          have z : n - (σ ++ List.map some vs).length = 0 := by simp [← I.ln, ← hτ]; omega
          rw [z]; rfl
        · rw [own_]
          exact q.clean nb (fun _ _ _ q => q) hr
  · rcases hk with ek | ek
    · rw [owS k ek]; exact n1
    · by_cases z : k = n
      · subst z; rw [own_]; exact n2
      · rw [owHi k (by omega)]; exact List.nodup_nil
  · intro h2
    rcases inGR j a hj h with ⟨e1, g1⟩ | ⟨e1, g1⟩ <;> rcases inGR k a hk h2 with ⟨e2, g2⟩ | ⟨e2, g2⟩
    · rw [e1] at e2; cases e2; exact hjk rfl
    · exact dj a g1 g2
    · exact dj a g2 g1
    · exact hjk (e1.trans e2.symm)
  · exact ot a ((inGR k a hk h).imp (·.2) (·.2))
end
structure Spc (spd : DSp) (ts : List T) (Q : T → T → Prop) (W : Exn → T → Prop) : Prop where
  of : spd ts Q W
def dCall (ms : List Md) (spd : DSp) (Wd : Exn → List T → Prop) (fs : DA) : DE := fun ρ Q => fs ρ fun as ρ1 => wO (argsT ρ1 ms as) fun ts => match freeOf (slotOf ms as) ms as with
  | true => Spc spd ts (fun r t' => Q r (putT (slotOf ms as) t' ρ1)) (fun ex t' => Wd ex (putT (slotOf ms as) t' ρ1))
  | false => False
theorem mb_true {b : Bool} {p : Prop} (h : match b with | true => p | false => False) : b = true ∧ p := by
  cases b with
  | true => exact ⟨rfl, h⟩
  | false => exact h.elim
theorem PostC.nil (K : PySem.W.Frag) : True := trivial
section
variable {C : Ctx} {k : Nat} {f : Addr} {fd : FuncData} {ps : List Str} {x : Str} {p pos : Pos} {e : Expr} {es : List Expr} {fs : DA} {ms : List Md} {spd : DSp} {n : Nat}
theorem sim_call {σ : St} {H : Hp} {ρ : List T} {vs xs : List V} {τ as : List T} {Qd : DQ} {Q : VK} (hn : n = ms.length) (I : SS C σ H ρ (vs ++ xs) (τ ++ as)) (hl : as.length = xs.length) (hτ : τ.length = vs.length)
    (q : wO (argsT ρ ms as) fun ts => match freeOf (slotOf ms as) ms as with
      | true => Spc spd ts (fun r t' => Qd r (putT (slotOf ms as) t' ρ)) (fun ex t' => C.Wd ex (putT (slotOf ms as) t' ρ))
      | false => False) (k : ∀ v H' x ρ', SS C σ H' ρ' (vs ++ [v]) (τ ++ [x]) → Qd x ρ' → Q v H') (hmono : ∀ (ts : List T) (R R' : T → T → Prop) (W W' : Exn → T → Prop), (∀ r t, R r t → R' r t) → (∀ r t, W r t → W' r t) → spd ts R W → spd ts R' W') :
    toSp C.K n (lnOf ms) spd xs H Q (WE (relW C) σ) := by
  obtain ⟨ts, ea, q⟩ := wO_some q
  obtain ⟨hf, ⟨q⟩⟩ := mb_true q
  obtain ⟨ow, J⟩ := I
  obtain ⟨o, ho, P⟩ := J.pre hτ hl ea hf
  obtain ⟨l1, l2⟩ := argsT_len ea
  refine ⟨_, ts, o, by omega, P, hmono ts _ _ _ _ (fun r t' hq v H' Po => ?_) (fun ex t' hw cls d H' Po => ?_) q⟩
  · obtain ⟨go, ro, h1, h2, h3, h4, h5, h6, h7⟩ := Po.ex
    exact k v H' r _ (J.post hτ hl ho Po.co h2 h3 h4 h5 h6 h7 (.inr ⟨r, v, rfl, rfl, Po.na, h1⟩)) hq
  · obtain ⟨go, h1, h2, h3, h4⟩ := Po.ex
    have e1 : (fun a => a ∈ go ∨ B0c C ow (ρ.length + τ.length) o a) = fun a => a ∈ go ∨ a ∈ ([] : List Addr) ∨ B0c C ow (ρ.length + τ.length) o a := by funext a; simp
    have e2 : (fun a => a ∈ go) = fun a => a ∈ go ∨ a ∈ ([] : List Addr) := by funext a; simp
    rw [e1, e2] at h1
    have S := J.post (ro := []) (ys := []) (us := []) hτ hl ho Po.co h1 h2 List.nodup_nil (fun _ _ z => by simp at z) (fun a z => h3 a (by simpa using z)) (fun a z => h4 a (by simpa using z)) (.inl ⟨rfl, rfl, rfl⟩)
    refine ⟨ex, _, Po.is, ?_, hw⟩
    have S' : SS C σ H' (putT (slotOf ms as) t' ρ) ([] ++ vs) ([] ++ τ) := by simpa using S
    exact S'.drop rfl
def Mono (spd : DSp) : Prop := ∀ (ts : List T) (R R' : T → T → Prop) (W W' : Exn → T → Prop), (∀ r t, R r t → R' r t) → (∀ r t, W r t → W' r t) → spd ts R W → spd ts R' W'
theorem de_call (F : FnG C.X.prog C.X.w C.X.K C.X.mg C.X.base k f fd ps (toSp C.X.K n (lnOf ms) spd)) (hr : RoomG k C.X.A) (hm0 : Mono spd) (hn : n = ms.length) (hg : Gl C.X x) (hm : C.X.mg x = some (.ref f)) (hk : PySem.W.keepIn C.X.K (.ref f) = true) (hb : Binds C.X.K fd ps [])
    (tk : DTk C) (ha : DPA C (e :: es) fs) (hdb : (x == ("__debug__" : Str)) = false := by decide) (he : starEach (e :: es) C.X.env = (false, eval e C.X.env) :: starEach es C.X.env := by rfl) (hpl : (backTo pos (starEach es C.X.env)).any (·.1) = false := by rfl) :
    DPE C (.Call (.Name x p) (e :: es) [] pos) (dCall ms spd C.Wd fs) :=
  let ⟨_, pa, sa⟩ := ha.ex
  ⟨_, pe_callG F hr hg hm hk hb .nil (fun σ => passAt tk σ) pa hdb he hpl, fun σ H ρ vs τ Qd Q I h kk => sa σ H ρ vs τ _ _ I h fun xs H1 as ρ1 I1 hl q => by
    have := sim_call hn I1 hl (I1.lenA hl) q kk hm0
    rw [← List.append_nil xs] at this
    exact this⟩
def dCallD (dds : List D) (ms : List Md) (spd : DSp) (Wd : Exn → List T → Prop) (fs : DA) : DE := dCall (ms ++ dds.map fun _ => .dat) spd Wd fun ρ Q => fs ρ fun as ρ1 => Q (as ++ dds.map .dat) ρ1
end
end Ds
namespace Ds
open PySem L2
def wipeT (ρ : List T) : List Nat → List T
  | [] => ρ
  | i :: is => (wipeT ρ is).set i .emp
theorem wipeT_len (ρ : List T) : ∀ is, (wipeT ρ is).length = ρ.length
  | [] => rfl
  | i :: is => by unfold wipeT; rw [List.length_set, wipeT_len ρ is]
theorem wipeT_get {ρ : List T} {i : Nat} : ∀ {is : List Nat}, i ∉ is → (wipeT ρ is)[i]? = ρ[i]?
  | [], _ => rfl
  | j :: is, h => by
    unfold wipeT
    rw [List.getElem?_set_ne (fun z => h (by simp [z])), wipeT_get (fun z => h (by simp [z]))]
theorem wipeT_in {ρ : List T} {i : Nat} {t : T} : ∀ {is : List Nat}, i ∈ is → (wipeT ρ is)[i]? = some t → t = .emp
  | [], h, _ => by simp at h
  | j :: is, h, e => by
    unfold wipeT at e
    by_cases z : j = i
    · subst z
      by_cases hj : j < (wipeT ρ is).length
      · rw [List.getElem?_set_self hj] at e; exact (Option.some.inj e).symm
      · rw [List.getElem?_eq_none (by simpa using hj)] at e; cases e
    · rw [List.getElem?_set_ne z] at e
      exact wipeT_in (by simpa [Ne.symm z] using h) e
theorem wipeT_na {ρ : List T} : ∀ {is : List Nat}, noAliL ρ = true → noAliL (wipeT ρ is) = true
  | [], h => h
  | i :: is, h => by unfold wipeT; exact noAliL_set (wipeT_na h) rfl
section
variable {C : Ctx} {σ σ' σ2 : St} {H H' : Hp} {ρ ρ' : List T} {vs xs : List V} {τ ts : List T} {own : List Nat} {v w : V} {x t : T}
theorem SS.toW (h : SS C σ2 H ρ vs τ) (hw : wipe σ2 own = wipe σ own) (hc : ∀ i ∈ own, i ∈ C.cv) (hl : ∀ i ∈ own, i ∉ C.lent) : SS C σ H (wipeT ρ own) vs τ := by
  obtain ⟨ow, I⟩ := h
  have len : σ2.length = σ.length := by have := congrArg List.length hw; rwa [wipe_length, wipe_length] at this
  have out : ∀ i, i ∉ own → σ2[i]? = σ[i]? := fun i hi => by rw [← wipe_out hi, hw, wipe_out hi]
  have wcv : wipe σ C.cv = wipe σ2 C.cv := wipe_ext len.symm fun i hi => (out i fun z => hi (hc i z)).symm
  have keep : ∀ k (u : T), ¬ (k ∈ own ∧ k < ρ.length) → (wipeT ρ own ++ τ)[k]? = some u → (ρ ++ τ)[k]? = some u := fun k u hk e => by
    by_cases z : k < ρ.length
    · rw [List.getElem?_append_left (by rw [wipeT_len]; exact z), wipeT_get (fun q => hk ⟨q, z⟩)] at e
      rw [List.getElem?_append_left z]; exact e
    · rw [List.getElem?_append_right (by rw [wipeT_len]; omega), wipeT_len] at e
      rw [List.getElem?_append_right (by omega)]; exact e
  refine ⟨fun k => if k ∈ own ∧ k < ρ.length then [] else ow k, I.next (S := fun k => k ∈ own ∧ k < ρ.length) (by rw [wipeT_len, I.ln, len]) I.lt (wipeT_na I.na) (fun k hk => ?_) (fun k u hk e => ?_) (wipeT_len _ _) (fun b o e _ => e) (fun b z => z)
    (fun k a hk h => ?_) (fun m1 m2 k u hk e => ?_) (fun k hk => ?_) (fun j k a hj hk hjk h => ?_) (fun k a hk h => ?_) (fun i hi => ?_)⟩
  · simp only [if_neg hk]
  · refine ⟨keep k u hk e, ?_, .inl wcv⟩
    by_cases z : k < ρ.length
    · have a1 : k < σ.length := by rw [← len, ← I.ln]; exact z
      have a2 : k < σ2.length := by rw [← I.ln]; exact z
      exact (List.getElem?_append_left a1).trans ((out k fun q => hk ⟨q, z⟩).symm.trans (List.getElem?_append_left a2).symm)
    · have a1 : σ.length ≤ k := by rw [← len, ← I.ln]; omega
      have a2 : σ2.length ≤ k := by rw [← I.ln]; omega
      refine (List.getElem?_append_right a1).trans (Eq.trans ?_ (List.getElem?_append_right a2).symm)
      rw [len]
  · simp only [if_pos hk] at h; simp at h
  · refine .inl ⟨?_, by rw [wipeT_len]; exact hk.2⟩
    rw [List.getElem?_append_left (by rw [wipeT_len]; exact hk.2)] at e
    exact wipeT_in hk.1 e
  · simp only [if_pos hk]; exact List.nodup_nil
  · simp only [if_pos hj] at h; simp at h
  · simp only [if_pos hk] at h; simp at h
  · exact (out i fun z => hl i z hi).symm
theorem wipe_idem (σ : St) (own : List Nat) : wipe (wipe σ own) own = wipe σ own := wipe_ext (wipe_length _ _) fun i hi => wipe_out hi
theorem SS.under {sv : List V} {sx : List T} (hl : sx.length = sv.length) : ∀ {sv2 : List V} {sx2 : List T}, sx2.length = sv2.length → SS C σ H ρ (vs ++ sv ++ [v] ++ sv2) (τ ++ sx ++ [t] ++ sx2) → SS C σ H ρ (vs ++ [v] ++ sv2 ++ sv) (τ ++ [t] ++ sx2 ++ sx) := by
  induction sv generalizing sx with
  | nil =>
    intro sv2 sx2 hl2 h
    have : sx = [] := List.length_eq_zero_iff.mp hl
    subst this
    simpa using h
  | cons s sv ih =>
    intro sv2 sx2 hl2 h
    match sx, hl with
    | u :: sx, hl =>
      have h1 : SS C σ H ρ (vs ++ (s :: (sv ++ [v] ++ sv2))) (τ ++ (u :: (sx ++ [t] ++ sx2))) := by simpa using h
      have h2 := h1.first (by simp at hl ⊢; omega)
      have h3 := ih (sx := sx) (by simpa using hl) (sv2 := sv2 ++ [s]) (sx2 := sx2 ++ [u]) (by simp [hl2]) (by simpa using h2)
      simpa using h3
theorem TIs.own_inv {K : PySem.W.Frag} {B Bb : Addr → Prop} {σ : St} {H : Hp} {ds : List D} {v : V} : ∀ {os : List Addr}, TIs K B Bb σ H (.own ds) v os → ∃ a zs, v = .ref a ∧ H a = some (.lst zs) ∧ DIsL K B H ds zs ∧ os = [a]
  | _, .own e q => ⟨_, _, rfl, e, q, rfl⟩
theorem SS.grow (h : SS C σ H ρ (vs ++ [.ref l] ++ xs ++ [w]) (τ ++ [.own acc] ++ ts ++ [x])) (hτ : τ.length = vs.length) {d : D} (hd : frz x = some d) :
    ∃ zs, H l = some (.lst zs) ∧ zs.length = acc.length ∧ SS C σ (upd H l (.lst (zs ++ [w]))) ρ (vs ++ [.ref l] ++ xs) (τ ++ [.own (acc ++ [d])] ++ ts) := by
  obtain ⟨ow, I⟩ := h
  have hl := I.lt
  simp at hl
  have hts : ts.length = xs.length := by omega
  let n := ρ.length + τ.length
  let m := ρ.length + (τ.length + 1 + ts.length)
  obtain ⟨v, hv, r⟩ := I.temp (j := τ.length) (t := .own acc) (by simp)
  have ev : v = .ref l := by rw [hτ] at hv; simp at hv; exact hv.symm
  subst ev
  have rtop := I.top
  have em : ρ.length + (τ ++ [T.own acc] ++ ts).length = m := by simp [m]; omega
  rw [em] at rtop
  have own_inv : ∃ zs, H l = some (.lst zs) ∧ DIsL C.K (Bar C ow) H acc zs ∧ ow n = [l] := by
    obtain ⟨a, zs, ea, e, q, eo⟩ := r.own_inv
    cases ea
    exact ⟨zs, e, q, eo⟩
  obtain ⟨zs, hz, dz, on⟩ := own_inv
  have lb : ∀ k, k ≠ n → l ∉ ow k := fun k hk q => I.dj n k l (Ne.symm hk) (by rw [on]; simp) q
  have hnm : n < m := by simp [n, m]; omega
  have low : ∀ (k : Nat) (α : Type) (A B E : List α), k < A.length → (A ++ B)[k]? = (A ++ E)[k]? := fun k α A B E h => by rw [List.getElem?_append_left h, List.getElem?_append_left h]
  let ow' : Nat → List Addr := fun k => if k = n then [l] else if k = m then [] else ow k
  have barN : ∀ b, Bar C ow' b → b = l ∨ (∃ k, k ≠ n ∧ k ≠ m ∧ b ∈ ow k) ∨ C.B0 b := fun b z => by
    rcases z with ⟨k, z⟩ | z
    · have z : b ∈ (if k = n then [l] else if k = m then [] else ow k) := z
      split at z
      · exact .inl (by simpa using z)
      · split at z
        · simp at z
        · exact .inr (.inl ⟨k, by assumption, by assumption, z⟩)
    · exact .inr (.inr z)
  have lN : Bar C ow' l := .inl ⟨n, by show l ∈ (if n = n then [l] else if n = m then [] else ow n); rw [if_pos rfl]; simp⟩
  refine ⟨zs, hz, dz.length.symm, ow', I.next (S := fun k => k = n ∨ m ≤ k) I.ln (by simp; omega) I.na (fun k hk => ?_) (fun k u hk e => ?_) rfl (fun b o e hb => ?_) (fun b z => ?_)
    (fun k a hk h => ?_) (fun m1 m2 k u hk e => ?_) (fun k hk => ?_) (fun j k a hj hk hjk h => ?_) (fun k a hk h => ?_) (fun i hi => rfl)⟩
  · show (if k = n then [l] else if k = m then [] else ow k) = ow k
    rw [if_neg (fun z => hk (.inl z)), if_neg (fun z => hk (.inr (by omega)))]
  · have h1 : k ≠ n := fun z => hk (.inl z)
    have h2 : k < m := by by_cases z : k < m; exact z; exact absurd (.inr (by omega)) hk
    refine ⟨?_, ?_, .inl rfl⟩
    · by_cases z : k < n
      · simp only [← List.append_assoc] at e ⊢
        rw [List.getElem?_append_left (by simp; omega), List.getElem?_append_left (by simp; omega)] at e
        rw [List.getElem?_append_left (by simp; omega), List.getElem?_append_left (by simp; omega), List.getElem?_append_left (by simp; omega)]
        exact e
      · simp only [← List.append_assoc] at e ⊢
        rw [List.getElem?_append_right (by simp; omega)] at e
        rw [List.getElem?_append_left (by simp; omega), List.getElem?_append_right (by simp; omega)]
        simpa using e
    · have z : k < (σ ++ List.map some (vs ++ [V.ref l] ++ xs)).length := by simp [← I.ln, ← hτ]; omega
      have e3 : (σ ++ List.map some (vs ++ [V.ref l] ++ xs ++ [w])) = (σ ++ List.map some (vs ++ [V.ref l] ++ xs)) ++ [some w] := by simp
      rw [e3]
      exact (List.getElem?_append_left z).symm
  · have : b ≠ l := fun z => hb n (.inl rfl) (by rw [on, z]; simp)
    rw [upd_ne this]; exact e
  · by_cases q : b = l
    · subst q; rw [upd_same]; simp
    · rw [upd_ne q]; exact z
  · have h : a ∈ (if k = n then [l] else if k = m then [] else ow k) := h
    split at h
    · simp at h; subst h; exact .inl ⟨n, .inl rfl, by rw [on]; simp⟩
    · split at h
      · simp at h
      · rename_i h1 h2
        exact .inl ⟨k, hk, h⟩
  · refine .inr ?_
    rcases hk with rfl | hk
    · have eu : u = .own (acc ++ [d]) := by
        simp only [← List.append_assoc] at e
        rw [List.getElem?_append_left (by simp [n]), List.getElem?_append_right (by simp [n])] at e
        simp [n] at e; exact e.symm
      subst eu
      refine ⟨.ref l, ?_, ?_⟩
      · simp only [List.map_append, ← List.append_assoc]
        rw [List.getElem?_append_left (by simp [← I.ln, ← hτ, n]), List.getElem?_append_right (by simp [← I.ln, ← hτ, n])]
        simp [← I.ln, ← hτ, n]
      · show TIs _ _ _ _ _ _ _ (if n = n then [l] else if n = m then [] else ow n)
        rw [if_pos rfl]
        refine .own upd_same ((dz.move m1).snoc ?_)
        have q : DIs C.K (Bar C ow') H d w := rtop.frz I.tupOk (fun b o e nb z => (m1 b o e nb).2 z) (fun a ha z => by
          rcases barN a z with rfl | ⟨k, h1, h2, h3⟩ | h
          · exact lb m (by omega) ha
          · exact I.dj k m a h2 h3 ha
          · exact I.nb0 ha h) hd
        exact q.move fun b o e nb => ⟨(by rw [upd_ne (fun z => nb (by rw [z]; exact lN))]; exact e), nb⟩
    · have : k < (ρ ++ (τ ++ [T.own (acc ++ [d])] ++ ts)).length := (List.getElem?_eq_some_iff.mp e).1
      simp at this
      omega
  · show (if k = n then [l] else if k = m then [] else ow k).Nodup
    split
    · simp
    · split
      · exact List.nodup_nil
      · exact I.nd k
  · have h : a ∈ (if j = n then [l] else if j = m then [] else ow j) := h
    show a ∉ (if k = n then [l] else if k = m then [] else ow k)
    split at h
    · simp at h; subst h
      rw [if_neg (by omega)]
      split
      · simp
      · exact lb k (by omega)
    · split at h
      · simp at h
      · split
        · simp only [List.mem_singleton]; intro z; exact lb j (by assumption) (by rw [← z]; exact h)
        · split
          · simp
          · exact I.dj j k a hjk h
  · have h : a ∈ (if k = n then [l] else if k = m then [] else ow k) := h
    split at h
    · simp at h; subst h; exact ⟨_, upd_same, trivial⟩
    · split at h
      · simp at h
      · obtain ⟨o, e, c⟩ := I.ot k a h
        rename_i h1 h2
        exact ⟨o, (by rw [upd_ne (fun z => lb k h1 (by rw [← z]; exact h))]; exact e), c⟩
end
theorem wipeT_idem (ρ : List T) (own : List Nat) : wipeT (wipeT ρ own) own = wipeT ρ own := by
  refine List.ext_getElem? fun i => ?_
  by_cases h : i ∈ own
  · cases e : (wipeT (wipeT ρ own) own)[i]? with
    | none =>
      have := List.getElem?_eq_none_iff.mp e
      rw [wipeT_len] at this
      exact (List.getElem?_eq_none_iff.mpr this).symm
    | some t =>
      have h1 := wipeT_in h e
      have hi := (List.getElem?_eq_some_iff.mp e).1
      rw [wipeT_len] at hi
      have e2 : (wipeT ρ own)[i]? = some (wipeT ρ own)[i] := List.getElem?_eq_getElem hi
      rw [e2, wipeT_in h e2, h1]
  · exact wipeT_get h
def dLcGo (g : DG) (tt : DTt) (fe : DE) (own : List Nat) (K : List D → List T → Prop) : List T → List D → List T → Prop
  | [], acc, ρ => K acc ρ
  | t :: its, acc, ρ => g t ρ fun ρ1 => tt ρ1 fun b ρ2 => br b (fe ρ2 fun y ρ3 => wD (frz y) fun d => acc.length < sizeLine ∧ dLcGo g tt fe own K its (acc ++ [d]) (wipeT ρ3 own)) (dLcGo g tt fe own K its acc (wipeT ρ2 own))
def dLc (fi : DI) (g : DG) (tt : DTt) (fe : DE) (own : List Nat) : DE := fun ρ Q => fi ρ fun its ρ1 => dLcGo g tt fe own (fun ds ρ2 => Q (.own ds) ρ2) its [] (wipeT ρ1 own)
def dYes : DTt := fun ρ Q => Q true ρ
def gNs : List Nat → TGs
  | [] => gNil
  | i :: is => gCons (gName i) (gNs is)
def dgNs : List Nat → DGs
  | [] => dgNil
  | i :: is => dgCons (dgName i) (dgNs is)
inductive Tgt where
  | one (i : Nat)
  | many (is : List Nat)
def Tgt.sl : Tgt → List Nat
  | .one i => [i]
  | .many is => is
def Tgt.g (K : PySem.W.Frag) : Tgt → TG
  | .one i => gName i
  | .many is => fun v σ H Q => gTup K is.length (gNs is) v σ H Q ∨ gLst K is.length (gNs is) v σ H Q
def Tgt.d : Tgt → DG
  | .one i => dgName i
  | .many is => dgTup is.length (dgNs is)
theorem tgt_mono {K : PySem.W.Frag} {tg : Tgt} {v : V} {σ : St} {H : Hp} {Q Q' : St → Hp → Prop} (h : tg.g K v σ H Q) (hq : ∀ σ' H', Q σ' H' → Q' σ' H') : tg.g K v σ H Q' := by
  have ns : ∀ {is : List Nat} {xs : List V} {σ : St} {H : Hp}, gNs is xs σ H Q → gNs is xs σ H Q' := by
    intro is
    induction is with
    | nil => intro xs σ H h; exact ⟨h.1, hq _ _ h.2⟩
    | cons i is ih => intro xs σ H h; obtain ⟨v, r, e, h⟩ := h; exact ⟨v, r, e, ih h⟩
  cases tg with
  | one i => exact hq _ _ h
  | many is =>
    rcases h with ⟨a, xs, e, h1, h2, h⟩ | ⟨a, xs, e, h1, h2, h⟩
    · exact .inl ⟨a, xs, e, h1, h2, ns h⟩
    · exact .inr ⟨a, xs, e, h1, h2, ns h⟩
theorem tgd_na {tg : Tgt} {t : T} {ρ : List T} {Q : List T → Prop} (h : tg.d t ρ Q) : noAli t = true := by
  cases tg with
  | one i => exact (na_ok h).1
  | many is => exact (na_ok h).1
section
variable {C : Ctx}
theorem gNs_only {own : List Nat} : ∀ {is : List Nat} {xs : List V} {σ : St} {H : Hp} {Q : St → Hp → Prop}, (∀ i ∈ is, i ∈ own) → gNs is xs σ H Q → gNs is xs σ H fun σ' H' => Q σ' H' ∧ wipe σ' own = wipe σ own
  | [], xs, σ, H, Q, _, h => ⟨h.1, h.2, rfl⟩
  | i :: is, xs, σ, H, Q, hi, h => by
    obtain ⟨v, r, rfl, h⟩ := h
    refine ⟨v, r, rfl, ?_⟩
    have := gNs_only (own := own) (is := is) (fun j hj => hi j (by simp [hj])) (show gNs is r (σ.set i (some v)) H Q from h)
    rw [set_wipe (hi i (by simp))] at this
    exact this
theorem Tgt.only {K : PySem.W.Frag} {own : List Nat} {tg : Tgt} {v : V} {σ : St} {H : Hp} {Q : St → Hp → Prop} (hs : ∀ i ∈ tg.sl, i ∈ own) (h : tg.g K v σ H Q) : tg.g K v σ H fun σ' H' => Q σ' H' ∧ wipe σ' own = wipe σ own := by
  cases tg with
  | one i => exact ⟨h, set_wipe (hs i (by simp [Tgt.sl]))⟩
  | many is =>
    rcases h with ⟨a, xs, e, h1, h2, h⟩ | ⟨a, xs, e, h1, h2, h⟩
    · exact .inl ⟨a, xs, e, h1, h2, gNs_only hs h⟩
    · exact .inr ⟨a, xs, e, h1, h2, gNs_only hs h⟩
def SimG' (C : Ctx) (g : TG) (f : DG) : Prop := ∀ (σ : St) (H : Hp) (ρ : List T) (vs : List V) (τ : List T) (v : V) (t : T) (Qd : List T → Prop) (Q : St → Hp → Prop), SS C σ H ρ (vs ++ [v]) (τ ++ [t]) → noAli t = true → f t ρ Qd →
  (∀ σ' H' ρ', SS C σ' H' ρ' vs τ → Qd ρ' → Q σ' H') → g v σ H Q
theorem sim_one {i : Nat} (nl : i ∉ C.lent) (hc : i ∈ C.cv) : SimG' C (gName i) (dgName i) := fun σ H ρ vs τ v t Qd Q I _ q k => by
  obtain ⟨nt, q⟩ := na_ok q
  by_cases z : i < ρ.length
  · exact k _ _ _ (I.assign z nt (.inr hc) nl) q
  · refine k _ _ ρ ?_ (by rw [getElem?_of_set z] at q; exact q)
    rw [getElem?_of_set (by rw [← I.lnN]; exact z)]
    exact I.pop
theorem sim_ns : ∀ {is : List Nat}, (∀ i ∈ is, i ∉ C.lent ∧ i ∈ C.cv) → ∀ (σ : St) (H : Hp) (ρ : List T) (vs : List V) (τ : List T) (xs : List V) (ts : List T) (Qd : List T → Prop) (Q : St → Hp → Prop), SS C σ H ρ (vs ++ xs) (τ ++ ts) → ts.length = xs.length → noAliL ts = true →
    dgNs is ts ρ Qd → (∀ σ' H' ρ', SS C σ' H' ρ' vs τ → Qd ρ' → Q σ' H') → gNs is xs σ H Q
  | [], _ => fun σ H ρ vs τ xs ts Qd Q I hl nt q k => by
    unfold dgNs dgNil at q
    split at q
    · have : xs = [] := List.length_eq_zero_iff.mp hl.symm
      subst this
      exact ⟨rfl, k _ _ _ (by simpa using I) q⟩
    · exact q.elim
  | i :: is, h => fun σ H ρ vs τ xs ts Qd Q I hl nt q k => by
    unfold dgNs dgCons at q
    split at q
    · rename_i t ts
      match xs, hl with
      | v :: xs, hl =>
        simp [noAliL] at nt
        refine ⟨v, xs, rfl, sim_one (h i (by simp)).1 (h i (by simp)).2 σ H ρ (vs ++ xs) (τ ++ ts) v t _ _ (I.first (by simpa using hl)) nt.1 q fun σ' H' ρ' I' q' => ?_⟩
        exact sim_ns (is := is) (fun j hj => h j (by simp [hj])) σ' H' ρ' vs τ xs ts _ _ I' (by simpa using hl) nt.2 q' k
    · exact q.elim
theorem Tgt.sim {tg : Tgt} (h : ∀ i ∈ tg.sl, i ∉ C.lent ∧ i ∈ C.cv) : SimG' C (tg.g C.K) tg.d := by
  cases tg with
  | one i => exact sim_one (h i (by simp [Tgt.sl])).1 (h i (by simp [Tgt.sl])).2
  | many is =>
    intro σ H ρ vs τ v t Qd Q I na q k
    obtain ⟨nt, q⟩ := na_ok q
    obtain ⟨us, e, hl, q⟩ := wO_some q
    obtain ⟨a, xs, rfl, hq, hlen, I'⟩ := I.apart e
    have fin := sim_ns (is := is) h σ H ρ vs τ xs us Qd Q I' hlen (noAli_parts nt e) q k
    rcases hq with hq | hq
    · exact .inl ⟨a, xs, rfl, hq, by omega, fin⟩
    · exact .inr ⟨a, xs, rfl, hq, by omega, fin⟩
def derE (C : Ctx) (f : DE) : TE := fun σ H Q => ∃ (ρ : List T) (vs : List V) (τ : List T) (Qd : DQ), SS C σ H ρ vs τ ∧ f ρ Qd ∧ ∀ v H' x ρ', SS C σ H' ρ' (vs ++ [v]) (τ ++ [x]) → Qd x ρ' → Q v H'
def derT (C : Ctx) (f : DTt) : TT := fun σ H Q => ∃ (ρ : List T) (vs : List V) (τ : List T) (Qd : Bool → List T → Prop), SS C σ H ρ vs τ ∧ f ρ Qd ∧ ∀ b H' ρ', SS C σ H' ρ' vs τ → Qd b ρ' → Q b H'
abbrev Ctx.blk (C : Ctx) (s : Shared) (H : Hp) (scope : Scope) (Cc : Addr) (cl : List (Str × Addr)) (fp : List Addr) : Ctx := { C with X := C.X.blk s H scope (compEnvC scope cl Cc C.X.env) fp, Wd := fun _ _ => False }
theorem SI.blk {σ : St} {H : Hp} {ρ : List T} {vs : List V} {τ : List T} {ow : Nat → List Addr} {s : Shared} {H1 : Hp} {scope : Scope} {Cc : Addr} {cl : List (Str × Addr)} {fp : List Addr} (I : SI C σ H ρ vs τ ow) : SI (C.blk s H1 scope Cc cl fp) σ H ρ vs τ ow :=
  ⟨⟨I.ok.b0, I.ok.ob⟩, I.ln, I.lt, I.na, I.cl, I.nd, I.dj, I.ot, I.fr, I.kp, I.tr, I.le⟩
theorem SI.unblk {σ : St} {H : Hp} {ρ : List T} {vs : List V} {τ : List T} {ow : Nat → List Addr} {s : Shared} {H1 : Hp} {scope : Scope} {Cc : Addr} {cl : List (Str × Addr)} {fp : List Addr} (I : SI (C.blk s H1 scope Cc cl fp) σ H ρ vs τ ow) : SI C σ H ρ vs τ ow :=
  ⟨⟨I.ok.b0, I.ok.ob⟩, I.ln, I.lt, I.na, I.cl, I.nd, I.dj, I.ot, I.fr, I.kp, I.tr, I.le⟩
theorem tk_blk {s : Shared} {H1 : Hp} {scope : Scope} {Cc : Addr} {cl : List (Str × Addr)} {fp : List Addr} : DTk (C.blk s H1 scope Cc cl fp) := takes0.imp fun _ _ _ _ ⟨_, _, _, _, h⟩ => h
structure DPTs (C : Ctx) (ifs : List Expr) (f : DTt) : Prop where
  ex : ∃ t, PTs C.X ifs t ∧ SimT C t f
theorem dts_nil : DPTs C [] dYes := ⟨_, pts_nil, fun σ H ρ vs τ Qd Q I h k => k _ _ _ I h⟩
theorem dts_one {c : Expr} {f : DTt} (h : DPT C c f) : DPTs C [c] f := let ⟨_, p, s⟩ := h.ex; ⟨_, pts_one p, s⟩
variable {elt tge iter : Expr} {ifs : List Expr} {scope : Scope} {own : List (Str × Nat)} {pos : Pos} {fi : DI} {tt : DTt} {fe : DE} {tg : Tgt}
theorem sim_lc {wi : TI} (hi : SimI C wi fi) (h1 : ∀ i ∈ tg.sl, i ∈ own.map (·.2)) (h2 : ∀ i ∈ own.map (·.2), i ∉ C.lent ∧ i ∈ C.cv) :
    Sim C (tLc wi (tg.g C.K) (derT C tt) (derE C fe) (own.map (·.2))) (dLc fi tg.d tt fe (own.map (·.2))) := fun σ H ρ vs τ Qd Q I h k => hi σ H ρ vs τ _ _ I h fun J H1 sv sx its ρ1 I1 nx wk q A hD => by
  let os := own.map (·.2)
  have hτ := I.ltE
  have hsx : sx.length = sv.length := by have := I1.ltE; simp at this; omega
  have hc : ∀ i ∈ os, i ∈ C.cv := fun i hi => (h2 i hi).2
  have hl : ∀ i ∈ os, i ∉ C.lent := fun i hi => (h2 i hi).1
  have I2 : SS C σ (upd H1 A (.lst [])) (wipeT ρ1 os) (vs ++ [.ref A] ++ sv) (τ ++ [.own []] ++ sx) := by
    obtain ⟨ow, J1⟩ := id I1
    have J2 : SS C σ (upd H1 A (.lst [])) ρ1 (vs ++ sv ++ [.ref A]) (τ ++ sx ++ [.own []]) := by
      have J1' : SI C σ H1 ρ1 (vs ++ sv ++ []) (τ ++ sx ++ []) ow := by simpa using J1
      exact J1'.newL J1.lt hD .nil
    have J3 := SS.under (vs := vs) (τ := τ) (sv := sv) (sx := sx) hsx (sv2 := []) (sx2 := []) rfl (by simpa using J2)
    have J4 : SS C σ (upd H1 A (.lst [])) ρ1 (vs ++ [.ref A] ++ sv) (τ ++ [.own []] ++ sx) := by simpa using J3
    exact J4.toW rfl hc hl
  have hτ2 : (τ ++ [T.own []]).length = (vs ++ [V.ref A]).length := by simp [hτ]
  refine ⟨fun i m H => m = its.length - i ∧ i ≤ its.length ∧ ∃ acc ρ, SS C σ H ρ (vs ++ [.ref A] ++ sv) (τ ++ [.own acc] ++ sx) ∧ wipeT ρ os = ρ ∧ dLcGo tg.d tt fe os (fun ds ρ2 => Qd (.own ds) ρ2) (its.drop i) acc ρ, ⟨_, rfl, Nat.zero_le _, [], _, I2, wipeT_idem _ _, q⟩, ?_⟩
  rintro i m H3 ⟨rfl, hle, acc, ρ3, I3, hw3, q3⟩
  have hτ3 : (τ ++ [T.own acc]).length = (vs ++ [V.ref A]).length := by simp [hτ]
  have I3w : SS C (wipe σ os) H3 ρ3 (vs ++ [.ref A] ++ sv) (τ ++ [.own acc] ++ sx) := by
    have := I3.toW (σ := wipe σ os) (own := os) (wipe_idem σ os).symm hc hl
    rwa [hw3] at this
  obtain ⟨st, go⟩ := wk i (wipe σ os) H3 ρ3 (vs ++ [.ref A]) (τ ++ [.own acc]) hτ3 I3w
  by_cases hlt : i < its.length
  · have e : its[i]? = some its[i] := List.getElem?_eq_getElem hlt
    obtain ⟨g1, y⟩ := go _ e
    refine .inr ⟨g1, fun H' => ∃ acc ρ, SS C σ H' ρ (vs ++ [.ref A] ++ sv) (τ ++ [.own acc] ++ sx) ∧ wipeT ρ os = ρ ∧ dLcGo tg.d tt fe os (fun ds ρ2 => Qd (.own ds) ρ2) (its.drop (i + 1)) acc ρ, fun H' ⟨acc, ρ', I', hw', q'⟩ => ⟨_, by omega, rfl, by omega, acc, ρ', I', hw', q'⟩, fun w H4 hy => ?_⟩
    have I4 := y w H4 hy
    have nt : noAli its[i] = true ∨ noAli its[i] = false := by cases noAli its[i] <;> simp
    rw [List.drop_eq_getElem_cons hlt] at q3
    have back : ∀ {σ2 : St} {H5 : Hp} {ρ5 : List T} {acc5 : List D}, wipe σ2 os = wipe σ os → SS C σ2 H5 ρ5 (vs ++ [.ref A] ++ sv) (τ ++ [.own acc5] ++ sx) → dLcGo tg.d tt fe os (fun ds ρ2 => Qd (.own ds) ρ2) (its.drop (i + 1)) acc5 (wipeT ρ5 os) →
        ∃ acc ρ, SS C σ H5 ρ (vs ++ [.ref A] ++ sv) (τ ++ [.own acc] ++ sx) ∧ wipeT ρ os = ρ ∧ dLcGo tg.d tt fe os (fun ds ρ2 => Qd (.own ds) ρ2) (its.drop (i + 1)) acc ρ := fun {σ2 H5 ρ5 acc5} hw I5 q5 => ⟨acc5, _, I5.toW hw hc hl, wipeT_idem _ _, q5⟩
    have hgo := Tgt.sim (C := C) (tg := tg) (fun i hi => h2 i (h1 i hi)) (wipe σ os) H4 ρ3 _ _ w its[i] _ (fun σ2 H2 => ∀ (hw : wipe σ2 os = wipe σ os), derT C tt σ2 H2 fun b H3 => if b = true then derE C fe σ2 H3 fun y H4 => ∃ acc, H4 A = some (.lst acc) ∧ acc.length < sizeLine ∧
        (∃ acc2 ρ, SS C σ (upd H4 A (.lst (acc ++ [y]))) ρ (vs ++ [.ref A] ++ sv) (τ ++ [.own acc2] ++ sx) ∧ wipeT ρ os = ρ ∧ dLcGo tg.d tt fe os (fun ds ρ2 => Qd (.own ds) ρ2) (its.drop (i + 1)) acc2 ρ) else
        (∃ acc ρ, SS C σ H3 ρ (vs ++ [.ref A] ++ sv) (τ ++ [.own acc] ++ sx) ∧ wipeT ρ os = ρ ∧ dLcGo tg.d tt fe os (fun ds ρ2 => Qd (.own ds) ρ2) (its.drop (i + 1)) acc ρ)) I4 (tgd_na q3) q3 fun σ5 H5 ρ5 I5 q5 hw => ⟨ρ5, _, _, _, I5, q5, fun b H6 ρ6 I6 q6 => ?_⟩
    · have hon := Tgt.only (K := C.K) (own := os) h1 hgo
      exact tgt_mono hon fun σ' H' ⟨hq, hw⟩ => ⟨by rw [hw, wipe_idem], hq (by rw [hw, wipe_idem])⟩
    · cases b with
      | true =>
        rw [if_pos rfl]
        refine ⟨ρ6, _, _, _, I6, q6.t rfl, fun v7 H7 x7 ρ7 I7 q7 => ?_⟩
        obtain ⟨d, ed, hlen, q7⟩ := wD_some q7
        obtain ⟨zs, hz, hzl, I8⟩ := I7.grow hτ ed
        exact ⟨zs, hz, by omega, back hw I8 q7⟩
      | false =>
        rw [if_neg (by decide)]
        exact back hw I6 (q6.f rfl)
  · have e : i = its.length := by omega
    subst e
    rw [List.drop_length] at q3
    have I5 : SS C σ H3 ρ3 (vs ++ [.ref A]) (τ ++ [.own acc]) := I3.drop hτ3
    exact .inl ⟨st (Nat.le_refl _), k _ _ _ _ I5 q3⟩
end
end Ds
namespace Ds
open PySem L2
section
variable {C : Ctx}
structure TgtOk (C : Ctx) (tge : Expr) (tg : Tgt) (scope : Scope) : Prop where
  pg : ∀ (s : Shared) (H : Hp) (Cc : Addr) (cl : List (Str × Addr)) (fp : List Addr), PG (C.blk s H scope Cc cl fp).X tge (tg.g C.K)
theorem tgt_one {i : Nat} {x : Str} {pos : Pos} {scope : Scope} (hN : C.X.N.Nodup) (hi : C.X.N[i]? = some x) (hx : Loc (relabel scope C.X.env) x) (hf : (relabel scope C.X.env).names.lookup x = some .local) : TgtOk C (.Name x pos) (.one i) scope :=
  ⟨fun s H Cc cl fp => pg_name (X := (C.blk s H scope Cc cl fp).X) hN hi hx (.inr hf)⟩
inductive NmsOk (N : List Str) (scope : Scope) : List Expr → List Nat → Prop
  | nil : NmsOk N scope [] []
  | cons {i : Nat} {x : Str} {pos : Pos} {es : List Expr} {is : List Nat} : N[i]? = some x → Loc scope x → scope.names.lookup x = some .local → NmsOk N scope es is → NmsOk N scope (.Name x pos :: es) (i :: is)
theorem pgs_ns {scope : Scope} (hN : C.X.N.Nodup) : ∀ {es : List Expr} {is : List Nat}, NmsOk C.X.N (relabel scope C.X.env) es is → ∀ (s : Shared) (H : Hp) (Cc : Addr) (cl : List (Str × Addr)) (fp : List Addr), PGs (C.blk s H scope Cc cl fp).X es (gNs is)
  | _, _, .nil, _, _, _, _, _ => pgs_nil
  | _, _, .cons h1 h2 h3 r, s, H, Cc, cl, fp => pgs_cons (pg_name (X := (C.blk s H scope Cc cl fp).X) hN h1 h2 (.inr h3)) (pgs_ns hN r s H Cc cl fp)
theorem tgt_many {es : List Expr} {is : List Nat} {k : Nat} {pos : Pos} {scope : Scope} (hc : C.X.calm = true) (hN : C.X.N.Nodup) (h : NmsOk C.X.N (relabel scope C.X.env) es is) (hn : ∀ env : Env, (assignEach es env).length = is.length := by intro _; rfl) (hst : ∀ env : Env, (assignEach es env).findIdx? (·.1) = none := by intro _; rfl) : TgtOk C (.Tuple es k pos) (.many is) scope :=
  ⟨fun s H Cc cl fp => pg_or (pg_tup (X := (C.blk s H scope Cc cl fp).X) hc (pgs_ns hN h s H Cc cl fp) (hn _) (hst _)) (pg_lst (X := (C.blk s H scope Cc cl fp).X) hc (pgs_ns hN h s H Cc cl fp) (hn _) (hst _))⟩
variable {elt tge iter : Expr} {ifs : List Expr} {scope : Scope} {own : List (Str × Nat)} {pos : Pos} {fi : DI} {tt : DTt} {fe : DE} {tg : Tgt}
theorem pe_der {s : Shared} {H : Hp} {Cc : Addr} {cl : List (Str × Addr)} {fp : List Addr} {e : Expr} {f : DE} (h : DPE (C.blk s H scope Cc cl fp) e f) : PE (C.blk s H scope Cc cl fp).X e (derE C f) :=
  let ⟨_, p, sm⟩ := h.ex
  ⟨fun pins s1 σ H1 Q I ⟨ρ, vs, τ, Qd, ⟨ow, J⟩, q, k⟩ => p.run pins s1 σ H1 Q I (sm σ H1 ρ vs τ Qd Q ⟨ow, J.blk⟩ q fun v H' x ρ' ⟨ow', J'⟩ q' => k v H' x ρ' ⟨ow', J'.unblk⟩ q')⟩
theorem pts_der {s : Shared} {H : Hp} {Cc : Addr} {cl : List (Str × Addr)} {fp : List Addr} {es : List Expr} {f : DTt} (h : DPTs (C.blk s H scope Cc cl fp) es f) : PTs (C.blk s H scope Cc cl fp).X es (derT C f) :=
  let ⟨_, p, sm⟩ := h.ex
  ⟨fun pins s1 σ H1 Q I ⟨ρ, vs, τ, Qd, ⟨ow, J⟩, q, k⟩ => p.run pins s1 σ H1 Q I (sm σ H1 ρ vs τ Qd Q ⟨ow, J.blk⟩ q fun v H' ρ' ⟨ow', J'⟩ q' => k v H' ρ' ⟨ow', J'.unblk⟩ q')⟩
theorem de_lc (hc : C.X.calm = true) (hN : C.X.N.Nodup) (hi : DPI C tge iter fi) (ok : BlkOk C.X.N C.X.env.scope scope own) (hg : TgtOk C tge tg scope)
    (ht : ∀ (s : Shared) (H : Hp) (Cc : Addr) (cl : List (Str × Addr)) (fp : List Addr), DPTs (C.blk s H scope Cc cl fp) ifs tt) (he : ∀ (s : Shared) (H : Hp) (Cc : Addr) (cl : List (Str × Addr)) (fp : List Addr), DPE (C.blk s H scope Cc cl fp) elt fe)
    (h1 : ∀ i ∈ tg.sl, i ∈ own.map (·.2)) (h2 : ∀ i ∈ own.map (·.2), i ∉ C.lent ∧ i ∈ C.cv) (hs : ∀ x, foldedSetIterable iter C.X.env x = pure x := by intro _; rfl) :
    DPE C (.ListComp elt [⟨tge, iter, ifs, 0⟩] scope pos) (dLc fi tg.d tt fe (own.map (·.2))) :=
  let ⟨_, p, s⟩ := hi.ex
  ⟨_, pe_lc hc hN p ok (fun s H Cc cl fp => hg.pg s H Cc cl fp) (fun s H Cc cl fp => pts_der (ht s H Cc cl fp)) (fun s H Cc cl fp => pe_der (he s H Cc cl fp)) hs, sim_lc s h1 h2⟩
end
end Ds
namespace Ds
open PySem L2
section
variable {C : Ctx} {σ : St} {H : Hp} {ρ : List T} {vs xs : List V} {τ ts : List T} {i : Nat} {ds : List D}
theorem SS.mut (I : SS C σ H ρ (vs ++ xs) (τ ++ ts)) (hτ : τ.length = vs.length) (ei : ρ[i]? = some (.own ds)) :
    ∃ l zs, σ[i]? = some (some (.ref l)) ∧ H l = some (.lst zs) ∧ zs.length = ds.length ∧ ∀ ds' zs' es ys, (∀ B', DIsL C.K B' H ds zs → (∀ (j : Nat) (x : T) (v : V) (d : D), ts[j]? = some x → xs[j]? = some v → frz x = some d → DIs C.K B' H d v) → DIsL C.K B' H ds' zs' ∧ DIsL C.K B' H es ys) →
      SS C σ (upd H l (.lst zs')) (ρ.set i (.own ds')) (vs ++ ys) (τ ++ es.map .dat) := by
  obtain ⟨ow, I⟩ := I
  have hlt := I.lt
  simp at hlt
  have hts : ts.length = xs.length := by omega
  have hi : i < ρ.length := (List.getElem?_eq_some_iff.mp ei).1
  let m := ρ.length + τ.length
  rcases I.slot ei with z | ⟨v, hv, r⟩
  · cases z
  · have own_inv : ∃ l zs, v = .ref l ∧ H l = some (.lst zs) ∧ DIsL C.K (Bar C ow) H ds zs ∧ ow i = [l] := by
      obtain ⟨a, zs, ea, e, q, eo⟩ := r.own_inv
      exact ⟨a, zs, ea, e, q, eo⟩
    obtain ⟨l, zs, rfl, hz, dz, on⟩ := own_inv
    refine ⟨l, zs, hv, hz, dz.length.symm, fun ds' zs' es ys nw => ?_⟩
    have lb : ∀ k, k ≠ i → l ∉ ow k := fun k hk q => I.dj i k l (Ne.symm hk) (by rw [on]; simp) q
    let ow' : Nat → List Addr := fun k => if k = i then [l] else if m ≤ k then [] else ow k
    have owi : ow' i = [l] := if_pos rfl
    have barN : ∀ b, Bar C ow' b → b = l ∨ (∃ k, k ≠ i ∧ k < m ∧ b ∈ ow k) ∨ C.B0 b := fun b z => by
      rcases z with ⟨k, z⟩ | z
      · have z : b ∈ (if k = i then [l] else if m ≤ k then [] else ow k) := z
        split at z
        · exact .inl (by simpa using z)
        · split at z
          · simp at z
          · exact .inr (.inl ⟨k, by assumption, by omega, z⟩)
      · exact .inr (.inr z)
    have lN : Bar C ow' l := .inl ⟨i, by rw [owi]; simp⟩
    have him : i < m := by simp [m]; omega
    have old : ∀ b o, H b = some o → ¬ Bar C ow b → ¬ Bar C ow' b := fun b o e n z => by
      rcases barN b z with rfl | ⟨k, _, _, h3⟩ | h
      · exact n (.inl ⟨i, by rw [on]; simp⟩)
      · exact n (.inl ⟨k, h3⟩)
      · exact n (.inr h)
    have q1 : DIsL C.K (Bar C ow') H ds zs := dz.move fun b o e n => ⟨e, old b o e n⟩
    have q2 : ∀ (j : Nat) (x : T) (v : V) (d : D), ts[j]? = some x → xs[j]? = some v → frz x = some d → DIs C.K (Bar C ow') H d v := fun j x v d e1 e2 e3 => by
      have et : (τ ++ ts)[τ.length + j]? = some x := by rw [List.getElem?_append_right (by omega)]; simpa using e1
      obtain ⟨v', hv', r'⟩ := I.temp et
      rw [List.getElem?_append_right (by omega), show τ.length + j - vs.length = j by omega, e2] at hv'
      cases hv'
      refine r'.frz I.tupOk old (fun a ha z => ?_) e3
      rcases barN a z with rfl | ⟨k, h1, h2, h3⟩ | h
      · exact lb _ (by omega) ha
      · exact I.dj k (ρ.length + (τ.length + j)) a (by omega) h3 ha
      · exact I.nb0 ha h
    obtain ⟨n1, n2⟩ := nw _ q1 q2
    have mv : ∀ b o, H b = some o → ¬ Bar C ow' b → upd H l (.lst zs') b = some o ∧ ¬ Bar C ow' b := fun b o e nb => ⟨(by rw [upd_ne (fun z => nb (by rw [z]; exact lN))]; exact e), nb⟩
    have hey : es.length = ys.length := n2.length
    refine ⟨ow', I.next (S := fun k => k = i ∨ m ≤ k) (by rw [List.length_set]; exact I.ln) (by simp [hτ, hey]) (noAliL_set I.na rfl) (fun k hk => ?_) (fun k u hk e => ?_) (List.length_set ..) (fun b o e hb => ?_) (fun b z => ?_)
      (fun k a hk h => ?_) (fun m1 m2 k u hk e => ?_) (fun k hk => ?_) (fun j k a hj hk hjk h => ?_) (fun k a hk h => ?_) (fun i hi => rfl)⟩
    · show (if k = i then [l] else if m ≤ k then [] else ow k) = ow k
      rw [if_neg (fun z => hk (.inl z)), if_neg (fun z => hk (.inr z))]
    · have h1 : k ≠ i := fun z => hk (.inl z)
      have h2 : k < m := by by_cases z : k < m; exact z; exact absurd (.inr (by omega)) hk
      refine ⟨?_, ?_, .inl rfl⟩
      · by_cases z : k < ρ.length
        · rw [List.getElem?_append_left (by simpa using z), List.getElem?_set_ne (Ne.symm h1)] at e
          rw [List.getElem?_append_left z]; exact e
        · rw [List.getElem?_append_right (by simp; omega), List.length_set, List.getElem?_append_left (by simp [m] at h2; omega)] at e
          rw [List.getElem?_append_right (by omega), List.getElem?_append_left (by simp [m] at h2; omega)]; exact e
      · have z : k < (σ ++ List.map some vs).length := by simp [← I.ln, ← hτ]; omega
        rw [List.map_append, List.map_append, ← List.append_assoc, ← List.append_assoc, List.getElem?_append_left z, List.getElem?_append_left z]
    · have : b ≠ l := fun z => hb i (.inl rfl) (by rw [on, z]; simp)
      rw [upd_ne this]; exact e
    · by_cases q : b = l
      · subst q; rw [upd_same]; simp
      · rw [upd_ne q]; exact z
    · have h : a ∈ (if k = i then [l] else if m ≤ k then [] else ow k) := h
      split at h
      · simp at h; subst h; exact .inl ⟨i, .inl rfl, by rw [on]; simp⟩
      · split at h
        · simp at h
        · exact absurd hk (fun z => z.elim (by assumption) (by assumption))
    · refine .inr ?_
      rcases hk with rfl | hk
      · rw [List.getElem?_append_left (by simpa using hi), List.getElem?_set_self hi] at e
        cases e
        refine ⟨.ref l, ?_, ?_⟩
        · rw [List.getElem?_append_left (by rw [← I.ln]; exact hi)]; exact hv
        · rw [owi]
          exact .own upd_same (n1.move mv)
      · have e2 : (List.map T.dat es)[k - m]? = some u := by
          rw [List.getElem?_append_right (by simp; omega), List.length_set, List.getElem?_append_right (by omega)] at e
          rw [show k - m = k - ρ.length - τ.length by omega]; exact e
        rw [List.getElem?_map, Option.map_eq_some_iff] at e2
        obtain ⟨d, ed, rfl⟩ := e2
        obtain ⟨w, hw, rw1⟩ := n2.get ed
        have oe : ow' k = [] := by
          show (if k = i then [l] else if m ≤ k then [] else ow k) = []
          rw [if_neg (by omega), if_pos hk]
        refine ⟨w, ?_, ?_⟩
        · rw [List.map_append, ← List.append_assoc, List.getElem?_append_right (by simp [← I.ln, ← hτ]; omega)]
          simp only [List.length_append, List.length_map, ← I.ln, ← hτ]
          rw [List.getElem?_map, show k - (ρ.length + τ.length) = k - m from rfl, hw]
          rfl
        · rw [oe]
          exact .dat (rw1.move mv)
    · show (if k = i then [l] else if m ≤ k then [] else ow k).Nodup
      split
      · simp
      · split
        · exact List.nodup_nil
        · exact I.nd k
    · have h : a ∈ (if j = i then [l] else if m ≤ j then [] else ow j) := h
      show a ∉ (if k = i then [l] else if m ≤ k then [] else ow k)
      split at h
      · simp at h; subst h
        rw [if_neg (by omega)]
        split
        · simp
        · exact lb k (by omega)
      · split at h
        · simp at h
        · exact absurd hj (fun z => z.elim (by assumption) (by assumption))
    · have h : a ∈ (if k = i then [l] else if m ≤ k then [] else ow k) := h
      split at h
      · simp at h; subst h; exact ⟨_, upd_same, trivial⟩
      · split at h
        · simp at h
        · exact absurd hk (fun z => z.elim (by assumption) (by assumption))
end
abbrev DLm := List T → List D → List T → (List D → D → Prop) → Prop
def dLm (i : Nat) (g : DLm) (fs : DA) : DE := fun ρ Q => match ρ[i]? with
  | some (.own _) => fs ρ fun ts ρ1 => match ρ1[i]? with
    | some (.own ds) => g ρ1 ds ts fun ds' r => Q (.dat r) (ρ1.set i (.own ds'))
    | _ => False
  | _ => False
structure LmIn (C : Ctx) (H : Hp) (ρ : List T) (xs : List V) (ts : List T) (ds : List D) (l : Addr) (zs : List V) : Prop where
  tl : ts.length = xs.length
  at_ : H l = some (.lst zs)
  zl : zs.length = ds.length
  lk : ∀ (j : Nat) (x : T) (d : D), ts[j]? = some x → Ds.lk ρ x = some d → ∃ v, xs[j]? = some v ∧ DIs C.K N0 H d v
  is : DIsL C.K N0 H ds zs
def LmNw (C : Ctx) (H : Hp) (xs : List V) (ts : List T) (ds : List D) (zs : List V) (ds' : List D) (e : D) (zs' : List V) (y : V) : Prop :=
  ∀ B', DIsL C.K B' H ds zs → (∀ (j : Nat) (x : T) (v : V) (d : D), ts[j]? = some x → xs[j]? = some v → frz x = some d → DIs C.K B' H d v) → DIsL C.K B' H ds' zs' ∧ DIs C.K B' H e y
def SimLm (C : Ctx) (r : V → List V → Hp → VK → Prop) (g : DLm) : Prop := ∀ (H : Hp) (ρ : List T) (xs : List V) (ts : List T) (ds : List D) (l : Addr) (zs : List V) (Qd : List D → D → Prop) (Q : VK), LmIn C H ρ xs ts ds l zs → g ρ ds ts Qd →
  (∀ (ds' : List D) (e : D) (zs' : List V) (y : V), LmNw C H xs ts ds zs ds' e zs' y → Qd ds' e → Q y (upd H l (.lst zs'))) → r (.ref l) xs H Q
section
variable {C : Ctx} {σ : St} {H : Hp} {ρ : List T} {vs xs : List V} {τ ts : List T} {i : Nat} {ds : List D}
theorem slot_own {ρ : List T} {i : Nat} {P : List D → Prop} (h : match ρ[i]? with | some (.own ds) => P ds | _ => False) : ∃ ds, ρ[i]? = some (.own ds) ∧ P ds := by
  split at h
  · exact ⟨_, by assumption, h⟩
  · exact h.elim
theorem lm_core {r : V → List V → Hp → VK → Prop} {g : DLm} {Q : VK} {Qd : List D → D → Prop} (hg : SimLm C r g) (I1 : SS C σ H ρ (vs ++ xs) (τ ++ ts)) (hl : ts.length = xs.length) (e1 : ρ[i]? = some (.own ds)) {l : Addr} (hv : σ[i]? = some (some (.ref l))) (q2 : g ρ ds ts Qd)
    (k : ∀ ds' e y H', SS C σ H' (ρ.set i (.own ds')) (vs ++ [y]) (τ ++ [.dat e]) → Qd ds' e → Q y H') : r (.ref l) xs H Q := by
  have hτ := I1.lenA hl
  obtain ⟨l', zs', hv', hz', hlen, mk⟩ := I1.mut hτ e1
  rw [hv] at hv'
  cases hv'
  obtain ⟨ow, J⟩ := id I1
  have isz : DIsL C.K N0 H ds zs' := by
    rcases J.slot e1 with z | ⟨v, hv2, r⟩
    · cases z
    · rw [hv] at hv2
      cases hv2
      obtain ⟨a, zs, ea, e, q, eo⟩ := r.own_inv
      cases ea
      rw [hz'] at e
      cases e
      exact q.free
  refine hg H ρ xs ts ds l zs' _ _ ⟨hl, hz', hlen, fun j x d ej ed => ?_, isz⟩ q2 fun ds' e zs2 y nw q3 => ?_
  · exact I1.lkA hτ ej ed
  · have := mk ds' zs2 [e] [y] fun B' a b => ⟨(nw B' a b).1, .cons (nw B' a b).2 .nil⟩
    exact k _ _ _ _ (by simpa using this) q3
theorem sim_lm {r : V → List V → Hp → VK → Prop} {g : DLm} {fs : DA} {t : TA} (hg : SimLm C r g) (ha : SimA C t fs) : Sim C (tBM C.K "list" r (tVar i) t) (dLm i g fs) := fun σ H ρ vs τ Qd Q I q k => by
  obtain ⟨ds0, e0, q⟩ := slot_own q
  obtain ⟨l, zs, hv, hz, _, _⟩ := SS.mut (xs := []) (ts := []) (by simpa using I) I.ltE e0
  refine ⟨.ref l, hv, .inl ⟨rfl, zs, .inl (.inl hz)⟩, ha σ H ρ vs τ _ _ I q fun xs H1 ts ρ1 I1 hl q1 => ?_⟩
  obtain ⟨ds, e1, q2⟩ := slot_own q1
  exact lm_core hg I1 hl e1 hv q2 fun ds' e y H' I' q' => k _ _ _ _ I' q'
def lmAppend : DLm := fun _ ds ts k => match ts with
  | [x] => wD (frz x) fun d => ds.length < sizeLine ∧ k (ds ++ [d]) .none
  | _ => False
theorem sl_append : SimLm C rAppend lmAppend := fun H ρ xs ts ds l zs Qd Q I q k => by
  unfold lmAppend at q
  split at q
  · rename_i x
    obtain ⟨v, rfl⟩ := len1 I.tl
    obtain ⟨d, ed, hz, q⟩ := wD_some q
    exact ⟨l, zs, v, rfl, rfl, I.at_, by rw [I.zl]; exact hz, k _ _ _ _ (fun B' a b => ⟨a.append (.cons (b 0 x v d rfl rfl ed) .nil), .none⟩) q⟩
  · exact q.elim
def lmExtend : DLm := fun _ ds ts k => match ts with
  | [x] => wD (frz x) fun d => match d with
    | .list es => ds.length + es.length ≤ sizeLine ∧ k (ds ++ es) .none
    | _ => False
  | _ => False
def lmPop : DLm := fun _ ds ts k => match ts with
  | [] => wD ds.getLast? fun d => k ds.dropLast d
  | _ => False
def lmPopAt : DLm := fun ρ ds ts k => match ts with
  | [x] => wI (lk ρ x) fun i => -(2 ^ 63) ≤ i ∧ i < 2 ^ 63 ∧ wO (seqIndex? i ds.length) fun n => wD ds[n]? fun d => k (ds.eraseIdx n) d
  | _ => False
def lmReverse : DLm := fun _ ds ts k => match ts with
  | [] => k ds.reverse .none
  | _ => False
def lmInsert : DLm := fun ρ ds ts k => match ts with
  | [x, y] => wI (lk ρ x) fun i => wD (frz y) fun d => ds.length < sizeLine ∧ 0 ≤ i ∧ i < 2 ^ 63 ∧ k (ds.take i.toNat ++ [d] ++ ds.drop i.toNat) .none
  | _ => False
variable {e : Expr} {es : List Expr} {x name : Str} {p apos cpos : Pos} {fs : DA} {id : String} {r : V → List V → Hp → VK → Prop} {g : DLm}
theorem de_lm (i : Nat) (slot : PySem.Slot "list" name id) (hty : typeOf (.builtin id) = pure (.type "method_descriptor")) (hm : MtR C.X id r) (hg : SimLm C r g) (hN : C.X.N[i]? = some x) (hv : Vis C.X.env.scope x) (ha : DPA C (e :: es) fs)
    (hd : (x == ("__debug__" : Str)) = false := by decide) (hcd : (x == ("__classdict__" : Str)) = false := by decide)
    (hbase : attributeBase (.Name x p) name C.X.env (eval (.Name x p) C.X.env) = eval (.Name x p) C.X.env := by rfl)
    (hfew : ((backTo cpos (starEach (e :: es) C.X.env)).all (fun x => !x.1) && (backToKw cpos (keywordEach [] C.X.env)).all (fun x => x.1.isSome)
      && decide ((e :: es).length + ([] : List Keyword).length + (if ([] : List Keyword).isEmpty then 0 else 1) < 30)) = true := by rfl)
    (hline : (apos.endLine == cpos.line) = true := by rfl) (hs : starEach (e :: es) C.X.env = (false, eval e C.X.env) :: starEach es C.X.env := by rfl) (hplain : (backTo cpos (starEach es C.X.env)).any (·.1) = false := by rfl) :
    DPE C (.Call (.Attribute (.Name x p) name apos) (e :: es) [] cpos) (dLm i g fs) :=
  let ⟨_, pa, sa⟩ := ha.ex
  ⟨_, pe_bm PySem.F.plainAttrs_list slot hty hm (pe_var hN hv hd hcd) pa hbase hfew hline hs hplain, sim_lm hg sa⟩
end
end Ds
namespace Ds
open PySem L2
def dSetIx (i : Nat) (fi : DE) : DG := fun t ρ Q => wD (frz t) fun d => match ρ[i]? with
  | some (.own _) => fi ρ fun x ρ1 => match ρ1[i]? with
    | some (.own ds) => wI (lk ρ1 x) fun n => wO (ixN ds.length n) fun j => Q (ρ1.set i (.own (ds.set j d)))
    | _ => False
  | _ => False
def dAugIx (i : Nat) (op : Int → Int → Int) (fi fe : DE) : DS := fun D ρ => match ρ[i]? with
  | some (.own _) => fi ρ fun x ρ1 => match ρ1[i]? with
    | some (.own ds) => wI (lk ρ1 x) fun n => wI (gI ds n) fun m => fe ρ1 fun y ρ2 => wI (lk ρ2 y) fun k => match ρ2[i]? with
      | some (.own ds2) => wO (ixN ds2.length n) fun j => D.nx (ρ2.set i (.own (ds2.set j (.int (op m k)))))
      | _ => False
    | _ => False
  | _ => False
section
variable {C : Ctx} {i : Nat} {x : Str} {e ei : Expr} {fe fi : DE} {p pos tpos : Pos}
theorem dg_setIx (i : Nat) (hN : C.X.N[i]? = some x) (hv : Vis C.X.env.scope x) (hi : DPE C ei fi) (hd : (x == ("__debug__" : Str)) = false := by decide) (hcd : (x == ("__classdict__" : Str)) = false := by decide)
    (ha : ∀ v, assign (.Subscript (.Name x p) ei pos) C.X.env v = (do
      let ov ← holding [v] (eval (.Name x p) C.X.env)
      let iv ← holding [v, ov] (eval ei C.X.env)
      standAt pos
      holding [v, ov, iv] (setItem ov iv v)
      release [v, ov, iv] []) := by intro _; rfl) : DPG C (.Subscript (.Name x p) ei pos) (dSetIx i fi) :=
  let ⟨_, pi, si⟩ := hi.ex
  ⟨_, pg_sub (pe_var hN hv hd hcd) pi set_list ha, fun σ H ρ vs τ v t Qd Q I na q k => by
    obtain ⟨d, ed, q⟩ := wD_some q
    obtain ⟨ds0, e0, q⟩ := slot_own q
    obtain ⟨l, zs, hv, hz, _, _⟩ := SS.mut (xs := []) (ts := []) (by simpa using I) I.ltE e0
    refine ⟨.ref l, hv, si σ H ρ _ _ _ _ I q fun w H1 y ρ1 I1 q1 => ?_⟩
    obtain ⟨ds, e1, q2⟩ := slot_own q1
    obtain ⟨n, en, q3⟩ := wI_some q2
    obtain ⟨j, ej, q4⟩ := wO_some q3
    have wv := (I1.lk1 en).int_eq
    subst wv
    have I2 : SS C σ H1 ρ1 (vs ++ [v, .int n]) (τ ++ [t, y]) := by simpa using I1
    obtain ⟨l', zs', hv', hz', hlen, mk⟩ := I2.mut (I2.lenA rfl) e1
    rw [hv] at hv'
    cases hv'
    refine ⟨l, zs', n, j, rfl, rfl, hz', by rw [hlen]; exact ej, ?_⟩
    have I3 := mk (ds.set j d) (zs'.set j v) [] [] fun B' a b => ⟨a.set j (b 0 t v d rfl rfl ed), .nil⟩
    exact k _ _ _ (by simpa using I3) q4⟩
end
end Ds
namespace Ds
open PySem L2
def tyD : D → String
  | .none => "NoneType"
  | .bool _ => "bool"
  | .int _ => "int"
  | .str _ => "str"
  | .list _ => "list"
  | .tuple _ => "tuple"
  | .dict _ => "dict"
def isT (u : String) : String → Bool
  | "int" => u == "int" || u == "bool"
  | T => u == T
theorem tyD_mem (d : D) : tyD d ∈ ["NoneType", "bool", "int", "str", "list", "tuple", "dict"] := by cases d <;> simp [tyD]
theorem kitB_all : ∀ T ∈ ["bool", "int", "str", "list", "tuple", "dict"], ∀ u ∈ ["NoneType", "bool", "int", "str", "list", "tuple", "dict"], kitB u T = some (isT u T) := by decide +kernel
theorem kit_is {T : String} (hT : T ∈ ["bool", "int", "str", "list", "tuple", "dict"]) (d : D) {K : PySem.W.Frag} : PySem.W.kitOne K (.type (tyD d)) (.type T) = some (isT (tyD d) T) := kit_ty (kitB_all T hT _ (tyD_mem d))
theorem DIs.tyx {K : PySem.W.Frag} {B : Addr → Prop} {H : Hp} {d : D} {v : V} (h : DIs K B H d v) : TyX K H v (.type (tyD d)) := by
  cases h with
  | none => exact .base .non
  | bool b => exact .base (.bl b)
  | int i => exact .base (.int i)
  | str x => exact .base (.str x)
  | list e _ _ => exact .base (.lst e)
  | tuple e _ =>
    rcases e with ⟨⟨o, e, _⟩, _⟩ | ⟨o, its, n, e, c, _⟩
    · exact .fTuple e
    · exact .kTuple e c
  | dict e _ _ _ => exact .base (.dK e)
def dIsi (Ts : List String) (fe : DE) : DE := fun ρ Q => fe ρ fun x ρ1 => wD (lk ρ1 x) fun d => Q (.dat (.bool (Ts.any fun T => isT (tyD d) T))) ρ1
section
variable {C : Ctx} {e : Expr} {fe : DE} {p p1 p2 pos tpos : Pos} {x y z : Str} {T U : String}
theorem de_isi (hg : Gl C.X "isinstance") (hm : C.X.mg "isinstance" = none) (he : DPE C e fe) (hgT : Gl C.X x) (hmT : C.X.mg x = none) (hT : T ∈ ["bool", "int", "str", "list", "tuple", "dict"]) (hv : bootBuiltins x = some (.type T)) (hn : x ≠ "__name__" := by decide) (hd : (x == ("__debug__" : Str)) = false := by decide)
    (hs : starEach [e, .Name x p1] C.X.env = (false, eval e C.X.env) :: starEach [.Name x p1] C.X.env := by rfl) (hs2 : starEach [.Name x p1] C.X.env = (false, eval (.Name x p1) C.X.env) :: starEach [] C.X.env := by rfl) (hpl : (backTo pos (starEach [.Name x p1] C.X.env)).any (·.1) = false := by rfl) :
    DPE C (.Call (.Name "isinstance" p) [e, .Name x p1] [] pos) (dIsi [T] fe) :=
  let ⟨_, pe, se⟩ := he.ex
  ⟨_, pe_callB call_isi hg hm PyProof.Rows.boot_isinstance (pa_cons pe (pa_cons (pe_bltn hgT hmT hv (v := .ty T) rfl hn hd) pa_nil hs2) hs) (by decide) (by decide) hs hpl, fun σ H ρ vs τ Qd Q I h k => se σ H ρ vs τ _ _ I h fun v H1 t ρ1 I1 q => by
    obtain ⟨d, ed, q⟩ := wD_some q
    refine ⟨v, .ty T, _, _, isT (tyD d) T, rfl, .ty T, (I1.lk1 ed).tyx, kit_is hT d, ?_⟩
    exact k _ _ _ _ (I1.pop.bool _) (by simpa using q)⟩
theorem de_isi2 {kk : Nat} (hg : Gl C.X "isinstance") (hm : C.X.mg "isinstance" = none) (he : DPE C e fe) (hgT : Gl C.X x) (hmT : C.X.mg x = none) (hT : T ∈ ["bool", "int", "str", "list", "tuple", "dict"]) (hv : bootBuiltins x = some (.type T))
    (hgU : Gl C.X y) (hmU : C.X.mg y = none) (hU : U ∈ ["bool", "int", "str", "list", "tuple", "dict"]) (hvU : bootBuiltins y = some (.type U))
    (hn : x ≠ "__name__" := by decide) (hd : (x == ("__debug__" : Str)) = false := by decide) (hn2 : y ≠ "__name__" := by decide) (hd2 : (y == ("__debug__" : Str)) = false := by decide)
    (hsx : starEach [.Name x p1, .Name y p2] C.X.env = (false, eval (.Name x p1) C.X.env) :: starEach [.Name y p2] C.X.env := by rfl) (hsy : starEach [.Name y p2] C.X.env = (false, eval (.Name y p2) C.X.env) :: starEach [] C.X.env := by rfl)
    (hs : starEach [e, .Tuple [.Name x p1, .Name y p2] kk tpos] C.X.env = (false, eval e C.X.env) :: starEach [.Tuple [.Name x p1, .Name y p2] kk tpos] C.X.env := by rfl)
    (hs2 : starEach [.Tuple [.Name x p1, .Name y p2] kk tpos] C.X.env = (false, eval (.Tuple [.Name x p1, .Name y p2] kk tpos) C.X.env) :: starEach [] C.X.env := by rfl)
    (hpl : (backTo pos (starEach [.Tuple [.Name x p1, .Name y p2] kk tpos] C.X.env)).any (·.1) = false := by rfl) :
    DPE C (.Call (.Name "isinstance" p) [e, .Tuple [.Name x p1, .Name y p2] kk tpos] [] pos) (dIsi [T, U] fe) :=
  let ⟨_, pe, se⟩ := he.ex
  ⟨_, pe_callB call_isiT hg hm PyProof.Rows.boot_isinstance (pa_cons pe (pa_cons (pe_tup (pa_cons (pe_bltn hgT hmT hv (v := .ty T) rfl hn hd) (pa_cons (pe_bltn hgU hmU hvU (v := .ty U) rfl hn2 hd2) pa_nil hsy) hsx)) pa_nil hs2) hs) (by decide) (by decide) hs hpl, fun σ H ρ vs τ Qd Q I h k => se σ H ρ vs τ _ _ I h fun v H1 t ρ1 I1 q => by
    obtain ⟨d, ed, q⟩ := wD_some q
    refine ⟨by show 2 ≤ sizeLine; decide, fun tp htp => ?_⟩
    have ty := (I1.lk1 ed).tyx
    have ty2 : TyX C.K (upd H1 tp (.tup [.ty T, .ty U])) v (.type (tyD d)) := by
      have r := (I1.lk1 ed).move (H' := upd H1 tp (.tup [.ty T, .ty U])) (B' := N0) fun b o e _ => ⟨same_upd htp b o e, id⟩
      exact r.tyx
    refine ⟨v, tp, [.ty T, .ty U], _, [.type T, .type U], isT (tyD d) T || isT (tyD d) U, rfl, upd_same, .cons (.ty T) (.cons (.ty U) .nil), ty2, ?_, ?_⟩
    · refine kitAny_cons (kit_is hT d) (fun h1 => kitAny_cons (kit_is hU d) (fun h2 => by rw [h1, h2]; exact kitAny_nil) (fun h2 => by rw [h1, h2]; rfl)) (fun h1 => by rw [h1]; rfl)
    · exact k _ _ _ _ (I1.pop.push (v := .bl _) (t := .dat (.bool _)) [] (same_upd htp) (fun _ _ _ _ _ _ _ => .dat (.bool _)) List.nodup_nil (fun _ z => by simp at z) fun _ z => by simp at z) (by simpa using q)⟩
end
def dTupOf : DOn := fun ρ ts Q => match ts with
  | [x] => match dr ρ x with
    | .scr ns => Q (.dat (.tuple (ns.map .int))) ρ
    | .dat (.tuple ds) => Q (.dat (.tuple ds)) ρ
    | .bor (.tuple ds) => Q (.bor (.tuple ds)) ρ
    | .bor (.list ds) => Q (.bor (.tuple ds)) ρ
    | t => wL t fun ds => Q (.dat (.tuple ds)) ρ
  | _ => False
def dLstOf : DOn := fun ρ ts Q => match ts with
  | [x] => match dr ρ x with
    | .scr ns => Q (.own (ns.map .int)) ρ
    | .dat (.tuple ds) => Q (.own ds) ρ
    | .bor (.tuple ds) => match safeL ds with
      | true => Q (.own ds) ρ
      | false => Q (.lbo ds) ρ
    | .bor (.list ds) => match safeL ds with
      | true => Q (.own ds) ρ
      | false => Q (.lbo ds) ρ
    | t => wL t fun ds => Q (.own ds) ρ
  | _ => False
section
variable {C : Ctx} {e : Expr} {fs : DA} {p pos : Pos}
theorem sim_tupOf : SimC C (fun xs H Q => ∃ p ys, xs = [.ref p] ∧ ((SqL C.K H p ys ∧ ∀ l ob, H l = none → ob.dict = none → Q (.ref l) (upd H l (.frz ob (.tup ys)))) ∨ (SqT C.K H p ys ∧ Q (.ref p) H))) dTupOf := by
  intro σ H ρ vs τ xs ts Qd Q I hl hτ q k
  unfold dTupOf at q
  split at q
  · rename_i x
    obtain ⟨v, rfl⟩ := len1 hl
    obtain ⟨ow, J⟩ := id I
    rcases J.dr1 with z | ⟨os, r⟩
    · rw [z] at q; exact q.elim
    · generalize Ds.dr ρ x = t at q r
      have J' : SI C σ H ρ (vs ++ [v]) (τ ++ [x]) ow := J
      have gen : Ds.wL t (fun ds => Qd (.dat (.tuple ds)) ρ) → ∃ p ys, [v] = [.ref p] ∧ ((SqL C.K H p ys ∧ ∀ l ob, H l = none → ob.dict = none → Q (.ref l) (upd H l (.frz ob (.tup ys)))) ∨ (SqT C.K H p ys ∧ Q (.ref p) H)) := fun q => by
        obtain ⟨l, zs, ds, rfl, e, t, q⟩ := J.wL r q
        exact ⟨l, zs, rfl, .inl ⟨.of e, fun p ob hp hd => k _ _ _ _ (J.newT hτ hp hd t) q⟩⟩
      cases r with
      | scr e => exact ⟨_, _, rfl, .inl ⟨e.sq, fun p ob hp hd => k _ _ _ _ (J.newT hτ hp hd ints_is) q⟩⟩
      | dat d =>
        cases d with
        | tuple e t => exact ⟨_, _, rfl, .inr ⟨e.sq, k _ _ _ _ (J.oneD hτ (.tuple e t)) q⟩⟩
        | list e n t => exact gen q
        | _ => exact q.elim
      | bor d =>
        cases d with
        | tuple e t => exact ⟨_, _, rfl, .inr ⟨e.sq, k _ _ _ _ (J.oneB hτ (.tuple e t)) q⟩⟩
        | list e n t => exact ⟨_, _, rfl, .inl ⟨.of e, fun p ob hp hd => k _ _ _ _ (J.newTB hτ hp hd t) q⟩⟩
        | _ => exact q.elim
      | own e t => exact gen q
      | lbo e t => exact gen q
      | lst e t => exact gen q
      | _ => exact q.elim
  · exact q.elim
theorem de_tupOf (hg : Gl C.X "tuple") (hm : C.X.mg "tuple" = none) (ha : DPA C [e] fs) (he : starEach [e] C.X.env = [(false, eval e C.X.env)] := by rfl) : DPE C (.Call (.Name "tuple" p) [e] [] pos) (dCB dTupOf fs) :=
  de_callTy call_tupleF sim_tupOf hg hm PyProof.Rows.boot_tuple ha (by decide) (by decide) he
end
end Ds
namespace Ds
open PySem L2
variable {X : Cx} {pins : List (Addr × Obj)} {σ : St} {H : Hp} {s : Shared} {B : Addr → Prop}
def Tells (P : Program) (w : World) (h : Heap) (u : Value) (d : D) : Prop := ∃ as, Reads h u d as ∧ (d.showable = true → d.shown.length ≤ sizeLine → ∃ bs, ReadAtMost h d.depth bs ∧ ReprK P w bs h d.depth u d.shown)
def TellsL (P : Program) (w : World) (h : Heap) (us : List Value) (ds : List D) : Prop := ∃ as, ReadsAll h us ds as ∧ (PyData.showableAll ds = true → (∀ t ∈ PyData.shownAll ds, t.length ≤ sizeLine) → ∃ bs, ReadAtMost h (PyData.depthAll ds) bs ∧ ReprAllK P w bs h (PyData.depthAll ds) us (PyData.shownAll ds))
section
variable {P : Program} {w : World} {h : Heap} {u : Value} {us : List Value} {d : D} {ds : List D}
theorem tells_leaf {as : List Addr} (r : Reads h u d as) (q : d.showable = true → d.shown.length ≤ sizeLine → ReprIs P w u d.shown) : Tells P w h u d :=
  ⟨as, r, fun a b => ⟨[], (fun _ z => nomatch z), .of_is (q a b) _ _ _⟩⟩
theorem tells_nil : TellsL P w h [] [] := ⟨[], .nil, fun _ _ => ⟨[], (fun _ z => nomatch z), by simp only [PyData.shownAll]; exact .nil⟩⟩
theorem tells_cons (a : Tells P w h u d) (b : TellsL P w h us ds) : TellsL P w h (u :: us) (d :: ds) := by
  obtain ⟨as1, r1, q1⟩ := a
  obtain ⟨as2, r2, q2⟩ := b
  refine ⟨as1 ++ as2, .cons r1 r2, fun sh len => ?_⟩
  rw [PyData.showableAll, Bool.and_eq_true] at sh
  rw [PyData.shownAll] at len
  obtain ⟨b1, m1, k1⟩ := q1 sh.1 (len _ (List.mem_cons_self ..))
  obtain ⟨b2, m2, k2⟩ := q2 sh.2 fun t ht => len t (List.mem_cons_of_mem _ ht)
  rw [PyData.depthAll, PyData.shownAll]
  have l1 : d.depth ≤ max d.depth (PyData.depthAll ds) := Nat.le_max_left ..
  have l2 : PyData.depthAll ds ≤ max d.depth (PyData.depthAll ds) := Nat.le_max_right ..
  exact ⟨b1 ++ b2, (m1.mono l1).append (m2.mono l2), .cons ((k1.more fun _ z => List.mem_append_left _ z).level_le l1) (k2.more_le (fun _ z => List.mem_append_right _ z) l2)⟩
theorem listText0 {ds : List D} (h : PyData.shownAll ds = []) : listText (PyData.shownAll ds) = "[]" := by rw [h]; exact listText_nil
structure LstAt (h : Heap) (a : Addr) (us : List Value) : Prop where
  ex : ∃ o n, h.get? a = some o ∧ o.cls = .type "list" ∧ o.data = .seq us.toArray n
theorem tells_list {a : Addr} (at_ : LstAt h a us) (q : TellsL P w h us ds) : Tells P w h (.ref a) (.list ds) := by
  obtain ⟨o, n, e1, e2, e3⟩ := at_.ex
  obtain ⟨as, rd, q⟩ := q
  have r : Reads h (.ref a) (.list ds) (a :: as) := .list e1 e2 e3 rd
  refine ⟨_, r, fun sh len => ?_⟩
  rw [PyData.showable] at sh
  rw [PyData.shown] at len
  obtain ⟨bs, m, k⟩ := q sh fun t ht => Nat.le_trans (listText_mem_le ht) len
  have lt : PyData.depthAll ds < (PyData.list ds).depth := by rw [PyData.depth]; omega
  refine ⟨a :: bs, ReadAtMost.cons r (Nat.le_of_lt lt) m, ?_⟩
  rw [PyData.depth, PyData.shown]
  match us, k with
  | [], k =>
    cases rd
    rw [listText0 rfl]
    exact .listEmpty e1 e2 e3
  | u :: us, k => exact .list e1 e2 e3 (not_mem_of_deeper r lt m) (by simpa using k.length_eq) fun i y e => k.item i y (by simpa using e)
theorem tells_tuple {a : Addr} {o : Obj} {n : Nat} (e1 : h.get? a = some o) (e2 : o.cls = .type "tuple") (e3 : o.data = .seq us.toArray n) (q : TellsL P w h us ds) : Tells P w h (.ref a) (.tuple ds) := by
  obtain ⟨as, rd, q⟩ := q
  have r : Reads h (.ref a) (.tuple ds) as := .tuple e1 e2 e3 rd
  refine ⟨_, r, fun sh len => ?_⟩
  rw [PyData.showable] at sh
  rw [PyData.shown] at len
  obtain ⟨bs, m, k⟩ := q sh fun t ht => Nat.le_trans (tupleText_mem_le ht) len
  have lt : PyData.depthAll ds < (PyData.tuple ds).depth := by rw [PyData.depth]; omega
  refine ⟨a :: bs, ReadAtMost.cons r (Nat.le_of_lt lt) m, ?_⟩
  rw [PyData.depth, PyData.shown]
  exact .tuple e1 e2 e3 (not_mem_of_deeper r lt m) k
structure DctAt (P : Program) (w : World) (h : Heap) (a : Addr) (kvs : List (D × D)) : Prop where
  ex : ∃ o es n, h.get? a = some o ∧ o.cls = .type "dict" ∧ o.data = .dict es n ∧ (a == sysModules) = false ∧ TellsL P w h (es.toList.map (·.key)) (kvs.map (·.1)) ∧ TellsL P w h (es.toList.map (·.val)) (kvs.map (·.2))
theorem dct_parts {a : Addr} {kvs : List (D × D)} (c : DctAt P w h a kvs) : ∃ (o : Obj) (es : Array DictEntry) (n : Nat) (as : List Addr), h.get? a = some o ∧ o.cls = .type "dict" ∧ o.data = .dict es n ∧ (a == sysModules) = false ∧ Reads h (.ref a) (.dict kvs) as ∧
    ((PyData.dict kvs).showable = true → (PyData.dict kvs).shown.length ≤ sizeLine → ∃ bs, ReadAtMost h (PyData.depthKv kvs) bs ∧ a ∉ bs ∧ ReprEntriesK P w bs h (PyData.depthKv kvs) es.toList (PyData.shownKv kvs)) := by
  obtain ⟨o, es, n, e1, e2, e3, e4, ⟨as1, r1, q1⟩, ⟨as2, r2, q2⟩⟩ := c.ex
  have r : Reads h (.ref a) (.dict kvs) (a :: as1 ++ as2) := .dict e1 e2 e3 r1 r2
  refine ⟨o, es, n, _, e1, e2, e3, e4, r, fun sh len => ?_⟩
  rw [PyData.showable] at sh
  rw [PyData.shown] at len
  obtain ⟨s1, s2⟩ := PyData.showableKv_split kvs sh
  obtain ⟨b1, m1, k1⟩ := q1 s1 fun t ht => by
    obtain ⟨p, hp, hl⟩ := PyData.shownKv_key_le kvs t ht
    exact Nat.le_trans hl (Nat.le_trans (dictText_mem_le hp) len)
  obtain ⟨b2, m2, k2⟩ := q2 s2 fun t ht => by
    obtain ⟨p, hp, hl⟩ := PyData.shownKv_val_le kvs t ht
    exact Nat.le_trans hl (Nat.le_trans (dictText_mem_le hp) len)
  have m := (m1.mono (PyData.depthAll_keys_le kvs)).append (m2.mono (PyData.depthAll_vals_le kvs))
  have lt : PyData.depthKv kvs < (PyData.dict kvs).depth := by rw [PyData.depth]; omega
  refine ⟨b1 ++ b2, m, not_mem_of_deeper r lt m, ?_⟩
  rw [PyData.shownKv_eq]
  exact ReprEntriesK.of_two es.toList _ _ (k1.more_le (fun _ z => List.mem_append_left _ z) (PyData.depthAll_keys_le kvs)) (k2.more_le (fun _ z => List.mem_append_right _ z) (PyData.depthAll_vals_le kvs))
theorem tells_dict {a : Addr} {kvs : List (D × D)} (c : DctAt P w h a kvs) : Tells P w h (.ref a) (.dict kvs) := by
  obtain ⟨o, es, n, as, e1, e2, e3, e4, r, q⟩ := dct_parts c
  refine ⟨as, r, fun sh len => ?_⟩
  obtain ⟨bs, m, na, k⟩ := q sh len
  have lt : PyData.depthKv kvs < (PyData.dict kvs).depth := by rw [PyData.depth]; omega
  refine ⟨a :: bs, ReadAtMost.cons r (Nat.le_of_lt lt) m, ?_⟩
  rw [PyData.depth, PyData.shown]
  exact .dict e1 e2 e3 e4 na k
end
theorem key_tell {P : Program} {w : World} {h : Heap} {k : Key} {u : Value} (hk : keyIs k u = true) : Tells P w h u (kD k) := by
  rcases keyIs_shape hk with ⟨i, t, rfl, rfl⟩ | ⟨x, t, rfl, rfl⟩
  · exact tells_leaf (.int i t) fun sh _ => ReprIs.int t (by simp only [kD, PyData.showable] at sh; exact of_decide_eq_true sh)
  · exact tells_leaf (.str x t) fun _ len => ReprIs.str x t (by simp only [kD, PyData.shown] at len; exact len)
theorem keys_tell {P : Program} {w : World} {h : Heap} {es : List DictEntry} {kvs : List (Key × V)} {vs : List (Key × Value)} (a : KV kvs vs) (b : Pairs (mixKind P w) es vs) : TellsL P w h (es.map (·.key)) (kvs.map fun p => kD p.1) ∧ Vals (kvs.map (·.2)) (es.map (·.val)) := by
  induction b generalizing kvs with
  | nil => cases a; exact ⟨tells_nil, .nil⟩
  | cons hk hv rs ih =>
    cases a with
    | cons p r =>
      obtain ⟨i1, i2⟩ := ih r
      refine ⟨tells_cons ?_ i1, .cons ?_ i2⟩
      · dsimp only; rw [p.1]; exact key_tell hk
      · dsimp only; rw [hv]; exact p.2
theorem zip_fst {α β : Type} : ∀ {as : List α} {bs : List β}, as.length = bs.length → (as.zip bs).map (·.1) = as ∧ (as.zip bs).map (·.2) = bs
  | [], [], _ => ⟨rfl, rfl⟩
  | a :: as, b :: bs, h => by
    obtain ⟨h1, h2⟩ := zip_fst (as := as) (bs := bs) (by simpa using h)
    simp only [List.zip_cons_cons, List.map_cons, h1, h2, and_self]
mutual
theorem DIs.tells (I : Inv X pins σ H s) : ∀ {d : D} {v : V} {u : Value}, DIs X.K B H d v → RelV v u → Tells X.prog X.w s.heap u d
  | _, _, _, .none, r => by cases r; exact tells_leaf .none fun _ _ => ReprIs.none
  | _, _, _, .bool b, r => by cases r; exact tells_leaf (.bool b) fun _ _ => ReprIs.bool b
  | _, _, _, .int i, r => by
    obtain ⟨t, rfl⟩ := r
    exact tells_leaf (.int i t) fun sh _ => ReprIs.int t (by rw [PyData.showable] at sh; exact of_decide_eq_true sh)
  | _, _, _, .str x, r => by
    obtain ⟨t, rfl⟩ := r
    exact tells_leaf (.str x t) fun _ len => ReprIs.str x t (by rw [PyData.shown] at len; exact len)
  | _, _, _, .list e n t, r => by
    cases r
    obtain ⟨its, rv, ⟨o, m, ho, hc, _, hd⟩, _⟩ := I.list (SqL.of e)
    exact tells_list ⟨o, m, ho, hc, hd⟩ (DIsL.tells I t rv)
  | _, _, _, .tuple e t, r => by
    cases r
    obtain ⟨its, rv, ⟨o, ho, hc, m, hd⟩, _⟩ := I.tuple e.sq
    exact tells_tuple ho hc hd (DIsL.tells I t rv)
  | _, _, _, .dict (kvs := kvs) (ds := ds) e n t q, r => by
    cases r
    obtain ⟨_, sy, vs, rel, o, es, m, ho, hc, hd, _, pr, _⟩ := dk_of I.hok e
    have hl : (kvs.map fun p => kD p.1).length = ds.length := by have := t.length; simpa using this.symm
    obtain ⟨z1, z2⟩ := zip_fst hl
    refine tells_dict ⟨o, es, m, ho, hc.1, hd, sy, ?_, ?_⟩
    · rw [q, z1]; exact (keys_tell rel pr).1
    · rw [q, z2]; exact DIsL.tells I t (keys_tell (h := s.heap) rel pr).2
theorem DIsL.tells (I : Inv X pins σ H s) : ∀ {ds : List D} {vs : List V} {us : List Value}, DIsL X.K B H ds vs → Vals vs us → TellsL X.prog X.w s.heap us ds
  | _, _, _, .nil, .nil => tells_nil
  | _, _, _, .cons a b, .cons r rs => tells_cons (DIs.tells I a r) (DIsL.tells I b rs)
end
theorem call_reprD (hgd : X.A.guards = some []) (hu : X.A.units + 64 < cLine) : CallR X (.builtin "repr") (fun xs H Q => ∃ v d, xs = [v] ∧ DIs X.K N0 H d v ∧ d.showable = true ∧ d.shown.length ≤ sizeLine ∧ d.depth < 60 ∧ Q (.str d.shown) H) := by
  intro pins s σ H xs us Q I r h
  obtain ⟨v, d, rfl, dv, sh, len, dp, q⟩ := h
  obtain ⟨u, rfl, ru⟩ := r.one
  have fin : ∀ h' u tk, (∀ b o, s.heap.get? b = some o → h'.get? b = some o) → EP X pins σ Q (.str d.shown u) { s with heap := h', toks := tk } := fun h' t tk keep => ⟨.str d.shown, H, I.kept keep, ⟨t, rfl⟩, q⟩
  have fin0 : ∀ t tk, EP X pins σ Q (.str d.shown t) { s with toks := tk } := fun t tk => ⟨.str d.shown, H, I.tok tk, ⟨t, rfl⟩, q⟩
  have hu1 : X.A.units + 1 < cLine := by omega
  cases dv with
  | none =>
    cases ru
    rw [PyData.shown] at fin0
    exact PySem.P.repr_of_none (fin0 _ _)
  | bool b =>
    cases ru
    rw [PyData.shown] at fin0
    exact PySem.P.repr_of_bool (fin0 _ _)
  | int i =>
    obtain ⟨t, rfl⟩ := ru
    rw [PyData.shown] at fin0
    rw [PyData.showable] at sh
    exact PySem.P.repr_of_int (of_decide_eq_true sh) (fin0 _ _)
  | str x =>
    obtain ⟨t, rfl⟩ := ru
    rw [PyData.shown] at fin0 len
    exact PySem.P.repr_of_str (fin0 _ _) len
  | @list a zs ds e n t =>
    cases ru
    obtain ⟨its, rv, ⟨o, m, ho, hc, _, hd⟩, _⟩ := I.list (SqL.of e)
    obtain ⟨as, rd, q2⟩ := DIsL.tells I t rv
    rw [PyData.showable] at sh
    rw [PyData.shown] at len fin
    rw [PyData.depth] at dp
    obtain ⟨bs, m1, k⟩ := q2 sh fun t ht => Nat.le_trans (listText_mem_le ht) len
    have rr : Reads s.heap (.ref a) (.list ds) (a :: as) := .list ho hc hd rd
    have lt : PyData.depthAll ds < (PyData.list ds).depth := by rw [PyData.depth]; omega
    refine call_repr_slot hu1 ⟨o, ho, hc⟩ F.slot_list_repr.toG ?_
    match its, k with
    | [], k =>
      cases rd
      rw [listText0 rfl] at fin
      exact call_list_repr_empty ⟨o, ho, hc⟩ ho hd ⟨_, _, rfl, fin s.heap _ _ fun _ _ z => z⟩
    | u :: us, k =>
      exact call_list_reprK ho hc hd (not_mem_of_deeper rr lt m1) (by simpa using k.length_eq) (fun i y e => k.item i y (by simpa using e)) hgd (fun b _ => Clear.nil b) (by show X.A.units + 1 + (PyData.depthAll ds + 1) < cLine; omega) (fun _ _ z => z) (fun h' u tk keep => ⟨_, _, rfl, fin h' u tk keep⟩) len
  | @tuple a zs ds e t =>
    cases ru
    obtain ⟨its, rv, ⟨o, ho, hc, m, hd⟩, _⟩ := I.tuple e.sq
    obtain ⟨as, rd, q2⟩ := DIsL.tells I t rv
    rw [PyData.showable] at sh
    rw [PyData.shown] at len fin
    rw [PyData.depth] at dp
    obtain ⟨bs, m1, k⟩ := q2 sh fun t ht => Nat.le_trans (tupleText_mem_le ht) len
    have rr : Reads s.heap (.ref a) (.tuple ds) as := .tuple ho hc hd rd
    have lt : PyData.depthAll ds < (PyData.tuple ds).depth := by rw [PyData.depth]; omega
    refine call_repr_slot hu1 ⟨o, ho, hc⟩ F.slot_tuple_repr ?_
    exact call_tuple_reprK ho hc hd (not_mem_of_deeper rr lt m1) k hgd (fun b _ => Clear.nil b) (by show X.A.units + 1 + (PyData.depthAll ds + 1) < cLine; omega) (fun _ _ z => z) (fun h' u tk keep => ⟨_, _, rfl, fin h' u tk keep⟩) len
  | @dict a kvs ds ps e n t z =>
    cases ru
    obtain ⟨_, sy, vs, rel, o, es, m, ho, hc, hd, _, pr, _⟩ := dk_of I.hok e
    have hl : (kvs.map fun p => kD p.1).length = ds.length := by have := t.length; simpa using this.symm
    obtain ⟨z1, z2⟩ := zip_fst hl
    have c : DctAt X.prog X.w s.heap a ps := ⟨o, es, m, ho, hc.1, hd, sy, (by rw [z, z1]; exact (keys_tell rel pr).1), (by rw [z, z2]; exact DIsL.tells I t (keys_tell (h := s.heap) rel pr).2)⟩
    obtain ⟨o, es, m, as, ho, hc, hd, sy, rr, q2⟩ := dct_parts c
    obtain ⟨bs, m1, na, k⟩ := q2 sh len
    rw [PyData.shown] at len fin
    rw [PyData.depth] at dp
    refine call_repr_slot hu1 ⟨o, ho, hc⟩ F.slot_dict_repr ?_
    exact call_dict_reprK ho hc hd sy na k hgd (fun b _ => Clear.nil b) (by show X.A.units + 1 + (PyData.depthKv ps + 1) < cLine; omega) (fun _ _ z => z) (fun h' u tk keep => ⟨_, _, rfl, fin h' u tk keep⟩) len
def dRepr : DOn := fun ρ ts Q => match ts with
  | [x] => wD (lk ρ x) fun d => d.showable = true ∧ d.shown.length ≤ sizeLine ∧ d.depth < 60 ∧ Q (.dat (.str d.shown)) ρ
  | _ => False
section
variable {C : Ctx} {p pos : Pos} {e : Expr} {fs : DA} {k : Nat}
theorem sim_repr : SimC C (fun xs H Q => ∃ v d, xs = [v] ∧ DIs C.K N0 H d v ∧ d.showable = true ∧ d.shown.length ≤ sizeLine ∧ d.depth < 60 ∧ Q (.str d.shown) H) dRepr := by
  intro σ H ρ vs τ xs ts Qd Q I hl hτ q k
  unfold dRepr at q
  split at q
  · obtain ⟨v, rfl⟩ := len1 hl
    obtain ⟨d, ed, h1, h2, h3, q⟩ := wD_some q
    exact ⟨v, d, rfl, I.lk1 ed, h1, h2, h3, k _ _ _ _ (I.pop.str _) q⟩
  · exact q.elim
theorem de_repr (hr : RoomG k C.X.A) (hk : 100 ≤ k) (hg : Gl C.X "repr") (hm : C.X.mg "repr" = none) (ha : DPA C [e] fs) (he : starEach [e] C.X.env = [(false, eval e C.X.env)] := by rfl) : DPE C (.Call (.Name "repr" p) [e] [] pos) (dCB dRepr fs) :=
  de_callB (call_reprD (hr.gd hk) hr.units) sim_repr hg hm PyProof.Rows.boot_repr ha (by decide) (by decide) he
end
end Ds
namespace Ds
open PySem L2
section
variable {C : Ctx} {pos : Pos}
theorem SS.newD {σ : St} {H : Hp} {ρ : List T} {vs : List V} {τ : List T} (I : SS C σ H ρ vs τ) {p : Addr} (hp : H p = none) {kvs : List (Key × V)} {ds : List D} (h : ds.map sv = kvs.map fun q => some q.2) : SS C σ (upd H p (.dK kvs)) ρ (vs ++ [.ref p]) (τ ++ [.dct ((kvs.map (·.1)).zip ds)]) := by
  refine I.push [p] (same_upd hp) (fun ow ow' J m1 m2 nb _ => ?_) (by simp) (fun a ha => by simp at ha; rw [ha]; exact hp) (fun a ha => by simp at ha; subst ha; exact ⟨_, upd_same, trivial⟩)
  refine .dct upd_same ?_ rfl
  have go : ∀ {ds : List D} {zs : List V}, ds.map sv = zs.map some → DIsL C.K (Bar C ow') (upd H p (.dK kvs)) ds zs := by
    intro ds
    induction ds with
    | nil => intro zs e; cases zs with
      | nil => exact .nil
      | cons z zs => simp at e
    | cons d ds ih => intro zs e; cases zs with
      | nil => simp at e
      | cons z zs =>
        simp only [List.map_cons, List.cons.injEq] at e
        exact .cons (sv_is e.1) (ih e.2)
  exact go (by rw [h, List.map_map]; rfl)
def dDct (ps : List (Key × D)) : DE := fun ρ Q => Q (.dct ps) ρ
theorem de_dict0 : DPE C (.Dict [] [] pos) (dDct []) :=
  ⟨_, pe_dnewK, fun σ H ρ vs τ Qd Q I q k p hp => k _ _ _ _ (I.newD (kvs := []) (ds := []) hp rfl) q⟩
end
section
variable {C : Ctx} {elt tge iter : Expr} {ifs : List Expr} {scope : Scope} {own : List (Str × Nat)} {pos py spos : Pos} {fi : DI} {tt : DTt} {fe : DE} {tg : Tgt} {i : Nat} {y : Str}
theorem ds_setLc (hc : C.X.calm = true) (hN : C.X.N.Nodup) (hy : C.X.N[i]? = some y) (hyl : C.X.env.scope.names.lookup y = some .local) (nl : i ∉ C.lent) (hsw : swapsWith (.ListComp elt [⟨tge, iter, ifs, 0⟩] scope pos) (some (.Name y py)) spos.line C.X.env = pure true)
    (hi : DPI C tge iter fi) (ok : BlkOk C.X.N C.X.env.scope scope own) (hg : TgtOk C tge tg scope)
    (ht : ∀ (s : Shared) (H : Hp) (Cc : Addr) (cl : List (Str × Addr)) (fp : List Addr), DPTs (C.blk s H scope Cc cl fp) ifs tt) (he : ∀ (s : Shared) (H : Hp) (Cc : Addr) (cl : List (Str × Addr)) (fp : List Addr), DPE (C.blk s H scope Cc cl fp) elt fe)
    (h1 : ∀ i ∈ tg.sl, i ∈ own.map (·.2)) (h2 : ∀ i ∈ own.map (·.2), i ∉ C.lent ∧ i ∈ C.cv) (hs : ∀ x, foldedSetIterable iter C.X.env x = pure x := by intro _; rfl) :
    DPS C (.Assign [.Name y py] (.ListComp elt [⟨tge, iter, ifs, 0⟩] scope pos) spos) (dAsg (dLc fi tg.d tt fe (own.map (·.2))) (dgName i)) :=
  let ⟨_, p, s⟩ := hi.ex
  ⟨_, ps_setLc hc hN hy hyl hsw p ok (fun s H Cc cl fp => hg.pg s H Cc cl fp) (fun s H Cc cl fp => pts_der (ht s H Cc cl fp)) (fun s H Cc cl fp => pe_der (he s H Cc cl fp)) hs, sim_asg (sim_lc s h1 h2) (by
    intro σ H ρ vs τ v t Qd Q I na q k
    obtain ⟨nt, q⟩ := na_ok q
    by_cases z : i < ρ.length
    · exact k _ _ _ (I.assign z nt (.inl na) nl) q
    · refine k _ _ ρ ?_ (by rw [getElem?_of_set z] at q; exact q)
      rw [getElem?_of_set (by rw [← I.lnN]; exact z)]
      exact I.pop)⟩
end
end Ds
namespace Ds
open PySem L2
structure Has (P : Program) (w : World) (K : PySem.W.Frag) (mg : Str → Option Value) (base : Heap) (x : Str) (k : Nat) (ps : List Str) (ms : List Md) (spd : DSp) : Prop where
  ex : ∃ a fd, mg x = some (.ref a) ∧ PySem.W.keepIn K (.ref a) = true ∧ Binds K fd ps [] ∧ FnG P w K mg base k a fd ps (toSp K ps.length (lnOf ms) spd)
  mono : Mono spd
  len : ps.length = ms.length
structure HasD (P : Program) (w : World) (K : PySem.W.Frag) (mg : Str → Option Value) (base : Heap) (x : Str) (k : Nat) (ps : List Str) (ms : List Md) (dds : List D) (spd : DSp) : Prop where
  ex : ∃ a fd dvs, mg x = some (.ref a) ∧ PySem.W.keepIn K (.ref a) = true ∧ dds.map sv = dvs.map some ∧ (∃ dsv, Vals dvs dsv ∧ Binds K fd ps dsv) ∧ FnG P w K mg base k a fd ps (toSp K ps.length (lnOf (ms ++ dds.map fun _ => .dat)) spd)
  mono : Mono spd
  len : ps.length = (ms ++ dds.map fun _ => Md.dat).length
section
variable {C : Ctx} {k j : Nat} {ps : List Str} {x : Str} {p pos : Pos} {e : Expr} {es : List Expr} {fs : DA} {ms : List Md} {dds : List D} {spd : DSp}
theorem de_fn (h : Has C.X.prog C.X.w C.X.K C.X.mg C.X.base x k ps ms spd) (hr : RoomG j C.X.A) (hk : k ≤ j) (tk : DTk C) (hg : Gl C.X x) (ha : DPA C (e :: es) fs) (hdb : (x == ("__debug__" : Str)) = false := by decide)
    (he : starEach (e :: es) C.X.env = (false, eval e C.X.env) :: starEach es C.X.env := by rfl) (hpl : (backTo pos (starEach es C.X.env)).any (·.1) = false := by rfl) : DPE C (.Call (.Name x p) (e :: es) [] pos) (dCall ms spd C.Wd fs) :=
  let ⟨_, _, h1, h2, h3, h4⟩ := h.ex
  de_call h4 (hr.mono hk) h.mono h.len hg h1 h2 h3 tk ha hdb he hpl
end
structure HasC (mg : Str → Option Value) (x : Str) (v : V) : Prop where
  ex : ∃ u, mg x = some u ∧ RelV v u
theorem de_const {C : Ctx} {x : Str} {v : V} {d : D} {pos : Pos} (h : HasC C.X.mg x v) (hg : Gl C.X x) (e : sv d = some v) (hd : (x == ("__debug__" : Str)) = false := by decide) : DPE C (.Name x pos) (dC d) :=
  let ⟨_, h1, h2⟩ := h.ex
  de_glob hg h1 h2 e hd
end Ds
namespace Ds
open PySem L2
def ninB (i : Nat) : List Nat → Bool
  | [] => true
  | j :: js => !(Nat.beq i j) && ninB i js
theorem nin_of {i : Nat} : ∀ {l : List Nat}, ninB i l = true → i ∉ l
  | [], _ => by simp
  | j :: js, h => by
    simp only [ninB, Bool.and_eq_true, Bool.not_eq_true'] at h
    simp only [List.mem_cons, not_or]
    exact ⟨fun e => by rw [e, Nat.beq_refl] at h; exact absurd h.1 (by simp), nin_of h.2⟩
def ownB (lent cv : List Nat) : List Nat → Bool
  | [] => true
  | i :: is => ninB i lent && !(ninB i cv) && ownB lent cv is
theorem in_of {i : Nat} : ∀ {l : List Nat}, ninB i l = false → i ∈ l
  | [], h => by simp [ninB] at h
  | j :: js, h => by
    simp only [ninB, Bool.and_eq_false_iff, Bool.not_eq_false'] at h
    rcases h with h | h
    · exact List.mem_cons.mpr (.inl (Nat.eq_of_beq_eq_true h))
    · exact List.mem_cons_of_mem _ (in_of h)
theorem own_of {lent cv : List Nat} : ∀ {is : List Nat}, ownB lent cv is = true → ∀ i ∈ is, i ∉ lent ∧ i ∈ cv
  | [], _ => by simp
  | j :: js, h => by
    simp only [ownB, Bool.and_eq_true, Bool.not_eq_true'] at h
    intro i hi
    rcases List.mem_cons.mp hi with rfl | hi
    · exact ⟨nin_of h.1.1, in_of h.1.2⟩
    · exact own_of h.2 i hi
def blkB (N : List Str) (sc scope : Scope) (own : List (Str × Nat)) : Bool :=
  (match scope.kind with | .function => true | _ => false) &&
  (scope.names.all fun y => decide (scope.names.lookup y.1 = some y.2)) &&
  (own.all fun p => decide (N[p.2]? = some p.1)) &&
  (scope.names.all fun y => match y.2 with
    | .free => decide (sc.names.lookup y.1 = some .cell) || decide (sc.names.lookup y.1 = some .free)
    | .local => (own.map (·.1)).contains y.1 || !(N.contains y.1)
    | .cell => (own.map (·.1)).contains y.1 || !(N.contains y.1)
    | _ => true)
theorem blk_of {N : List Str} {sc scope : Scope} {own : List (Str × Nat)} (h : blkB N sc scope own = true) : BlkOk N sc scope own := by
  simp only [blkB, Bool.and_eq_true, List.all_eq_true, decide_eq_true_eq] at h
  obtain ⟨⟨⟨h1, h2⟩, h3⟩, h4⟩ := h
  refine ⟨?_, h2, h3, fun y hy e => ?_, fun y hy e => ?_⟩
  · cases e : scope.kind <;> rw [e] at h1 <;> first | rfl | cases h1
  · have := h4 y hy
    rw [e] at this
    simpa using this
  · have := h4 y hy
    rcases e with e | e <;> rw [e] at this <;> simpa using this
abbrev noW : Exn → List T → Prop := fun _ _ => False
structure DCmp (C : Ctx) (op : CmpOp) (b : Expr) (f : DO2) : Prop where
  ex : ∃ r, OpR C.X (compareOp op) r ∧ SimR2 C r f ∧ behindInMarks op b = false
section
variable {C : Ctx} {a b c : Expr} {fa fb fc : DE} {f : DO2} {op op' : CmpOp} {pos : Pos}
theorem dc_le : DCmp C .LtE b dLe := ⟨_, op_le, sim_fII fun H i j Qd Q q k => ⟨i, j, rfl, rfl, k _ _ rfl q⟩, nobehind _ (by decide) (by decide)⟩
theorem dc_gt : DCmp C .Gt b dGt := ⟨_, op_gt, sim_fII fun H i j Qd Q q k => ⟨i, j, rfl, rfl, k _ _ rfl q⟩, nobehind _ (by decide) (by decide)⟩
theorem dc_ge : DCmp C .GtE b dGe := ⟨_, op_ge, sim_fII fun H i j Qd Q q k => ⟨i, j, rfl, rfl, k _ _ rfl q⟩, nobehind _ (by decide) (by decide)⟩
theorem dc_eq (hu : C.X.A.units + 64 < cLine) : DCmp C .Eq b dEq := ⟨_, (sim_eqD hu).1, (sim_eqD hu).2, nobehind _ (by decide) (by decide)⟩
theorem dc_ne (hu : C.X.A.units + 64 < cLine) : DCmp C .NotEq b dNe := ⟨_, (sim_neD hu).1, (sim_neD hu).2, nobehind _ (by decide) (by decide)⟩
theorem dc_isN : DCmp C .Is b dIsN := ⟨_, op_isN, sim_pu2 fun H d e u v Qd Q du ev q k => by
    cases e <;> first | exact q.elim | skip
    refine ⟨ev.none_eq, ?_⟩
    rw [isN_eq du]
    exact k _ _ rfl q, nobehind _ (by decide) (by decide)⟩
theorem de_cmpD (h : DCmp C op b f) (ha : DPE C a fa) (hb : DPE C b fb) : DPE C (.Compare a [op] [b] pos) (dOp f fa fb) :=
  let ⟨_, h1, h2, h3⟩ := h.ex
  de_cmp h1 h2 ha hb h3
theorem sim_test {t : TE} {g : DE} (s : Sim C t g) : SimT C (tTest t) (tVal g) := fun σ H ρ vs τ Qd Q I q k => s σ H ρ vs τ _ _ I q fun v H1 x ρ1 I1 q1 => by
  obtain ⟨b, e, q1⟩ := wB_some q1
  exact ⟨b, (I1.lk1 e).bool_eq, k _ _ _ I1.pop q1⟩
theorem dt_cmpD (h : DCmp C op b f) (ha : DPE C a fa) (hb : DPE C b fb) : DPT C (.Compare a [op] [b] pos) (tVal (dOp f fa fb)) :=
  let ⟨_, h1, h2, h3⟩ := h.ex
  let ⟨_, pa, sa⟩ := ha.ex; let ⟨_, pb, sb⟩ := hb.ex
  ⟨_, pt_cmpR h1 pa pb h3, sim_test (sim_op h2 sa sb)⟩
def dIfT (t : DTt) (u v : DTt) : DTt := fun ρ Q => t ρ fun b ρ1 => br b (u ρ1 Q) (v ρ1 Q)
end
end Ds
namespace Ds
open PySem L2
def dPar (fs : DA) (gs : DGs) : DS := fun D ρ => fs ρ fun ts ρ1 => match noAliL ts with
  | true => gs ts ρ1 D.nx
  | false => False
section
variable {C : Ctx} {a b c : Expr} {fs : DA} {pos px py pz pt pt2 : Pos} {x y z : Str} {kt k2 : Nat}
theorem sim_name {i : Nat} {x : Str} (hN : C.X.N.Nodup) (hi : C.X.N[i]? = some x) (nl : i ∉ C.lent) : SimG C (gName i) (dgName i) := fun σ H ρ vs τ v t Qd Q I na q k => by
  obtain ⟨nt, q⟩ := na_ok q
  by_cases z : i < ρ.length
  · exact k _ _ _ (I.assign z nt (.inl na) nl) q
  · refine k _ _ ρ ?_ (by rw [getElem?_of_set z] at q; exact q)
    rw [getElem?_of_set (by rw [← I.lnN]; exact z)]
    exact I.pop
theorem simGs_nil : SimGs C gNil dgNil := fun σ H ρ vs τ xs ts Qd Q I hl na nt q k => by
  unfold dgNil at q
  split at q
  · have : xs = [] := List.length_eq_zero_iff.mp hl.symm
    subst this
    exact ⟨rfl, k _ _ _ (by simpa using I) q⟩
  · exact q.elim
theorem simGs_cons {g : TG} {gs : TGs} {f : DG} {fs : DGs} (s1 : SimG C g f) (s2 : SimGs C gs fs) : SimGs C (gCons g gs) (dgCons f fs) := fun σ H ρ vs τ xs ts Qd Q I hl na nt q k => by
  unfold dgCons at q
  split at q
  · rename_i t ts
    match xs, hl with
    | v :: xs, hl =>
      simp [noAliL] at nt
      refine ⟨v, xs, rfl, s1 σ H ρ (vs ++ xs) (τ ++ ts) v t _ _ (I.first (by simpa using hl)) (by rw [noAliL_append, na, nt.2]; rfl) q fun σ' H' ρ' I' q' => ?_⟩
      exact s2 σ' H' ρ' vs τ xs ts _ _ I' (by simpa using hl) na nt.2 q' k
  · exact q.elim
theorem par_ok {ts : List T} {P : Prop} (h : match noAliL ts with | true => P | false => False) : noAliL ts = true ∧ P := by
  cases e : noAliL ts with
  | false => rw [e] at h; exact h.elim
  | true => rw [e] at h; exact ⟨rfl, h⟩
theorem ds_par {i j : Nat} (hc : C.X.calm = true) (hN : C.X.N.Nodup) (hi : C.X.N[i]? = some x) (hj : C.X.N[j]? = some y) (hij : Nat.beq i j = false) (hx : C.X.env.scope.names.lookup x = some .local) (hy : C.X.env.scope.names.lookup y = some .local) (n1 : i ∉ C.lent) (n2 : j ∉ C.lent) (ha : DPA C [a, b] fs)
    (hw : swappedStores [.Tuple [.Name x px, .Name y py] kt pt] (.Tuple [a, b] k2 pt2) C.X.env = pure (some [x, y]) := by rfl)
    (hs : swapsWithSole [.Tuple [.Name x px, .Name y py] kt pt] (.Tuple [a, b] k2 pt2) pos.line C.X.env = pure false := by rfl) :
    DPS C (.Assign [.Tuple [.Name x px, .Name y py] kt pt] (.Tuple [a, b] k2 pt2) pos) (dPar fs (dgCons (dgName i) (dgCons (dgName j) dgNil))) :=
  let ⟨_, pa, sa⟩ := ha.ex
  ⟨_, ps_par hc hN hi hj (Nat.ne_of_beq_eq_false hij) hx hy pa hw hs, fun σ H ρ vs τ Dd D I na q k => sa σ H ρ vs τ _ _ I q fun xs H1 ts ρ1 I1 hl q1 => by
    obtain ⟨nt, q1⟩ := par_ok q1
    obtain ⟨v, r, rfl, w, r2, rfl, rfl, h⟩ := simGs_cons (sim_name hN hi n1) (simGs_cons (sim_name hN hj n2) simGs_nil) σ H1 ρ1 vs τ xs ts _ D.nx I1 hl na nt q1 fun σ' H' ρ' I' q' => k.nx _ _ _ I' q'
    exact ⟨v, w, rfl, h⟩⟩
theorem ds_par3 {i j l : Nat} (hc : C.X.calm = true) (hN : C.X.N.Nodup) (hi : C.X.N[i]? = some x) (hj : C.X.N[j]? = some y) (hl : C.X.N[l]? = some z) (hij : Nat.beq i j = false) (hil : Nat.beq i l = false) (hjl : Nat.beq j l = false) (hx : C.X.env.scope.names.lookup x = some .local) (hy : C.X.env.scope.names.lookup y = some .local)
    (hz : C.X.env.scope.names.lookup z = some .local) (n1 : i ∉ C.lent) (n2 : j ∉ C.lent) (n3 : l ∉ C.lent) (ha : DPA C [a, b, c] fs)
    (hw : swappedStores [.Tuple [.Name x px, .Name y py, .Name z pz] kt pt] (.Tuple [a, b, c] k2 pt2) C.X.env = pure (some [x, y, z]) := by rfl)
    (hs : swapsWithSole [.Tuple [.Name x px, .Name y py, .Name z pz] kt pt] (.Tuple [a, b, c] k2 pt2) pos.line C.X.env = pure false := by rfl) :
    DPS C (.Assign [.Tuple [.Name x px, .Name y py, .Name z pz] kt pt] (.Tuple [a, b, c] k2 pt2) pos) (dPar fs (dgCons (dgName i) (dgCons (dgName j) (dgCons (dgName l) dgNil)))) :=
  let ⟨_, pa, sa⟩ := ha.ex
  ⟨_, ps_par3 hc hN hi hj hl (Nat.ne_of_beq_eq_false hij) (Nat.ne_of_beq_eq_false hil) (Nat.ne_of_beq_eq_false hjl) hx hy hz pa hw hs, fun σ H ρ vs τ Dd D I na q k => sa σ H ρ vs τ _ _ I q fun xs H1 ts ρ1 I1 hl2 q1 => by
    obtain ⟨nt, q1⟩ := par_ok q1
    obtain ⟨v, r, rfl, w, r2, rfl, u, r3, rfl, rfl, h⟩ := simGs_cons (sim_name hN hi n1) (simGs_cons (sim_name hN hj n2) (simGs_cons (sim_name hN hl n3) simGs_nil)) σ H1 ρ1 vs τ xs ts _ D.nx I1 hl2 na nt q1 fun σ' H' ρ' I' q' => k.nx _ _ _ I' q'
    exact ⟨v, w, u, rfl, h⟩⟩
end
end Ds
namespace Ds
open PySem L2
theorem wO_i {α : Type} {o : Option α} {d : α} {k : α → Prop} (e : o = some d) (h : k d) : wO o k := by rw [e]; exact h
theorem wD_i {o : Option D} {d : D} {k : D → Prop} (e : o = some d) (h : k d) : wD o k := by rw [e]; exact h
theorem gI_nat {α : Type} {l : List α} {i : Int} {k : Nat} (e : i = (k : Int)) : gI l i = l[k]? := by subst e; rfl
theorem mul_ok {i j : Int} {a b : Nat} (h1 : i.natAbs.log2 < a) (h2 : j.natAbs.log2 < b) (h : a + b ≤ 1000000) : CMulW i j := by unfold CMulW; omega
theorem log2_lt {x : Int} {k : Nat} (h0 : 0 ≤ x) (h : x < 2 ^ k) (hk : 0 < k) : x.natAbs.log2 < k := by
  rcases Nat.eq_zero_or_pos x.natAbs with z | z
  · rw [z]; exact hk
  · rw [Nat.log2_lt (by omega)]
    have : ((2 ^ k : Nat) : Int) = (2 : Int) ^ k := by simp
    omega
theorem cut_from {α : Type} (l : List α) (k : Nat) : cut l (some (k : Int)) none = l.drop k := by
  have e : HT.sIx l.length 0 (some (k : Int)) = min k l.length := by simp [HT.sIx]; omega
  have e2 : HT.sIx l.length l.length none = l.length := by simp [HT.sIx]
  rw [cut, e, e2]
  by_cases h : k ≤ l.length
  · rw [Nat.min_eq_left h, List.take_of_length_le (by simp)]
  · rw [Nat.min_eq_right (by omega), List.drop_of_length_le (Nat.le_refl _), List.drop_of_length_le (by omega)]; simp
theorem cut_to {α : Type} (l : List α) (k : Nat) : cut l none (some (k : Int)) = l.take k := by
  have e : HT.sIx l.length l.length (some (k : Int)) = min k l.length := by simp [HT.sIx]; omega
  have e2 : HT.sIx l.length 0 none = 0 := by simp [HT.sIx]
  rw [cut, e, e2]
  by_cases h : k ≤ l.length
  · rw [Nat.min_eq_left h]; simp
  · rw [Nat.min_eq_right (by omega), List.take_of_length_le (by simp), List.take_of_length_le (by omega)]; simp
theorem canLay_ints : ∀ ns : List Int, PyData.canLayAll0 (ns.map PyData.int) = true
  | [] => rfl
  | n :: ns => by simp only [List.map_cons, PyData.canLayAll0, PyData.canLay0, canLay_ints ns, Bool.and_self]
theorem depth_ints : ∀ ns : List Int, PyData.depthAll (ns.map PyData.int) = 0
  | [] => rfl
  | n :: ns => by simp only [List.map_cons, PyData.depthAll, PyData.depth, depth_ints ns, Nat.max_self]
theorem shaped_ints (ns : List Int) : SeqAt.shaped (.list (ns.map PyData.int)) = true := by
  simp only [SeqAt.shaped, PyData.canLay0, canLay_ints, PyData.depth, depth_ints]; rfl
theorem eqv_cons_nil {a : D} {l : List D} : PyData.eqv (.list (a :: l)) (.list []) = false := by rw [PyData.eqv, PyData.eqvAll]
theorem eqv_nil_nil : PyData.eqv (.list []) (.list []) = true := by rw [PyData.eqv, PyData.eqvAll]
theorem lc_inv {g : DG} {tt : DTt} {fe : DE} {own : List Nat} {K : List D → List T → Prop} {its : List T} {ρ : List T} (Pv : Nat → List D → List T → Prop) (h0 : Pv 0 [] ρ)
    (hs : ∀ (j : Nat) (t : T) (acc : List D) (ρ : List T) (K' : List D → List T → Prop), its[j]? = some t → Pv j acc ρ → (∀ acc' ρ', Pv (j + 1) acc' ρ' → K' acc' ρ') →
      g t ρ fun ρ1 => tt ρ1 fun b ρ2 => br b (fe ρ2 fun y ρ3 => wD (frz y) fun d => acc.length < sizeLine ∧ K' (acc ++ [d]) (wipeT ρ3 own)) (K' acc (wipeT ρ2 own))) (hd : ∀ acc ρ, Pv its.length acc ρ → K acc ρ) : dLcGo g tt fe own K its [] ρ := by
  have go : ∀ (l : List T) (j : Nat) (acc : List D) (ρ : List T), its.drop j = l → Pv j acc ρ → j ≤ its.length → dLcGo g tt fe own K l acc ρ := by
    intro l
    induction l with
    | nil =>
      intro j acc ρ e p hj
      have : j = its.length := by have := congrArg List.length e; rw [List.length_drop, List.length_nil] at this; omega
      subst this
      exact hd _ _ p
    | cons t l ih =>
      intro j acc ρ e p hj
      have hj2 : j < its.length := by have := congrArg List.length e; rw [List.length_drop, List.length_cons] at this; omega
      rw [List.drop_eq_getElem_cons hj2] at e
      injection e with e1 el
      have et : its[j]? = some t := by rw [← e1]; exact List.getElem?_eq_getElem hj2
      exact hs j t acc ρ (fun acc' ρ' => dLcGo g tt fe own K l acc' ρ') et p fun acc' ρ' p' => ih (j + 1) acc' ρ' el p' hj2
  exact go its 0 [] ρ rfl h0 (Nat.zero_le _)
theorem lc_pure {i : Nat} {tt : DTt} {fe : DE} {K : List D → List T → Prop} {its : List T} {ρ : List T} (sel : T → Option D) (hw : ρ.set i .emp = ρ) (hl : its.length ≤ sizeLine)
    (he : ∀ t, t ∈ its → noAli t = true ∧ ∀ (P : T → List T → Prop) (R : List T → Prop), (∀ d y, sel t = some d → frz y = some d → P y (ρ.set i t)) → (sel t = none → R (ρ.set i t)) → tt (ρ.set i t) fun b ρ2 => br b (fe ρ2 P) (R ρ2))
    (hk : K (its.filterMap sel) ρ) : dLcGo (dgName i) tt fe [i] K its [] ρ := by
  have hset : ∀ t : T, wipeT (ρ.set i t) [i] = ρ := fun t => by
    show (ρ.set i t).set i .emp = ρ
    rw [List.set_set, hw]
  refine lc_inv (fun j acc ρ' => acc = (its.take j).filterMap sel ∧ ρ' = ρ) ⟨by simp, rfl⟩ (fun j t acc ρ' K' et p k => ?_) (fun acc ρ' p => ?_)
  · obtain ⟨rfl, rfl⟩ := p
    obtain ⟨na, h⟩ := he t (List.mem_of_getElem? et)
    have hj : j < its.length := (List.getElem?_eq_some_iff.mp et).1
    have tk : its.take (j + 1) = its.take j ++ [t] := by rw [List.take_succ, et]; rfl
    show match noAli t with | true => _ | false => False
    rw [na]
    refine h _ _ (fun d y e fy => wD_i fy ⟨?_, ?_⟩) fun e => ?_
    · have h1 : ((its.take j).filterMap sel).length ≤ (its.take j).length := List.length_filterMap_le ..
      rw [List.length_take] at h1
      omega
    · rw [hset]
      refine k _ _ ⟨?_, rfl⟩
      rw [tk, List.filterMap_append]
      simp [e]
    · rw [hset]
      refine k _ _ ⟨?_, rfl⟩
      rw [tk, List.filterMap_append]
      simp [e]
  · obtain ⟨rfl, rfl⟩ := p
    rw [List.take_length]
    exact hk
abbrev fin0 (ln : Option Nat) (Q : T → T → Prop) : DEnds := { nx := fun ρ => cl (lentOf ln ρ) (Q (.dat .none) (lentOf ln ρ)), rt := fun r ρ => cl r (cl (lentOf ln ρ) (Q r (lentOf ln ρ))) }
abbrev finX (ln : Option Nat) (W : Exn → T → Prop) : Exn → List T → Prop := fun ex ρ => cl (lentOf ln ρ) (W ex (lentOf ln ρ))
end Ds
namespace Ds
open PySem L2
theorem dg_i {i : Nat} {t : T} {ρ : List T} {Q : List T → Prop} (na : noAli t = true) (h : Q (ρ.set i t)) : dgName i t ρ Q := by
  show match noAli t with | true => Q (ρ.set i t) | false => False
  rw [na]; exact h
theorem dSeq_cut {f g : DS} {D : DEnds} {ρ : List T} (P : List T → Prop) (h1 : ∀ K : List T → Prop, (∀ ρ', P ρ' → K ρ') → f { D with nx := K } ρ) (h2 : ∀ ρ', P ρ' → g D ρ') : dSeq f g D ρ := ⟨h1 _ h2⟩
end Ds
namespace Ds
open PySem L2
structure Tl (k n : Nat) (d : D) : Prop where
  sh : d.showable = true
  le : d.shown.length ≤ n
  dp : d.depth ≤ k
theorem Tl.mono {k n k' n' : Nat} {d : D} (h : Tl k n d) (hk : k ≤ k') (hn : n ≤ n') : Tl k' n' d := ⟨h.sh, Nat.le_trans h.le hn, Nat.le_trans h.dp hk⟩
theorem tl_all {k n : Nat} : ∀ {xs : List D}, (∀ x ∈ xs, Tl k n x) → PyData.showableAll xs = true ∧ ((PyData.shownAll xs).map (·.length)).sum ≤ xs.length * n ∧ PyData.depthAll xs ≤ k ∧ (PyData.shownAll xs).length = xs.length
  | [], _ => ⟨rfl, by simp [PyData.shownAll], by simp [PyData.depthAll], by simp [PyData.shownAll]⟩
  | x :: xs, h => by
    obtain ⟨h1, h2, h3, h4⟩ := tl_all (xs := xs) fun y hy => h y (List.mem_cons_of_mem _ hy)
    have q := h x (List.mem_cons_self ..)
    have q2 := q.le
    have q3 := q.dp
    refine ⟨?_, ?_, ?_, ?_⟩
    · simp only [PyData.showableAll, q.sh, h1, Bool.and_self]
    · simp only [PyData.shownAll, List.map_cons, List.sum_cons, List.length_cons]
      rw [Nat.add_mul, Nat.one_mul]; omega
    · simp only [PyData.depthAll]; omega
    · simp only [PyData.shownAll, List.length_cons, h4]
theorem Tl.list {k n m : Nat} {xs : List D} (h : ∀ x ∈ xs, Tl k n x) (hm : xs.length ≤ m) : Tl (k + 1) (m * (n + 2) + 3) (.list xs) := by
  obtain ⟨h1, h2, h3, h4⟩ := tl_all h
  have e := listText_len_le (PyData.shownAll xs)
  have e2 : xs.length * (n + 2) ≤ m * (n + 2) := Nat.mul_le_mul_right _ hm
  refine ⟨by simp only [PyData.showable, h1], ?_, by simp only [PyData.depth]; omega⟩
  simp only [PyData.shown]
  rw [h4] at e
  have e3 : m * (n + 2) = m * n + m * 2 := Nat.mul_add ..
  have e4 : xs.length * (n + 2) = xs.length * n + xs.length * 2 := Nat.mul_add ..
  omega
theorem Tl.tuple {k n m : Nat} {xs : List D} (h : ∀ x ∈ xs, Tl k n x) (hm : xs.length ≤ m) : Tl (k + 1) (m * (n + 2) + 3) (.tuple xs) := by
  obtain ⟨h1, h2, h3, h4⟩ := tl_all h
  have e := tupleText_len_le (PyData.shownAll xs)
  have e2 : xs.length * (n + 2) ≤ m * (n + 2) := Nat.mul_le_mul_right _ hm
  refine ⟨by simp only [PyData.showable, h1], ?_, by simp only [PyData.depth]; omega⟩
  simp only [PyData.shown]
  rw [h4] at e
  have e3 : m * (n + 2) = m * n + m * 2 := Nat.mul_add ..
  have e4 : xs.length * (n + 2) = xs.length * n + xs.length * 2 := Nat.mul_add ..
  omega
theorem Tl.int {i : Int} {k : Nat} (h : i.natAbs.log2 < k) (h0 : 0 < k) (hk : k ≤ 1920) : Tl 0 (k + 1) (.int i) := by
  refine ⟨by simp only [PyData.showable, decide_eq_true_eq]; omega, ?_, Nat.le_refl _⟩
  simp only [PyData.shown]
  rw [ofString_length]
  exact int_text_length_le (k := k) h0 h
theorem rep1 {α : Type} (a : α) : ∀ k : Nat, (List.replicate k [a]).flatten = List.replicate k a
  | 0 => rfl
  | k + 1 => by rw [List.replicate_succ, List.flatten_cons, rep1 a k, List.replicate_succ]; rfl
end Ds
namespace Ds
open PySem L2
end Ds
namespace Ds
open PySem L2
theorem want_scr {K : PySem.W.Frag} {spd : DSp} {H : Hp} {a : Addr} {ns : List Int} (hO : Only H) (hS : SqL K H a (ns.map V.int)) (h : ∀ Q W, Q (.dat (.bool true)) .emp → spd [.scr ns] Q W) (hm : Mono spd) :
    toSp K 1 none spd [.ref a] H (fun v _ => v = .bl true) fun _ _ _ => False := by
  have sb : SB K (fun b => b ∈ ([] : List Addr) ∨ False) H a (ns.map V.int) := by
    rcases hS with z | z
    · refine .inl ⟨?_, by simp⟩
      rcases z with z | z
      · rcases hO a with q | ⟨o, xs, q⟩
        · rw [z] at q; cases q
        · rw [z] at q; cases q
      · exact z
    · exact .inr z
  refine ⟨fun _ => False, [.scr ns], [], rfl, ⟨rfl, rfl, fun j t e => ?_, List.nodup_nil, fun _ z => by simp at z, fun _ z => by simp at z, fun _ z => z.elim⟩, ?_⟩
  · cases j with
    | zero =>
      simp at e
      subst e
      exact ⟨.ref a, rfl, .scr sb⟩
    | succ j => simp at e
  · refine hm _ (fun r t' => r = .dat (.bool true)) _ (fun _ _ => False) _ (fun r t' hr v H' Po => ?_) (fun ex t' z => z.elim) (h _ _ rfl)
    subst hr
    obtain ⟨go, ro, h1, _⟩ := Po.ex
    exact h1.dat_inv.bool_eq
theorem noX {P : Program} {w : World} {H : Hp} {s : Shared} {e : Value} {s' : Shared} (h : L2.CX P w [] H s (fun _ _ _ => False) e s') : False := by
  obtain ⟨_, _, _, _, _, _, _, _, _, _, _, _, z⟩ := h
  exact z
theorem walkD {l : PySem.W.OpenLaw} {k : Nat} {q : Program} {loose : List Str} {XP : (Str → Option Value) → Heap → Prop} {YP : World → Heap → Prop} {d : PySem.DefRec} {K : Params → PySem.W.Frag} {spd : DSp} (hn : l.most = some 63) (hdf : d.params.defaults = []) (room : RoomG k callerA)
    (hY : ∀ (w : World) (h : Heap), YP w h → (K w.params).In h) (hm : Mono spd) (hspd : ∀ (ns : List Int) Q W, ns.length ≤ 63 → Q (.dat (.bool true)) .emp → spd [.scr ns] Q W)
    (F : ∀ (w : World) (mg : Str → Option Value) (fa : Addr) (h : Heap), (K w.params).In h → h.Ns mainGlobals mg → mg d.name = some (.ref fa) → ∃ fd : FuncData, (∀ (s : Shared) (u : Value), BindsTo s fd ⟨[u], []⟩ [("script", u)]) ∧
      ∀ base : Heap, (K w.params).In base → base.Ns mainGlobals mg → FnG l.prog w (K w.params) mg base k fa fd ["script"] (toSp (K w.params) 1 none spd)) : PySem.W.WalkO q loose XP YP l.row.toRowW d [] (fun f vs => PySem.call f vs) :=
  walkG hn (by decide) hdf room hY (sp := fun w => toSp (K w.params) 1 none spd) F (fun w H a ns hl _ hO hS => want_scr hO hS (fun Q W h => hspd ns Q W hl h) hm) fun w H s e s' z => noX z
end Ds
namespace Ds
open PySem L2
theorem lc_gen {α : Type} {g : DG} {tt : DTt} {fe : DE} {own : List Nat} {K : List D → List T → Prop} {ρ : List T} (its : List α) (tg : α → T) (st : α → List T) (p : α → Bool) (gv : α → D) (hs : ∀ a ∈ its, wipeT (st a) own = ρ)
    (hg : ∀ a ∈ its, ∀ Q : List T → Prop, Q (st a) → g (tg a) ρ Q) (hl : its.length ≤ sizeLine)
    (he : ∀ a ∈ its, ∀ (P : T → List T → Prop) (R : List T → Prop), (p a = true → ∀ y, frz y = some (gv a) → P y (st a)) → (p a = false → R (st a)) → tt (st a) fun b ρ2 => br b (fe ρ2 P) (R ρ2))
    (hk : K ((its.filter p).map gv) ρ) : dLcGo g tt fe own K (its.map tg) [] ρ := by
  have go : ∀ (l pre : List α), its = pre ++ l → dLcGo g tt fe own K (l.map tg) ((pre.filter p).map gv) ρ := by
    intro l
    induction l with
    | nil => intro pre e; rw [List.append_nil] at e; subst e; exact hk
    | cons a l ih =>
      intro pre e
      have ha : a ∈ its := by rw [e]; simp
      have hn := ih (pre ++ [a]) (by rw [e]; simp)
      show g (tg a) ρ _
      refine hg a ha _ (he a ha _ _ (fun hp y hy => wD_i hy ⟨?_, ?_⟩) fun hp => ?_)
      · have h1 : ((pre.filter p).map gv).length ≤ pre.length := by rw [List.length_map]; exact List.length_filter_le ..
        have h2 := congrArg List.length e
        simp at h2
        omega
      · rw [hs a ha]
        rw [List.filter_append, List.map_append, List.filter_cons, if_pos hp] at hn
        exact hn
      · rw [hs a ha]
        rw [List.filter_append, List.map_append, List.filter_cons, if_neg (by rw [hp]; decide)] at hn
        rw [show ((List.filter p []).map gv) = [] from rfl, List.append_nil] at hn
        exact hn
  exact go its [] rfl
theorem filter_true {α : Type} (l : List α) : l.filter (fun _ => true) = l := List.filter_eq_self.mpr fun _ _ => rfl
theorem dgn_i {i : Nat} {t : T} {ρ : List T} (na : noAli t = true) {Q : List T → Prop} (h : Q (ρ.set i t)) : dgName i t ρ Q := by
  show match noAli t with | true => Q (ρ.set i t) | false => False
  rw [na]; exact h
theorem lc_mp {α : Type} {i : Nat} {fe : DE} {K : List D → List T → Prop} {ρ : List T} (its : List α) (tg : α → T) (gv : α → D) (hw : ρ.set i .emp = ρ) (hl : its.length ≤ sizeLine) (na : ∀ a ∈ its, noAli (tg a) = true)
    (he : ∀ a ∈ its, ∀ P : T → List T → Prop, (∀ y, frz y = some (gv a) → P y (ρ.set i (tg a))) → fe (ρ.set i (tg a)) P) (hk : K (its.map gv) ρ) : dLcGo (dgName i) dYes fe [i] K (its.map tg) [] ρ :=
  lc_gen its tg (fun a => ρ.set i (tg a)) (fun _ => true) gv (fun a _ => by show (ρ.set i (tg a)).set i .emp = ρ; rw [List.set_set, hw]) (fun a ha Q h => dgn_i (na a ha) h) hl
    (fun a ha P R hp _ => br_t rfl (he a ha P fun y hy => hp rfl y hy)) (by rw [filter_true]; exact hk)
theorem lc_fl {α : Type} {i : Nat} {tt : DTt} {fe : DE} {K : List D → List T → Prop} {ρ : List T} (its : List α) (tg : α → T) (p : α → Bool) (gv : α → D) (hw : ρ.set i .emp = ρ) (hl : its.length ≤ sizeLine) (na : ∀ a ∈ its, noAli (tg a) = true)
    (he : ∀ a ∈ its, ∀ (P : T → List T → Prop) (R : List T → Prop), (p a = true → ∀ y, frz y = some (gv a) → P y (ρ.set i (tg a))) → (p a = false → R (ρ.set i (tg a))) → tt (ρ.set i (tg a)) fun b ρ2 => br b (fe ρ2 P) (R ρ2))
    (hk : K ((its.filter p).map gv) ρ) : dLcGo (dgName i) tt fe [i] K (its.map tg) [] ρ :=
  lc_gen its tg (fun a => ρ.set i (tg a)) p gv (fun a _ => by show (ρ.set i (tg a)).set i .emp = ρ; rw [List.set_set, hw]) (fun a ha Q h => dgn_i (na a ha) h) hl he hk
theorem dgt2_i {i j : Nat} {t x y : T} {ρ : List T} (na : noAli t = true) (e : partsT t = some [x, y]) (nx : noAli x = true) (ny : noAli y = true) {Q : List T → Prop} (h : Q ((ρ.set i x).set j y)) : (Tgt.many [i, j]).d t ρ Q := by
  show match noAli t with | true => wO (partsT t) fun ts => ts.length = 2 ∧ dgNs [i, j] ts ρ Q | false => False
  rw [na]
  refine wO_i e ⟨rfl, ?_⟩
  exact dgn_i (Q := fun ρ1 => dgNs [j] [y] ρ1 Q) nx (dgn_i (Q := fun ρ1 => dgNs [] [] ρ1 Q) ny h)
theorem lc_mp2 {α : Type} {i j : Nat} {fe : DE} {K : List D → List T → Prop} {ρ : List T} (its : List α) (tg x y : α → T) (gv : α → D) (hw : (ρ.set j .emp).set i .emp = ρ) (hij : i ≠ j) (hl : its.length ≤ sizeLine) (na : ∀ a ∈ its, noAli (tg a) = true ∧ partsT (tg a) = some [x a, y a] ∧ noAli (x a) = true ∧ noAli (y a) = true)
    (he : ∀ a ∈ its, ∀ P : T → List T → Prop, (∀ z, frz z = some (gv a) → P z ((ρ.set i (x a)).set j (y a))) → fe ((ρ.set i (x a)).set j (y a)) P) (hk : K (its.map gv) ρ) : dLcGo (Tgt.many [i, j]).d dYes fe [i, j] K (its.map tg) [] ρ :=
  lc_gen its tg (fun a => (ρ.set i (x a)).set j (y a)) (fun _ => true) gv (fun a _ => by
    show ((((ρ.set i (x a)).set j (y a)).set j .emp).set i .emp) = ρ
    rw [List.set_set, List.set_comm _ _ hij, List.set_set]
    rw [List.set_comm _ _ (Ne.symm hij)] at hw ⊢
    first | exact hw | (rw [List.set_comm _ _ hij] at hw; exact hw) | (rw [List.set_comm _ _ hij]; exact hw)) (fun a ha Q h => dgt2_i (na a ha).1 (na a ha).2.1 (na a ha).2.2.1 (na a ha).2.2.2 h) hl
    (fun a ha P R hp _ => br_t rfl (he a ha P fun y hy => hp rfl y hy)) (by rw [filter_true]; exact hk)
theorem for_pre {α : Type} {g : DG} {f : DS} {D : DEnds} {ρ : List T} (its : List α) (tg : α → T) (Pv : List α → List T → Prop) (h0 : Pv [] ρ)
    (hs : ∀ pre a post ρ (K : List T → Prop), its = pre ++ a :: post → Pv pre ρ → (∀ ρ', Pv (pre ++ [a]) ρ' → K ρ') → g (tg a) ρ fun ρ1 => f { D with nx := K, ct := K, bk := D.nx } ρ1) (hd : ∀ ρ, Pv its ρ → D.nx ρ) : dFor g f D (its.map tg) ρ := by
  have go : ∀ (l pre : List α) (ρ : List T), its = pre ++ l → Pv pre ρ → dFor g f D (l.map tg) ρ := by
    intro l
    induction l with
    | nil => intro pre ρ e p; rw [List.append_nil] at e; subst e; exact hd ρ p
    | cons a l ih =>
      intro pre ρ e p
      exact hs pre a l ρ (fun ρ2 => dFor g f D (l.map tg) ρ2) e p fun ρ' p' => ih (pre ++ [a]) ρ' (by rw [e]; simp) p'
  exact go its [] ρ rfl h0
def TlA (k n m : Nat) (xs : List D) : Prop := (∀ x ∈ xs, Tl k n x) ∧ xs.length ≤ m
theorem TlA.nil {k n m : Nat} : TlA k n m [] := ⟨by simp, Nat.zero_le _⟩
theorem TlA.cons {k n m : Nat} {x : D} {xs : List D} (h : Tl k n x) (t : TlA k n m xs) : TlA k n (m + 1) (x :: xs) :=
  ⟨fun y hy => by rcases List.mem_cons.mp hy with rfl | hy; exact h; exact t.1 y hy, by have := t.2; simp; omega⟩
theorem TlA.append {k n a b : Nat} {xs ys : List D} (h : TlA k n a xs) (t : TlA k n b ys) : TlA k n (a + b) (xs ++ ys) :=
  ⟨fun y hy => (List.mem_append.mp hy).elim (h.1 y) (t.1 y), by have := h.2; have := t.2; simp; omega⟩
theorem TlA.mono {k n m k' n' m' : Nat} {xs : List D} (h : TlA k n m xs) (hk : k ≤ k') (hn : n ≤ n') (hm : m ≤ m') : TlA k' n' m' xs := ⟨fun x hx => (h.1 x hx).mono hk hn, Nat.le_trans h.2 hm⟩
theorem TlA.map {α : Type} {k n m : Nat} {f : α → D} {l : List α} (h : ∀ a ∈ l, Tl k n (f a)) (hl : l.length ≤ m) : TlA k n m (l.map f) :=
  ⟨fun y hy => by obtain ⟨a, ha, rfl⟩ := List.mem_map.mp hy; exact h a ha, by simpa using hl⟩
theorem TlA.take {k n m : Nat} {xs : List D} (h : TlA k n m xs) (j : Nat) : TlA k n m (xs.take j) := ⟨fun y hy => h.1 y (List.mem_of_mem_take hy), by have := h.2; simp; omega⟩
theorem TlA.drop {k n m : Nat} {xs : List D} (h : TlA k n m xs) (j : Nat) : TlA k n m (xs.drop j) := ⟨fun y hy => h.1 y (List.mem_of_mem_drop hy), by have := h.2; simp; omega⟩
theorem TlA.rep {k n : Nat} {x : D} (h : Tl k n x) (c : Nat) : TlA k n c (List.replicate c x) := ⟨fun y hy => by rw [List.eq_of_mem_replicate hy]; exact h, by simp⟩
theorem TlA.list {k n m : Nat} {xs : List D} (h : TlA k n m xs) : Tl (k + 1) (m * (n + 2) + 3) (.list xs) := Tl.list h.1 h.2
theorem TlA.tuple {k n m : Nat} {xs : List D} (h : TlA k n m xs) : Tl (k + 1) (m * (n + 2) + 3) (.tuple xs) := Tl.tuple h.1 h.2
theorem TlA.listM {k n m k' n' : Nat} {xs : List D} (h : TlA k n m xs) (hk : k + 1 ≤ k') (hn : m * (n + 2) + 3 ≤ n') : Tl k' n' (.list xs) := h.list.mono hk hn
theorem TlA.tupleM {k n m k' n' : Nat} {xs : List D} (h : TlA k n m xs) (hk : k + 1 ≤ k') (hn : m * (n + 2) + 3 ≤ n') : Tl k' n' (.tuple xs) := h.tuple.mono hk hn
theorem Tl.intB {i : Int} (n : Nat) {k : Nat} (h0 : -(2 ^ n) < i) (h1 : i < 2 ^ n) (hn : 0 < n) (hn2 : n ≤ 1920) (hk : n + 1 ≤ k) : Tl 0 k (.int i) := by
  refine (Tl.int (k := n) ?_ hn hn2).mono (Nat.le_refl _) hk
  have : i.natAbs < 2 ^ n := by
    have e : ((2 ^ n : Nat) : Int) = (2 : Int) ^ n := by simp
    omega
  rcases Nat.eq_zero_or_pos i.natAbs with z | z
  · rw [z]; exact hn
  · exact (Nat.log2_lt (by omega)).mpr this
structure Lay (k : Nat) (d : D) : Prop where
  cl : d.canLay0 = true
  dp : d.depth ≤ k
theorem Lay.int {i : Int} {k : Nat} : Lay k (.int i) := ⟨rfl, Nat.zero_le _⟩
theorem Lay.bool {i : Bool} {k : Nat} : Lay k (.bool i) := ⟨rfl, Nat.zero_le _⟩
theorem Lay.str {i : Str} {k : Nat} (h : (PyData.str i).canLay0 = true) : Lay k (.str i) := ⟨h, Nat.zero_le _⟩
theorem Lay.none {k : Nat} : Lay k .none := ⟨rfl, Nat.zero_le _⟩
theorem lay_all {k : Nat} : ∀ {xs : List D}, (∀ x ∈ xs, Lay k x) → PyData.canLayAll0 xs = true ∧ PyData.depthAll xs ≤ k
  | [], _ => ⟨rfl, Nat.zero_le _⟩
  | x :: xs, h => by
    obtain ⟨h1, h2⟩ := lay_all (xs := xs) fun y hy => h y (List.mem_cons_of_mem _ hy)
    have q := h x (List.mem_cons_self ..)
    have q2 := q.dp
    refine ⟨by simp only [PyData.canLayAll0, q.cl, h1, Bool.and_self], ?_⟩
    simp only [PyData.depthAll]; omega
theorem Lay.list {k : Nat} {xs : List D} (h : ∀ x ∈ xs, Lay k x) : Lay (k + 1) (.list xs) := by
  obtain ⟨h1, h2⟩ := lay_all h
  exact ⟨by simp only [PyData.canLay0, h1], by simp only [PyData.depth]; omega⟩
theorem Lay.tuple {k : Nat} {xs : List D} (h : ∀ x ∈ xs, Lay k x) : Lay (k + 1) (.tuple xs) := by
  obtain ⟨h1, h2⟩ := lay_all h
  exact ⟨by simp only [PyData.canLay0, h1], by simp only [PyData.depth]; omega⟩
theorem Lay.mono {j k : Nat} {d : D} (h : Lay j d) (hk : j ≤ k) : Lay k d := ⟨h.cl, Nat.le_trans h.dp hk⟩
theorem Lay.shaped {k : Nat} {d : D} (h : Lay k d) (hk : k ≤ 64) : SeqAt.shaped d = true := by
  simp only [SeqAt.shaped, h.cl, Bool.true_and]; exact decide_eq_true (Nat.le_trans h.dp hk)
end Ds
namespace Ds
open PySem L2
def dLc2Go (g : DG) (tt : DTt) (fi1 : DI) (g1 : DG) (tt1 : DTt) (fe : DE) (own own1 : List Nat) (K : List D → List T → Prop) : List T → List D → List T → Prop
  | [], acc, ρ => K acc ρ
  | t :: its, acc, ρ => g t ρ fun ρ1 => tt ρ1 fun b ρ2 => br b (fi1 ρ2 fun its1 ρ3 => dLcGo g1 tt1 fe own1 (fun acc' ρ4 => dLc2Go g tt fi1 g1 tt1 fe own own1 K its acc' (wipeT ρ4 own)) its1 acc (wipeT ρ3 own1)) (dLc2Go g tt fi1 g1 tt1 fe own own1 K its acc (wipeT ρ2 own))
def dLc2 (fi : DI) (g : DG) (tt : DTt) (fi1 : DI) (g1 : DG) (tt1 : DTt) (fe : DE) (own own1 : List Nat) : DE := fun ρ Q => fi ρ fun its ρ1 => dLc2Go g tt fi1 g1 tt1 fe own own1 (fun ds ρ2 => Q (.own ds) ρ2) its [] (wipeT ρ1 own)
section
variable {C : Ctx}
def derI (C : Ctx) (f : DI) : TI := fun σ H R => ∃ (ρ : List T) (vs : List V) (τ : List T) (Qd : List T → List T → Prop), SS C σ H ρ vs τ ∧ f ρ Qd ∧ ∀ J H' sv sx its ρ', SS C σ H' ρ' (vs ++ sv) (τ ++ sx) → noAliL sx = true → WalksD C J sv sx its → Qd its ρ' → R J H'
theorem SS.blk {σ : St} {H : Hp} {ρ : List T} {vs : List V} {τ : List T} {s : Shared} {H1 : Hp} {scope : Scope} {Cc : Addr} {cl : List (Str × Addr)} {fp : List Addr} (I : SS C σ H ρ vs τ) : SS (C.blk s H1 scope Cc cl fp) σ H ρ vs τ := let ⟨ow, J⟩ := I; ⟨ow, J.blk⟩
theorem SS.unblk {σ : St} {H : Hp} {ρ : List T} {vs : List V} {τ : List T} {s : Shared} {H1 : Hp} {scope : Scope} {Cc : Addr} {cl : List (Str × Addr)} {fp : List Addr} (I : SS (C.blk s H1 scope Cc cl fp) σ H ρ vs τ) : SS C σ H ρ vs τ := let ⟨ow, J⟩ := I; ⟨ow, J.unblk⟩
variable {elt tge iter tge1 iter1 : Expr} {ifs ifs1 : List Expr} {scope : Scope} {own : List (Str × Nat)} {os1 : List Nat} {pos : Pos} {fi fi1 : DI} {tt tt1 : DTt} {fe : DE} {tg tg1 : Tgt}
end
end Ds
namespace Ds
open PySem L2
section
variable {C : Ctx} {σ : St} {H : Hp} {ρ : List T} {vs : List V} {τ : List T} {i j : Nat} {ds : List D} {us : List T}
end
def dAppN (i j : Nat) (d : D) : DE := fun ρ Q => match ρ[i]? with
  | some (.lst us) => match us[j]? with
    | some (.own ds) => ds.length < sizeLine ∧ Q (.dat .none) (ρ.set i (.lst (us.set j (.own (ds ++ [d])))))
    | _ => False
  | _ => False
section
variable {C : Ctx} {i j : Nat} {x : Str} {e : Expr} {d : D} {v : V} {p p2 p3 apos cpos : Pos} {jt : Nat}
end
def dLstK (f : DA) : DE := fun ρ Q => f ρ fun ts ρ' => match small 1000 ts with
  | true => Q (mkLK ts) ρ'
  | false => False
theorem eqv_self (d : D) (h : d.canLay0 = true) : PyData.eqv d d = true := SeqAt.eqv_refl d h
theorem Lay.eqv {k : Nat} {d : D} (h : Lay k d) : PyData.eqv d d = true := SeqAt.eqv_refl d h.cl
end Ds
namespace Ds
open PySem L2
end Ds
namespace Ds
open PySem L2
abbrev DKv := List (Key × D)
def valD (ps : DKv) (k : Key) : Option D := (ps.find? fun p => decide (p.1 = k)).map (·.2)
def putD (ps : DKv) (k : Key) (d : D) : DKv := match ps.any fun p => decide (p.1 = k) with
  | true => ps.map fun p => if p.1 = k then (p.1, d) else p
  | false => ps ++ [(k, d)]
inductive DKs (K : PySem.W.Frag) (B : Addr → Prop) (H : Hp) : DKv → List (Key × V) → Prop
  | nil : DKs K B H [] []
  | cons {k : Key} {d : D} {v : V} {ps : DKv} {kvs : List (Key × V)} : DIs K B H d v → DKs K B H ps kvs → DKs K B H ((k, d) :: ps) ((k, v) :: kvs)
section
variable {K : PySem.W.Frag} {B B' : Addr → Prop} {H H' : Hp}
theorem DKs.length : ∀ {ps : DKv} {kvs : List (Key × V)}, DKs K B H ps kvs → ps.length = kvs.length
  | _, _, .nil => rfl
  | _, _, .cons _ t => congrArg (· + 1) (DKs.length t)
theorem DKs.move (h1 : ∀ b o, H b = some o → ¬ B b → H' b = some o ∧ ¬ B' b) : ∀ {ps : DKv} {kvs : List (Key × V)}, DKs K B H ps kvs → DKs K B' H' ps kvs
  | _, _, .nil => .nil
  | _, _, .cons d t => .cons (d.move h1) (DKs.move h1 t)
theorem DKs.of_zip : ∀ {kvs : List (Key × V)} {ds : List D}, DIsL K B H ds (kvs.map (·.2)) → DKs K B H ((kvs.map (·.1)).zip ds) kvs
  | [], [], _ => .nil
  | (k, v) :: kvs, d :: ds, .cons h t => .cons h (DKs.of_zip t)
theorem DKs.to_zip : ∀ {kvs : List (Key × V)} {ps : DKv}, DKs K B H ps kvs → ∃ ds, DIsL K B H ds (kvs.map (·.2)) ∧ ps = (kvs.map (·.1)).zip ds
  | [], _, .nil => ⟨[], .nil, rfl⟩
  | (k, v) :: kvs, _, .cons h t => by
    obtain ⟨ds, h1, h2⟩ := DKs.to_zip t
    exact ⟨_ :: ds, .cons h h1, by rw [h2]; rfl⟩
theorem DKs.get {k : Key} : ∀ {ps : DKv} {kvs : List (Key × V)}, DKs K B H ps kvs → (∀ d, valD ps k = some d → ∃ v, valV kvs k = some v ∧ DIs K B H d v) ∧ (valD ps k).isSome = (valV kvs k).isSome
  | _, _, .nil => ⟨fun d e => by simp [valD] at e, rfl⟩
  | _, _, .cons (k := j) (d := d) (v := v) (ps := ps) (kvs := kvs) h t => by
    obtain ⟨h1, h2⟩ := DKs.get (k := k) t
    by_cases e : j = k
    · have e1 : valD ((j, d) :: ps) k = some d := by simp [valD, List.find?_cons, e]
      rw [e1, valV_pos (p := (j, v)) e]
      exact ⟨fun x hx => by cases hx; exact ⟨v, rfl, h⟩, rfl⟩
    · have e1 : valD ((j, d) :: ps) k = valD ps k := by simp [valD, List.find?_cons, e]
      rw [e1, valV_neg (p := (j, v)) e]
      exact ⟨h1, h2⟩
theorem DKs.any {k : Key} : ∀ {ps : DKv} {kvs : List (Key × V)}, DKs K B H ps kvs → (ps.any fun p => decide (p.1 = k)) = kvs.any fun p => decide (p.1 = k)
  | _, _, .nil => rfl
  | _, _, .cons h t => by rw [List.any_cons, List.any_cons, DKs.any t]
theorem DKs.snoc {k : Key} {d : D} {v : V} (q : DIs K B H d v) : ∀ {ps : DKv} {kvs : List (Key × V)}, DKs K B H ps kvs → DKs K B H (ps ++ [(k, d)]) (kvs ++ [(k, v)])
  | _, _, .nil => .cons q .nil
  | _, _, .cons h t => .cons h (DKs.snoc q t)
theorem DKs.mapk {k : Key} {d : D} {v : V} (q : DIs K B H d v) : ∀ {ps : DKv} {kvs : List (Key × V)}, DKs K B H ps kvs → DKs K B H (ps.map fun p => if p.1 = k then (p.1, d) else p) (kvs.map fun p => if p.1 = k then (p.1, v) else p)
  | _, _, .nil => .nil
  | _, _, .cons (k := j) h t => by
    rw [List.map_cons, List.map_cons]
    by_cases e : j = k
    · rw [if_pos e, if_pos e]; exact .cons q (DKs.mapk q t)
    · rw [if_neg e, if_neg e]; exact .cons h (DKs.mapk q t)
theorem DKs.put {k : Key} {d : D} {v : V} {ps : DKv} {kvs : List (Key × V)} (h : DKs K B H ps kvs) (q : DIs K B H d v) : DKs K B H (putD ps k d) (putK kvs k v) := by
  unfold putD putK
  rw [← h.any]
  cases e : (ps.any fun p => decide (p.1 = k)) with
  | true => rw [if_pos rfl]; exact h.mapk q
  | false => rw [if_neg (by decide)]; exact h.snoc q
theorem TIs.dct_inv {Bb : Addr → Prop} {σ : St} {ps : DKv} {v : V} : ∀ {os : List Addr}, TIs K B Bb σ H (.dct ps) v os → ∃ a kvs, v = .ref a ∧ H a = some (.dK kvs) ∧ DKs K B H ps kvs ∧ os = [a]
  | _, .dct h t q => ⟨_, _, rfl, h, by subst q; exact .of_zip t, rfl⟩
theorem TIs.dctK {Bb : Addr → Prop} {σ : St} {ps : DKv} {a : Addr} {kvs : List (Key × V)} (h : H a = some (.dK kvs)) (q : DKs K B H ps kvs) : TIs K B Bb σ H (.dct ps) (.ref a) [a] :=
  let ⟨_, h1, h2⟩ := q.to_zip; .dct h h1 h2
end
section
variable {C : Ctx} {σ : St} {H : Hp} {ρ : List T} {vs xs : List V} {τ ts : List T} {i : Nat} {ps : DKv}
theorem SS.mutD (I : SS C σ H ρ (vs ++ xs) (τ ++ ts)) (hτ : τ.length = vs.length) (ei : ρ[i]? = some (.dct ps)) :
    ∃ l zs, σ[i]? = some (some (.ref l)) ∧ H l = some (.dK zs) ∧ zs.length = ps.length ∧ DKs C.K N0 H ps zs ∧ ∀ ps' zs' es ys, (∀ B', DKs C.K B' H ps zs → (∀ (j : Nat) (x : T) (v : V) (d : D), ts[j]? = some x → xs[j]? = some v → frz x = some d → DIs C.K B' H d v) → DKs C.K B' H ps' zs' ∧ DIsL C.K B' H es ys) →
      SS C σ (upd H l (.dK zs')) (ρ.set i (.dct ps')) (vs ++ ys) (τ ++ es.map .dat) := by
  obtain ⟨ow, I⟩ := I
  have hlt := I.lt
  simp at hlt
  have hts : ts.length = xs.length := by omega
  have hi : i < ρ.length := (List.getElem?_eq_some_iff.mp ei).1
  let m := ρ.length + τ.length
  rcases I.slot ei with z | ⟨v, hv, r⟩
  · cases z
  · have own_inv : ∃ l zs, v = .ref l ∧ H l = some (.dK zs) ∧ DKs C.K (Bar C ow) H ps zs ∧ ow i = [l] := by
      obtain ⟨a, zs, ea, e, q, eo⟩ := r.dct_inv
      exact ⟨a, zs, ea, e, q, eo⟩
    obtain ⟨l, zs, rfl, hz, dz, on⟩ := own_inv
    refine ⟨l, zs, hv, hz, dz.length.symm, dz.move fun _ _ e _ => ⟨e, id⟩, fun ps' zs' es ys nw => ?_⟩
    have lb : ∀ k, k ≠ i → l ∉ ow k := fun k hk q => I.dj i k l (Ne.symm hk) (by rw [on]; simp) q
    let ow' : Nat → List Addr := fun k => if k = i then [l] else if m ≤ k then [] else ow k
    have owi : ow' i = [l] := if_pos rfl
    have barN : ∀ b, Bar C ow' b → b = l ∨ (∃ k, k ≠ i ∧ k < m ∧ b ∈ ow k) ∨ C.B0 b := fun b z => by
      rcases z with ⟨k, z⟩ | z
      · have z : b ∈ (if k = i then [l] else if m ≤ k then [] else ow k) := z
        split at z
        · exact .inl (by simpa using z)
        · split at z
          · simp at z
          · exact .inr (.inl ⟨k, by assumption, by omega, z⟩)
      · exact .inr (.inr z)
    have lN : Bar C ow' l := .inl ⟨i, by rw [owi]; simp⟩
    have him : i < m := by simp [m]; omega
    have old : ∀ b o, H b = some o → ¬ Bar C ow b → ¬ Bar C ow' b := fun b o e n z => by
      rcases barN b z with rfl | ⟨k, _, _, h3⟩ | h
      · exact n (.inl ⟨i, by rw [on]; simp⟩)
      · exact n (.inl ⟨k, h3⟩)
      · exact n (.inr h)
    have q1 : DKs C.K (Bar C ow') H ps zs := dz.move fun b o e n => ⟨e, old b o e n⟩
    have q2 : ∀ (j : Nat) (x : T) (v : V) (d : D), ts[j]? = some x → xs[j]? = some v → frz x = some d → DIs C.K (Bar C ow') H d v := fun j x v d e1 e2 e3 => by
      have et : (τ ++ ts)[τ.length + j]? = some x := by rw [List.getElem?_append_right (by omega)]; simpa using e1
      obtain ⟨v', hv', r'⟩ := I.temp et
      rw [List.getElem?_append_right (by omega), show τ.length + j - vs.length = j by omega, e2] at hv'
      cases hv'
      refine r'.frz I.tupOk old (fun a ha z => ?_) e3
      rcases barN a z with rfl | ⟨k, h1, h2, h3⟩ | h
      · exact lb _ (by omega) ha
      · exact I.dj k (ρ.length + (τ.length + j)) a (by omega) h3 ha
      · exact I.nb0 ha h
    obtain ⟨n1, n2⟩ := nw _ q1 q2
    have mv : ∀ b o, H b = some o → ¬ Bar C ow' b → upd H l (.dK zs') b = some o ∧ ¬ Bar C ow' b := fun b o e nb => ⟨(by rw [upd_ne (fun z => nb (by rw [z]; exact lN))]; exact e), nb⟩
    have hey : es.length = ys.length := n2.length
    refine ⟨ow', I.next (S := fun k => k = i ∨ m ≤ k) (by rw [List.length_set]; exact I.ln) (by simp [hτ, hey]) (noAliL_set I.na rfl) (fun k hk => ?_) (fun k u hk e => ?_) (List.length_set ..) (fun b o e hb => ?_) (fun b z => ?_)
      (fun k a hk h => ?_) (fun m1 m2 k u hk e => ?_) (fun k hk => ?_) (fun j k a hj hk hjk h => ?_) (fun k a hk h => ?_) (fun i hi => rfl)⟩
    · show (if k = i then [l] else if m ≤ k then [] else ow k) = ow k
      rw [if_neg (fun z => hk (.inl z)), if_neg (fun z => hk (.inr z))]
    · have h1 : k ≠ i := fun z => hk (.inl z)
      have h2 : k < m := by by_cases z : k < m; exact z; exact absurd (.inr (by omega)) hk
      refine ⟨?_, ?_, .inl rfl⟩
      · by_cases z : k < ρ.length
        · rw [List.getElem?_append_left (by simpa using z), List.getElem?_set_ne (Ne.symm h1)] at e
          rw [List.getElem?_append_left z]; exact e
        · rw [List.getElem?_append_right (by simp; omega), List.length_set, List.getElem?_append_left (by simp [m] at h2; omega)] at e
          rw [List.getElem?_append_right (by omega), List.getElem?_append_left (by simp [m] at h2; omega)]; exact e
      · have z : k < (σ ++ List.map some vs).length := by simp [← I.ln, ← hτ]; omega
        rw [List.map_append, List.map_append, ← List.append_assoc, ← List.append_assoc, List.getElem?_append_left z, List.getElem?_append_left z]
    · have : b ≠ l := fun z => hb i (.inl rfl) (by rw [on, z]; simp)
      rw [upd_ne this]; exact e
    · by_cases q : b = l
      · subst q; rw [upd_same]; simp
      · rw [upd_ne q]; exact z
    · have h : a ∈ (if k = i then [l] else if m ≤ k then [] else ow k) := h
      split at h
      · simp at h; subst h; exact .inl ⟨i, .inl rfl, by rw [on]; simp⟩
      · split at h
        · simp at h
        · exact absurd hk (fun z => z.elim (by assumption) (by assumption))
    · refine .inr ?_
      rcases hk with rfl | hk
      · rw [List.getElem?_append_left (by simpa using hi), List.getElem?_set_self hi] at e
        cases e
        refine ⟨.ref l, ?_, ?_⟩
        · rw [List.getElem?_append_left (by rw [← I.ln]; exact hi)]; exact hv
        · rw [owi]
          exact TIs.dctK upd_same (n1.move mv)
      · have e2 : (List.map T.dat es)[k - m]? = some u := by
          rw [List.getElem?_append_right (by simp; omega), List.length_set, List.getElem?_append_right (by omega)] at e
          rw [show k - m = k - ρ.length - τ.length by omega]; exact e
        rw [List.getElem?_map, Option.map_eq_some_iff] at e2
        obtain ⟨d, ed, rfl⟩ := e2
        obtain ⟨w, hw, rw1⟩ := n2.get ed
        have oe : ow' k = [] := by
          show (if k = i then [l] else if m ≤ k then [] else ow k) = []
          rw [if_neg (by omega), if_pos hk]
        refine ⟨w, ?_, ?_⟩
        · rw [List.map_append, ← List.append_assoc, List.getElem?_append_right (by simp [← I.ln, ← hτ]; omega)]
          simp only [List.length_append, List.length_map, ← I.ln, ← hτ]
          rw [List.getElem?_map, show k - (ρ.length + τ.length) = k - m from rfl, hw]
          rfl
        · rw [oe]
          exact .dat (rw1.move mv)
    · show (if k = i then [l] else if m ≤ k then [] else ow k).Nodup
      split
      · simp
      · split
        · exact List.nodup_nil
        · exact I.nd k
    · have h : a ∈ (if j = i then [l] else if m ≤ j then [] else ow j) := h
      show a ∉ (if k = i then [l] else if m ≤ k then [] else ow k)
      split at h
      · simp at h; subst h
        rw [if_neg (by omega)]
        split
        · simp
        · exact lb k (by omega)
      · split at h
        · simp at h
        · exact absurd hj (fun z => z.elim (by assumption) (by assumption))
    · have h : a ∈ (if k = i then [l] else if m ≤ k then [] else ow k) := h
      split at h
      · simp at h; subst h; exact ⟨_, upd_same, trivial⟩
      · split at h
        · simp at h
        · exact absurd hk (fun z => z.elim (by assumption) (by assumption))
end
def wK (o : Option D) (k : Key → Prop) : Prop := match o with
  | some (.int i) => k (.inl i)
  | some (.str x) => k (.inr x)
  | _ => False
theorem wK_some {o : Option D} {k : Key → Prop} (h : wK o k) : ∃ j, o = some (kD j) ∧ k j := by
  unfold wK at h
  split at h
  · exact ⟨.inl _, rfl, h⟩
  · exact ⟨.inr _, rfl, h⟩
  · exact h.elim
theorem kD_is {K : PySem.W.Frag} {B : Addr → Prop} {H : Hp} {j : Key} {v : V} (h : DIs K B H (kD j) v) : v = kV j := by
  cases j with
  | inl i => exact h.int_eq
  | inr x => exact h.str_eq
def sDct (ρ : List T) (i : Nat) (P : DKv → Prop) : Prop := match ρ[i]? with
  | some (.dct ps) => P ps
  | _ => False
theorem sDct_is {ρ : List T} {i : Nat} {P : DKv → Prop} (h : sDct ρ i P) : ∃ ps, ρ[i]? = some (.dct ps) ∧ P ps := by
  unfold sDct at h
  split at h
  · exact ⟨_, by assumption, h⟩
  · exact h.elim
def dDGet (i : Nat) (fk : DE) : DE := fun ρ Q => sDct ρ i fun _ => fk ρ fun x ρ1 => wK (lk ρ1 x) fun k => sDct ρ1 i fun ps => wO (valD ps k) fun d => Q (.dat d) ρ1
def dDIn (i : Nat) (fk : DE) : DE := fun ρ Q => fk ρ fun x ρ1 => wK (lk ρ1 x) fun k => sDct ρ1 i fun ps => Q (.dat (.bool (valD ps k).isSome)) ρ1
def dDNin (i : Nat) (fk : DE) : DE := fun ρ Q => fk ρ fun x ρ1 => wK (lk ρ1 x) fun k => sDct ρ1 i fun ps => Q (.dat (.bool (!(valD ps k).isSome))) ρ1
def dDPut (i : Nat) (fk fv : DE) : DS := fun D ρ => fv ρ fun y ρ1 => wD (frz y) fun d => sDct ρ1 i fun _ => fk ρ1 fun x ρ2 => wK (lk ρ2 x) fun k => sDct ρ2 i fun ps => ps.length < sizeLine ∧ D.nx (ρ2.set i (.dct (putD ps k d)))
def dDAug (i : Nat) (op : Int → Int → Int) (fk fv : DE) : DS := fun D ρ => sDct ρ i fun _ => fk ρ fun x ρ1 => wK (lk ρ1 x) fun k => sDct ρ1 i fun ps => wI (valD ps k) fun n => fv ρ1 fun y ρ2 => wI (lk ρ2 y) fun m => sDct ρ2 i fun ps2 => ps2.length < sizeLine ∧ D.nx (ρ2.set i (.dct (putD ps2 k (.int (op n m)))))
section
variable {C : Ctx} {i : Nat} {x : Str} {ek ev : Expr} {fk fv : DE} {p pos pos2 : Pos}
theorem SI.dct_at {σ : St} {H : Hp} {ρ : List T} {vs : List V} {τ : List T} {ow : Nat → List Addr} {ps : DKv} (J : SI C σ H ρ vs τ ow) (e : ρ[i]? = some (.dct ps)) : ∃ l kvs, σ[i]? = some (some (.ref l)) ∧ H l = some (.dK kvs) ∧ DKs C.K (Bar C ow) H ps kvs := by
  rcases J.slot e with z | ⟨v, hv, r⟩
  · cases z
  · obtain ⟨a, kvs, rfl, h1, h2, _⟩ := r.dct_inv
    exact ⟨a, kvs, hv, h1, h2⟩
theorem de_dget (i : Nat) (hu : C.X.A.units + 1 < cLine) (hN : C.X.N[i]? = some x) (hv : Vis C.X.env.scope x) (hk : DPE C ek fk) (hs : NoSl ek := by exact fun _ _ => rfl) (hd : (x == ("__debug__" : Str)) = false := by decide) (hcd : (x == ("__classdict__" : Str)) = false := by decide) : DPE C (.Subscript (.Name x p) ek pos) (dDGet i fk) :=
  let ⟨_, pk, sk⟩ := hk.ex
  ⟨_, pe_dget hu (pe_var hN hv hd hcd) pk hs, fun σ H ρ vs τ Qd Q I q k => by
    obtain ⟨ps0, e0, q⟩ := sDct_is q
    obtain ⟨ow, J⟩ := id I
    obtain ⟨l, kvs, h1, h2, _⟩ := J.dct_at e0
    refine ⟨.ref l, h1, sk σ H ρ vs τ _ _ I q fun v H1 y ρ1 I1 q1 => ?_⟩
    obtain ⟨j, ej, q1⟩ := wK_some q1
    obtain ⟨ps, e1, q1⟩ := sDct_is q1
    obtain ⟨d, ed, q1⟩ := wO_some q1
    have ekv := kD_is (I1.lk1 ej)
    subst ekv
    obtain ⟨ow1, J1⟩ := id I1
    obtain ⟨l', kvs', h1', h2', h3'⟩ := J1.dct_at e1
    rw [h1] at h1'; cases h1'
    obtain ⟨w, ew, dw⟩ := h3'.get.1 d ed
    refine ⟨l, w, rfl, by rw [← ew]; exact DGet.k h2', ?_⟩
    have J' : SI C σ H1 ρ1 (vs ++ [kV j]) (τ ++ [y]) ow1 := J1
    exact k _ _ _ _ (J'.oneD J1.lt1 dw) q1⟩
theorem din_core {σ : St} {H : Hp} {ρ : List T} {vs : List V} {τ : List T} {y : T} {v : V} {ps : DKv} {j : Key} (I : SS C σ H ρ (vs ++ [v]) (τ ++ [y])) (ej : lk ρ y = some (kD j)) (e : ρ[i]? = some (.dct ps)) : v = kV j ∧ ∃ l o, σ[i]? = some (some (.ref l)) ∧ DGet H l (kV j) o ∧ o.isSome = (valD ps j).isSome := by
  have ekv := kD_is (I.lk1 ej)
  obtain ⟨ow, J⟩ := id I
  obtain ⟨l, kvs, h1, h2, h3⟩ := J.dct_at e
  exact ⟨ekv, l, _, h1, DGet.k h2, h3.get.2.symm⟩
theorem ds_dput (i : Nat) (hu : C.X.A.units + 1 < cLine) (hN : C.X.N[i]? = some x) (hv : Vis C.X.env.scope x) (hk : DPE C ek fk) (hval : DPE C ev fv) (hd : (x == ("__debug__" : Str)) = false := by decide) (hcd : (x == ("__classdict__" : Str)) = false := by decide)
    (hs : swapsWith ev (some (.Subscript (.Name x p) ek pos2)) pos.line C.X.env = pure false := by rfl) : DPS C (.Assign [.Subscript (.Name x p) ek pos2] ev pos) (dDPut i fk fv) :=
  let ⟨_, pk, sk⟩ := hk.ex; let ⟨_, pv, sv'⟩ := hval.ex
  ⟨_, ps_dput hu (pe_var hN hv hd hcd) pk pv hs, fun σ H ρ vs τ Dd D I na q k => sv' σ H ρ vs τ _ _ I q fun w H1 y ρ1 I1 q1 => by
    obtain ⟨d, ed, q1⟩ := wD_some q1
    obtain ⟨ps0, e0, q1⟩ := sDct_is q1
    obtain ⟨ow, J⟩ := id I1
    obtain ⟨l, kvs, h1, h2, _⟩ := J.dct_at e0
    refine ⟨.ref l, h1, sk σ H1 ρ1 _ _ _ _ I1 q1 fun v H2 z ρ2 I2 q2 => ?_⟩
    obtain ⟨j, ej, q2⟩ := wK_some q2
    obtain ⟨ps, e1, q2⟩ := sDct_is q2
    have ekv := kD_is (I2.lk1 ej)
    subst ekv
    have I3 : SS C σ H2 ρ2 (vs ++ [w, kV j]) (τ ++ [y, z]) := by simpa using I2
    obtain ⟨l', zs, h1', h2', h3', _, mk⟩ := I3.mutD (I3.lenA rfl) e1
    rw [h1] at h1'; cases h1'
    refine ⟨l, _, rfl, DPut.k h2' (by rw [h3']; exact q2.1), ?_⟩
    have I4 := mk (putD ps j d) (putK zs j w) [] [] fun B' a b => ⟨a.put (b 0 y w d rfl rfl ed), .nil⟩
    exact k.nx _ _ _ (by simpa using I4) q2.2⟩
end
end Ds
namespace Ds
open PySem L2
section
variable {C : Ctx} {σ : St} {H : Hp} {ρ : List T} {vs xs : List V} {τ ts : List T} {i : Nat} {acc : DKv} {l : Addr} {w : V} {x : T}
end
def dDcGo (g : DG) (tt : DTt) (fk fv : DE) (own : List Nat) (K : DKv → List T → Prop) : List T → DKv → List T → Prop
  | [], acc, ρ => K acc ρ
  | t :: its, acc, ρ => g t ρ fun ρ1 => tt ρ1 fun b ρ2 => br b (fk ρ2 fun x ρ3 => wK (lk ρ3 x) fun j => fv ρ3 fun y ρ4 => wD (frz y) fun d => acc.length < sizeLine ∧ dDcGo g tt fk fv own K its (putD acc j d) (wipeT ρ4 own)) (dDcGo g tt fk fv own K its acc (wipeT ρ2 own))
def dDc (fi : DI) (g : DG) (tt : DTt) (fk fv : DE) (own : List Nat) : DE := fun ρ Q => fi ρ fun its ρ1 => dDcGo g tt fk fv own (fun ds ρ2 => Q (.dct ds) ρ2) its [] (wipeT ρ1 own)
section
variable {C : Ctx} {ek ev tge iter : Expr} {ifs : List Expr} {scope : Scope} {own : List (Str × Nat)} {pos : Pos} {fi : DI} {tt : DTt} {fk fv : DE} {tg : Tgt}
structure HasT (K : PySem.W.Frag) (mg : Str → Option Value) (x : Str) (d : D) : Prop where
  ex : ∃ u v, mg x = some u ∧ RelV v u ∧ ∀ B H, DIs K B H d v
theorem HasT.tup {K : PySem.W.Frag} {mg : Str → Option Value} {x : Str} {a : Addr} {oc : Value} {od : Option Addr} {its : Array Value} {n : Nat} {sl : Array (Option Value)} {ds : List D} {vs : List V} (hm : mg x = some (.ref a)) (hl : K.lookup a = some ⟨oc, od, .seq its n, sl⟩) (hc : oc = .type "tuple") (hz : its.size ≤ sizeLine) (hv : Vals vs its.toList) (hd : ds.map sv = vs.map some) (hn : od = none := by rfl) : HasT K mg x (.tuple ds) :=
  ⟨_, .ref a, hm, rfl, fun B H => .tuple (.inr ⟨_, its, n, hl, hc, rfl, hz, hv, hn⟩) (by
    have go : ∀ {ds : List D} {zs : List V}, ds.map sv = zs.map some → DIsL K B H ds zs := by
      intro ds
      induction ds with
      | nil => intro zs e; cases zs with
        | nil => exact .nil
        | cons z zs => simp at e
      | cons d ds ih => intro zs e; cases zs with
        | nil => simp at e
        | cons z zs =>
          simp only [List.map_cons, List.cons.injEq] at e
          exact .cons (sv_is e.1) (ih e.2)
    exact go hd)⟩
end
theorem RoomG.u1 {k : Nat} {A : Around} (r : RoomG k A) : A.units + 1 < cLine := by have := r.rm.un; omega
end Ds
namespace Ds
open PySem L2
section
variable {C : Ctx} {a b c : Expr} {fa fb fc : DE} {pos : Pos}
theorem sim_chain {p1 p2 : Int → Int → Bool} {ta tb tc : TE} (sa : Sim C ta fa) (sb : Sim C tb fb) (sc : Sim C tc fc) : Sim C (tChain (rI0 fun i j => .bl (p1 i j)) (rI0 fun i j => .bl (p2 i j)) ta tb tc) (dChain p1 p2 fa fb fc) :=
  fun σ H ρ vs τ Qd Q I q k => sa σ H ρ vs τ _ _ I q fun u H1 x ρ1 I1 q1 => sb σ H1 ρ1 _ _ _ _ I1 q1 fun v H2 y ρ2 I2 q2 => by
    obtain ⟨i, e1, q2⟩ := wI_some q2
    obtain ⟨j, e2, q2⟩ := wI_some q2
    have hy := (I2.lk1 e2).int_eq
    refine ⟨i, j, (I2.lk2 e1).int_eq, hy, _, rfl, ?_⟩
    generalize p1 i j = bb at q2 ⊢
    cases bb with
    | true =>
      rw [if_pos rfl]
      refine sc σ H2 ρ2 vs τ _ _ I2.pop2 (q2.t rfl) fun w H3 z ρ3 I3 q3 => ?_
      obtain ⟨n, e3, q3⟩ := wI_some q3
      exact ⟨j, n, hy, (I3.lk1 e3).int_eq, k _ _ _ _ (I3.pop.bool _) q3⟩
    | false => rw [if_neg (by decide)]; exact k _ _ _ _ (I2.pop2.bool _) (q2.f rfl)
theorem dt_chain {op op' : CmpOp} {p1 p2 : Int → Int → Bool} (h1 : OpR C.X (compareOp op) (rI0 fun i j => .bl (p1 i j))) (h2 : OpR C.X (compareOp op') (rI0 fun i j => .bl (p2 i j))) (ha : DPE C a fa) (hb : DPE C b fb) (hc : DPE C c fc)
    (hm : lastMarks [op, op'] [b, c] = false := by with_unfolding_all rfl) : DPT C (.Compare a [op, op'] [b, c] pos) (tVal (dChain p1 p2 fa fb fc)) :=
  let ⟨_, pa, sa⟩ := ha.ex; let ⟨_, pb, sb⟩ := hb.ex; let ⟨_, pc, sc⟩ := hc.ex
  ⟨_, pt_chain h1 h2 pa pb pc hm, sim_test (sim_chain sa sb sc)⟩
end
end Ds
namespace Ds
open PySem L2
def rngI (a b : Int) : List Int := (List.range (b - a).toNat).map fun i => a + ((i : Nat) : Int)
def dLstRg1 (fe : DE) : DE := fun ρ Q => fe ρ fun x ρ1 => wI (lk ρ1 x) fun j => RgOk 0 j ∧ Q (.own ((rngI 0 j).map .int)) ρ1
section
variable {C : Ctx} {e : Expr} {fe : DE} {p p1 pos pos1 : Pos}
end
end Ds
namespace Ds
open PySem L2
end Ds
namespace Ds
open PySem L2
def wTx (o : Option D) (k : Str → Prop) : Prop := ∃ z : Str, o = some (.str z) ∧ k z
abbrev dStrI : DOn := cu1 fun d k => match d with
  | .int i => i.natAbs.log2 < 1920 ∧ k (.str (toString i))
  | _ => False
abbrev dIntS : DOn := cu1 fun d k => match d with
  | .str a => ∃ n : Int, PySem.intText? a = some n ∧ a.length ≤ 640 ∧ k (.int n)
  | _ => False
section
variable {C : Ctx} {e o a b tg : Expr} {fe fo fa fb : DE} {fs : DA} {p pos apos : Pos}
def dJoin (fo fe : DE) : DE := fun ρ Q => fo ρ fun x ρ1 => wTx (lk ρ1 x) fun a => match x with
  | .dat _ => fe ρ1 fun y ρ2 => ∃ ys : List Str, lk ρ2 y = some (.list (ys.map .str)) ∧ (ys.map (·.length)).sum + ys.length * a.length ≤ 16777216 ∧ Q (.dat (.str (Txt.join a ys))) ρ2
  | _ => False
def dSplit (fo fe : DE) : DE := fun ρ Q => fo ρ fun x ρ1 => wTx (lk ρ1 x) fun a => match x with
  | .dat _ => fe ρ1 fun y ρ2 => wTx (lk ρ2 y) fun b => (b.length == 0) = false ∧ a.length + 2 ≤ sizeLine ∧ Q (.own ((Txt.split a b).map .str)) ρ2
  | .bor _ => fe ρ1 fun y ρ2 => wTx (lk ρ2 y) fun b => (b.length == 0) = false ∧ a.length + 2 ≤ sizeLine ∧ Q (.own ((Txt.split a b).map .str)) ρ2
  | _ => False
def chD (z : Str) : List T := z.cps.toList.map fun c => .dat (.str ⟨#[c]⟩)
def dStrIt (f : DE) : DI := fun ρ Q => f ρ fun x ρ1 => wTx (lk ρ1 x) fun z => Q (chD z) ρ1
abbrev dNinS : DO2 := pu2 fun d e k => match d, e with
  | .str x, .str z => ∃ c : Nat, x = ⟨#[c]⟩ ∧ k (.bool (!decide (c ∈ z.cps.toList)))
  | _, _ => False
abbrev dMulS : DO2 := pu2 fun d e k => match d, e with
  | .str z, .int n => (2 ≤ n ∧ n ≤ 1000 ∧ 0 < z.length ∧ z.length ≤ 1000) ∧ k (.str ⟨(List.replicate n.toNat z.cps).foldl (· ++ ·) #[]⟩)
  | _, _ => False
def dSorted : DOn := fun ρ ts Q => match ts with
  | [x] => wInts (lk ρ x) fun ns => ∀ ns' : List Int, ns'.Perm ns → ns'.Pairwise (· ≤ ·) → Q (.own (ns'.map .int)) ρ
  | _ => False
def dRevI (f : DE) : DE := fun ρ Q => f ρ fun x ρ1 => wInts (lk ρ1 x) fun ns => Q (.own (ns.reverse.map .int)) ρ1
end
end Ds
namespace Ds
open PySem L2
structure KDI (P : Program) (w : World) (K : PySem.W.Frag) (a : Addr) (kvs : List (Key × V)) : Prop where
  ex : ∃ (o : Obj) (es : Array DictEntry) (ep : Nat) (vs : List (Key × Value)), K.lookup a = some o ∧ (a == sysModules) = false ∧ o.ExactDict ∧ o.data = .dict es ep ∧ KV kvs vs ∧ KeysOf (mixKind P w) es ∧ Pairs (mixKind P w) es.toList vs ∧ (vs.map (·.1)).Nodup
structure HasKD (P : Program) (w : World) (K : PySem.W.Frag) (mg : Str → Option Value) (x : Str) (ps : DKv) : Prop where
  ex : ∃ a kvs, mg x = some (.ref a) ∧ KDI P w K a kvs ∧ ∀ B H, DKs K B H ps kvs
theorem KDI.at_ {P : Program} {w : World} {K : PySem.W.Frag} {a : Addr} {kvs : List (Key × V)} (D : KDI P w K a kvs) :
    ∃ (o : Obj) (es : Array DictEntry) (ep : Nat) (vs : List (Key × Value)), (a == sysModules) = false ∧ o.data = .dict es ep ∧ KV kvs vs ∧ ∀ h : Heap, K.In h → h.get? a = some o ∧ h.DictAt (mixKind P w) a vs ep := by
  obtain ⟨o, es, ep, vs, h1, h2, h3, h4, h5, h6, h7, h8⟩ := D.ex
  refine ⟨o, es, ep, vs, h2, h4, h5, fun h hK => ?_⟩
  have e : h.get? a = some o := hK _ _ h1
  exact ⟨e, o, es, e, h3, h4, h6, h7, h8⟩
section
variable {X : Cx} {a : Addr} {kvs : List (Key × V)}
def ItK (kvs : List (Key × V)) : It :=
  ⟨fun i _ => i < kvs.length, fun i H x H' => ∃ (T : Addr) (k : Key) (v : V) (ob : Obj), kvs[i]? = some (k, v) ∧ x = .ref T ∧ H T = none ∧ ob.dict = none ∧ H' = upd H T (.frz ob (.tup [kV k, v])), fun i _ => kvs.length ≤ i⟩
end
section
variable {P : Program} {w : World} {K : PySem.W.Frag} {d : Addr} {kvs : List (Key × V)}
end
section
variable {X : Cx} {a : Addr} {kvs : List (Key × V)} {p apos cpos : Pos} {x : Str}
end
def dKGet (ps : DKv) (fk : DE) : DE := fun ρ Q => fk ρ fun y ρ1 => wK (lk ρ1 y) fun j => wO (valD ps j) fun d => Q (.dat d) ρ1
def dKItems (ps : DKv) : DI := fun ρ Q => Q (ps.map fun p => .dat (.tuple [kD p.1, p.2])) ρ
def dDGetE (fo fk : DE) : DE := fun ρ Q => fo ρ fun x ρ1 => fk ρ1 fun y ρ2 => match x with
  | .dct ps => wK (lk ρ2 y) fun j => wO (valD ps j) fun d => Q (.dat d) ρ2
  | _ => False
section
variable {C : Ctx} {x : Str} {ps : DKv} {ek eo : Expr} {fk fo : DE} {p pos apos cpos : Pos}
end
end Ds
namespace Ds
open PySem L2
def isE (L : List (Int × Tok × Str × Tok)) : List DictEntry := L.map fun q => ⟨hashInt q.1, .int q.1 q.2.1, .str q.2.2.1 q.2.2.2⟩
end Ds
namespace Ds
open PySem L2
def rngT3 (lo c : Int) (n : Nat) : List T := (List.range n).map fun k => .dat (.int (lo + (k : Nat) * c))
def dRange3 (f : DA) : DI := fun ρ Q => f ρ fun ts ρ1 => match ts with
  | [x, y, z] => wI (lk ρ1 x) fun i => wI (lk ρ1 y) fun j => wI (lk ρ1 z) fun c => ∃ n : Nat, RgC i j c n ∧ Q (rngT3 i c n) ρ1
  | _ => False
def dDivmod : DOn := fun ρ ts Q => match ts with
  | [x, y] => wI (lk ρ x) fun i => wI (lk ρ y) fun j => CDivP i j ∧ Q (.dat (.tuple [.int (i / j), .int (i % j)])) ρ
  | _ => False
section
variable {C : Ctx} {tg e e2 e3 : Expr} {fs : DA} {pos p : Pos}
end
end Ds
namespace Ds
open PySem L2
def dLcGoP (P : List T → Prop) (g : DG) (tt : DTt) (fe : DE) (own : List Nat) (K : List D → List T → Prop) : List T → List D → List T → Prop
  | [], acc, ρ => P ρ ∧ K acc ρ
  | t :: its, acc, ρ => P ρ ∧ g t ρ fun ρ1 => tt ρ1 fun b ρ2 => br b (fe ρ2 fun y ρ3 => wD (frz y) fun d => acc.length < sizeLine ∧ dLcGoP P g tt fe own K its (acc ++ [d]) (wipeT ρ3 own)) (dLcGoP P g tt fe own K its acc (wipeT ρ2 own))
def dLcP (P : List T → Prop) (fi : DI) (g : DG) (tt : DTt) (fe : DE) (own : List Nat) : DE := fun ρ Q => fi ρ fun its ρ1 => dLcGoP P g tt fe own (fun ds ρ2 => Q (.own ds) ρ2) its [] (wipeT ρ1 own)
def WalksDP (C : Ctx) (P : List T → Prop) (J : It) (sv : List V) (sx : List T) (its : List T) : Prop := ∀ (i : Nat) (σ : St) (H : Hp) (ρ : List T) (vs : List V) (τ : List T), τ.length = vs.length → P ρ → SS C σ H ρ (vs ++ sv) (τ ++ sx) →
  (its.length ≤ i → J.stop i H) ∧ ∀ t, its[i]? = some t → J.go i H ∧ ∀ w H', J.yld i H w H' → SS C σ H' ρ (vs ++ sv ++ [w]) (τ ++ sx ++ [t])
def SimIP (C : Ctx) (P : List T → Prop) (wi : TI) (f : DI) : Prop := ∀ (σ : St) (H : Hp) (ρ : List T) (vs : List V) (τ : List T) (Qd : List T → List T → Prop) (R : It → Hp → Prop), SS C σ H ρ vs τ → f ρ Qd →
  (∀ J H' sv sx its ρ', SS C σ H' ρ' (vs ++ sv) (τ ++ sx) → WalksDP C P J sv sx its → Qd its ρ' → R J H') → wi σ H R
section
variable {C : Ctx}
variable {elt tge iter : Expr} {ifs : List Expr} {scope : Scope} {own : List (Str × Nat)} {pos : Pos} {fi : DI} {tt : DTt} {fe : DE} {tg : Tgt}
end
end Ds
namespace Ds
open PySem L2
def ownIs (j : Nat) (ns : List Int) : List T → Prop := fun ρ => ρ[j]? = some (.own (ns.map .int))
def dLcA (j : Nat) (g : DG) (tt : DTt) (fe : DE) (own : List Nat) : DE := fun ρ Q => ∃ ns : List Int, ownIs j ns ρ ∧ dLcGoP (ownIs j ns) g tt fe own (fun ds ρ2 => Q (.own ds) ρ2) (ns.map fun n => .dat (.int n)) [] (wipeT ρ own)
section
variable {C : Ctx}
end
section
variable {C : Ctx} {elt tge : Expr} {ifs : List Expr} {scope : Scope} {own : List (Str × Nat)} {pos p0 : Pos} {tt : DTt} {fe : DE} {tg : Tgt} {x : Str}
end
end Ds
namespace Ds
open PySem L2 PySem.Spec PyProof.Rows
section
variable {X : Cx} {pins : List (Addr × Obj)} {σ : L2.St} {H : Hp} {sI sE : Shared} {G : Heap} {a : Addr} {ob : Obj} {us : Array Value} {cls : Value} {d : Option Addr}
end
abbrev endsNo (i : Nat) (D : Ends) : Ends := { nx := fun τ G => D.nx (τ.set i none) G, rt := D.rt, bk := fun τ G => D.bk (τ.set i none) G, ct := fun τ G => D.ct (τ.set i none) G }
def wTr (K : PySem.W.Frag) (c : Value) (i : Nat) (ts : Addr → Value → Option Addr → TS) (D : Ends) : WX := fun cls d σ H =>
  PySem.W.exmOne K cls c = some true ∧ ∀ a, H a = none → ts a cls d (endsNo i D) (σ.set i (some (.ref a))) (upd H a (ExcO cls d a))
section
variable {X : Cx} {x n : Str} {c : Value} {i : Nat} {body suite : List Stmt} {b₀ : Stmt} {np pos pos' : Pos} {tb : WX → TS} {ts : Addr → Value → Option Addr → TS}
end
structure HasE (K : PySem.W.Frag) (mg : Str → Option Value) (n : Str) : Prop where
  ex : ∃ a, mg n = some (.ref a) ∧ PySem.W.nsIn K mainGlobals n = some (some (.ref a)) ∧ PySem.W.excIn K a [.type "ValueError", .type "Exception", .type "BaseException", .type "object"] "ValueError.__new__" = true ∧
    PySem.W.keepIn K (.ref a) = true ∧ PySem.W.subIn K (.ref a) (.type "BaseException") = some true ∧ PySem.W.typeIn K (.ref a) = some (.type "type")
def dRaise (Wd : Exn → List T → Prop) (n : Str) : DS := fun _ ρ => Wd ⟨n, none⟩ ρ
section
variable {C : Ctx} {x m : Str} {j : Nat} {p p2 pos pos' : Pos}
theorem ds_raise (h : HasE C.X.K C.X.mg x) (hc : C.X.calm = true) (tk : DTk C) (hg : Gl C.X x) (hdb : (x == ("__debug__" : Str)) = false := by decide) : DPS C (.Raise (some (.Call (.Name x p) [.Constant (.str m) j p2] [] pos)) none pos') (dRaise C.Wd x) :=
  let ⟨_, g, ns, x, k, b, t⟩ := h.ex
  ⟨_, ps_raise hc tk (pmk_own PySem.F.excBase_ValueError x g k (raises_own b t) hg hdb), fun σ H ρ vs τ Dd D I na q k => ⟨_, ρ, ⟨ns, rfl⟩, SS.drop (vs := []) (τ := []) I rfl, q⟩⟩
end
def tabHas : List Str → Str → Bool
  | [], _ => false
  | n :: r, m => match decide (n = m) with
    | true => true
    | false => tabHas r m
def fsOk : Option (List (Str × D)) → Bool
  | none => true
  | some fs => safeL (fs.map (·.2))
def dTryW (tab : List Str) (i j : Nat) (D : DEnds) : Exn → List T → Prop := fun ex ρ => tabHas tab ex.cls = true ∧ fsOk ex.fs = true ∧ (i < ρ.length ∧ j < ρ.length) ∧ D.nx ((ρ.set j (.exc ex)).set i .emp)
def dTry (tab : List Str) (i j : Nat) (fb : (Exn → List T → Prop) → DS) : DS := fun D ρ => fb (dTryW tab i j D) D ρ
abbrev Ctx.inTry (C : Ctx) (pn : List (Addr × Obj)) (xe : Value → Shared → Prop) (Wd : Exn → List T → Prop) : Ctx := { C with X := C.X.tr pn xe, Wd := Wd }
section
variable {C : Ctx} {σ : L2.St} {H : Hp} {ρ : List T} {vs : List V} {τ : List T}
end
end Ds
namespace Ds
open PySem L2
def DcO (H : Hp) (d : Option Addr) : Prop := d = none ∨ ∃ dx fv, d = some dx ∧ H dx = some (.xd fv)
def rIsX (K : PySem.W.Frag) : List V → Hp → VK → Prop := fun xs H Q => ∃ (a D : Addr) (c : V) (cv : Value) (b : Bool), xs = [.ref a, c] ∧ (∃ d, H a = some (ExcO (.ref D) d a) ∧ DcO H d) ∧ ExcC K D ∧ ClsV c cv ∧ PySem.W.kitOne K (.ref D) cv = some b ∧ Q (.bl b) H
def rIsXT (K : PySem.W.Frag) : List V → Hp → VK → Prop := fun xs H Q => ∃ (a D tp : Addr) (cs : List V) (us : List Value) (b : Bool), xs = [.ref a, .ref tp] ∧ (∃ d, H a = some (ExcO (.ref D) d a) ∧ DcO H d) ∧ ExcC K D ∧ H tp = some (.tup cs) ∧ Paired ClsV cs us ∧ PySem.W.kitAny K (.ref D) us = some b ∧ Q (.bl b) H
section
variable {X : Cx} {pins : List (Addr × Obj)} {σ : St} {H : Hp} {s : Shared}
end
def lkB : List (Str × Bool) → Str → Option Bool
  | [], _ => none
  | (n, b) :: r, m => match decide (n = m) with
    | true => some b
    | false => lkB r m
structure IsX (K : PySem.W.Frag) (m : Str) (cv : Value) (b : Bool) : Prop where
  ex : ∃ D, PySem.W.nsIn K mainGlobals m = some (some (.ref D)) ∧ ExcC K D ∧ PySem.W.kitOne K (.ref D) cv = some b
def Tab (K : PySem.W.Frag) (cv : Value) (tb : List (Str × Bool)) : Prop := ∀ q ∈ tb, IsX K q.1 cv q.2
theorem Tab.nil {K : PySem.W.Frag} {cv : Value} : Tab K cv [] := fun q h => by simp at h
theorem Tab.cons {K : PySem.W.Frag} {cv : Value} {m : Str} {b : Bool} {tb : List (Str × Bool)} (h : IsX K m cv b) (t : Tab K cv tb) : Tab K cv ((m, b) :: tb) := fun q hq => by
  rcases List.mem_cons.mp hq with rfl | hq
  · exact h
  · exact t q hq
def dIsX (tb : List (Str × Bool)) (fe : DE) : DE := fun ρ Q => fe ρ fun x ρ1 => match dr ρ1 x with
  | .exc ex => ∃ b, (ex.fs = ex.fs ∧ lkB tb ex.cls = some b) ∧ Q (.dat (.bool b)) ρ1
  | _ => False
section
variable {C : Ctx} {e : Expr} {fe : DE} {p p1 pos : Pos} {x : Str} {tb : List (Str × Bool)}
end
structure HasI (K : PySem.W.Frag) (mg : Str → Option Value) (x : Str) (tb : List (Str × Bool)) : Prop where
  ex : ∃ a, mg x = some (.ref a) ∧ Tab K (.ref a) tb
section
variable {C : Ctx} {e : Expr} {fe : DE} {p p1 pos : Pos} {x : Str} {tb : List (Str × Bool)}
end
def Catch (K : PySem.W.Frag) (c : Value) (tab : List Str) : Prop := ∀ m ∈ tab, ∀ cls, PySem.W.nsIn K mainGlobals m = some (some cls) → PySem.W.exmOne K cls c = some true
theorem Catch.nil {K : PySem.W.Frag} {c : Value} : Catch K c [] := fun m h => by simp at h
theorem Catch.cons {K : PySem.W.Frag} {c cls : Value} {m : Str} {tab : List Str} (ns : PySem.W.nsIn K mainGlobals m = some (some cls)) (h : PySem.W.exmOne K cls c = some true) (t : Catch K c tab) : Catch K c (m :: tab) := fun q hq cls' hc => by
  rcases List.mem_cons.mp hq with rfl | hq
  · rw [ns] at hc; cases hc; exact h
  · exact t q hq cls' hc
structure HasTry (K : PySem.W.Frag) (mg : Str → Option Value) (x : Str) (tab : List Str) : Prop where
  ex : ∃ c, mg x = some c ∧ Catch K c tab
def dIsNX : DO2 := fun ρ x y Q => wD (lk ρ y) fun d => match d with
  | .none => match dr ρ x with
    | .exc _ => Q (.dat (.bool false)) ρ
    | .dat d => Q (.dat (.bool (isN d))) ρ
    | .bor d => Q (.dat (.bool (isN d))) ρ
    | _ => False
  | _ => False
def dPick2 (i : Nat) (m : Int) (ms1 : List Md) (sp1 : DSp) (ms2 : List Md) (sp2 : DSp) (Wd : Exn → List T → Prop) (fs : DA) : DE := fun ρ Q => match ρ[i]? with
  | some (.dat (.int n)) => (n - m = 0 ∧ dCall ms1 sp1 Wd fs ρ Q) ∨ (n - m = 1 ∧ dCall ms2 sp2 Wd fs ρ Q)
  | some (.bor (.int n)) => (n - m = 0 ∧ dCall ms1 sp1 Wd fs ρ Q) ∨ (n - m = 1 ∧ dCall ms2 sp2 Wd fs ρ Q)
  | _ => False
section
variable {C : Ctx} {k1 k2 j i : Nat} {ps1 ps2 : List Str} {x1 x2 : Str} {e ie : Expr} {es : List Expr} {fs : DA} {ms1 ms2 : List Md} {sp1 sp2 : DSp} {te : TE} {m : Int} {q1 q2 lpos spos pos : Pos}
end
end Ds
namespace Ds
open PySem L2
def tRefs : List Addr → TA
  | [] => tNil
  | a :: r => tCons (tC (.ref a)) (tRefs r)
inductive NamesOf (X : Cx) : List Expr → List Str → Prop
  | nil : NamesOf X [] []
  | cons {x : Str} {p : Pos} {es : List Expr} {xs : List Str} : Gl X x → (x == ("__debug__" : Str)) = false → starEach (.Name x p :: es) X.env = (false, eval (.Name x p) X.env) :: starEach es X.env → NamesOf X es xs → NamesOf X (.Name x p :: es) (x :: xs)
def Addrs (mg : Str → Option Value) : List Str → List Addr → Prop
  | [], [] => True
  | x :: xs, a :: as => mg x = some (.ref a) ∧ Addrs mg xs as
  | _, _ => False
theorem NamesOf.pa {X : Cx} : ∀ {es : List Expr} {xs : List Str} {as : List Addr}, NamesOf X es xs → Addrs X.mg xs as → PA X es (tRefs as)
  | _, _, [], .nil, _ => pa_nil
  | _, _, a :: as, .cons g d st r, h => pa_cons (pe_glob (v := .ref a) g h.1 rfl d) (r.pa h.2) st
  | _, _, _ :: _, .nil, h => h.elim
  | _, _, [], .cons _ _ _ _, h => h.elim
theorem Addrs.len {mg : Str → Option Value} : ∀ {xs : List Str} {as : List Addr}, Addrs mg xs as → as.length = xs.length
  | [], [], _ => rfl
  | _ :: _, _ :: _, h => congrArg (· + 1) (Addrs.len h.2)
  | [], _ :: _, h => h.elim
  | _ :: _, [], h => h.elim
def TabU (K : PySem.W.Frag) (as : List Addr) (tb : List (Str × Bool)) : Prop := ∀ q ∈ tb, ∃ D, PySem.W.nsIn K mainGlobals q.1 = some (some (.ref D)) ∧ ExcC K D ∧ PySem.W.kitAny K (.ref D) (as.map Value.ref) = some q.2
theorem TabU.nil {K : PySem.W.Frag} {as : List Addr} : TabU K as [] := fun q h => by simp at h
theorem TabU.cons {K : PySem.W.Frag} {as : List Addr} {m : Str} {b : Bool} {tb : List (Str × Bool)} {E : Addr} (h1 : PySem.W.nsIn K mainGlobals m = some (some (.ref E))) (h2 : ExcC K E) (h3 : PySem.W.kitAny K (.ref E) (as.map Value.ref) = some b) (t : TabU K as tb) : TabU K as ((m, b) :: tb) := fun q hq => by
  rcases List.mem_cons.mp hq with rfl | hq
  · exact ⟨E, h1, h2, h3⟩
  · exact t q hq
structure HasU (K : PySem.W.Frag) (mg : Str → Option Value) (xs : List Str) (tb : List (Str × Bool)) : Prop where
  ex : ∃ as, Addrs mg xs as ∧ TabU K as tb
section
variable {C : Ctx} {e : Expr} {fe : DE} {p pos tpos : Pos} {kk : Nat} {es : List Expr} {xs : List Str} {tb : List (Str × Bool)}
end
end Ds
namespace Ds
open PySem L2
def dLstRg2 (fa fb : DE) : DE := fun ρ Q => fa ρ fun x ρ1 => fb ρ1 fun y ρ2 => wI (lk ρ2 x) fun i => wI (lk ρ2 y) fun j => RgOk i j ∧ Q (.own ((rngI i j).map .int)) ρ2
section
variable {C : Ctx} {e e2 : Expr} {fe fe2 : DE} {p p1 pos pos1 : Pos}
end
end Ds
namespace Ds
open PySem L2
def dCnt (fo : DE) (fs : DA) : DE := fun ρ Q => fo ρ fun x ρ1 => wInts (lk ρ1 x) fun _ => fs ρ1 fun ts ρ2 => match ts with
  | [y] => wInts (lk ρ2 x) fun ns => wI (lk ρ2 y) fun k => Q (.dat (.int (ns.count k : Nat))) ρ2
  | _ => False
section
variable {C : Ctx} {o e : Expr} {fo : DE} {fs : DA} {apos cpos : Pos}
def dLstI : DOn := fun ρ ts Q => match ts with
  | [x] => ∃ ns : List Int, (lk ρ x = some (.list (ns.map .int)) ∨ lk ρ x = some (.tuple (ns.map .int))) ∧ Q (.own (ns.map .int)) ρ
  | _ => False
theorem sim_lstI : SimC C (fun xs H Q => ∃ p ys, xs = [.ref p] ∧ (SqL C.K H p ys ∨ SqT C.K H p ys) ∧ ∀ l, H l = none → Q (.ref l) (upd H l (.lst ys))) dLstI := by
  intro σ H ρ vs τ xs ts Qd Q I hl hτ q k
  unfold dLstI at q
  split at q
  · rename_i x
    obtain ⟨v, rfl⟩ := len1 hl
    obtain ⟨ns, e, q⟩ := q
    obtain ⟨ow, J⟩ := id I
    rcases e with e | e
    · have dv := SS.lk1 I e
      cases dv with
      | @list a0 vs0 _ e0 n t =>
        rw [ints_inv t] at e0
        exact ⟨_, _, rfl, .inl (.inl (.of e0)), fun p hp => k _ _ _ _ (J.newL hτ hp ints_is) q⟩
    · have dv := SS.lk1 I e
      cases dv with
      | @tuple a0 vs0 _ e0 t =>
        have ev := ints_inv t
        subst ev
        exact ⟨_, _, rfl, .inr e0.sq, fun p hp => k _ _ _ _ (J.newL hτ hp ints_is) q⟩
  · exact q.elim
theorem de_lstI {p pos : Pos} (hg : Gl C.X "list") (hm : C.X.mg "list" = none) (ha : DPA C [e] fs) (he : starEach [e] C.X.env = [(false, eval e C.X.env)] := by rfl) : DPE C (.Call (.Name "list" p) [e] [] pos) (dCB dLstI fs) :=
  de_callTy call_list_of sim_lstI hg hm PyProof.Rows.boot_list ha (by decide) (by decide) he
end
end Ds
namespace Ds
open PySem L2
section
variable {K : PySem.W.Frag} {B B' Bb Bb' : Addr → Prop} {H H' : Hp} {σ σ' : St}
theorem TIsL.append : ∀ {ts us : List T} {vs ws : List V} {o1 o2 : List Addr}, TIsL K B Bb σ H ts vs o1 → TIsL K B Bb σ H us ws o2 → TIsL K B Bb σ H (ts ++ us) (vs ++ ws) (o1 ++ o2)
  | _, _, _, _, _, _, .nil, s => s
  | _, _, _, _, _, _, .cons r t, s => by rw [List.append_assoc]; exact .cons r (TIsL.append t s)
end
section
variable {C : Ctx} {σ σ' σ2 : St} {H H' : Hp} {ρ ρ' : List T} {vs xs : List V} {τ ts acc : List T} {own : List Nat} {v w : V} {x t : T} {l : Addr}
end
def dLcKGo (g : DG) (tt : DTt) (fe : DE) (own : List Nat) (K : List T → List T → Prop) : List T → List T → List T → Prop
  | [], acc, ρ => K acc ρ
  | t :: its, acc, ρ => g t ρ fun ρ1 => tt ρ1 fun b ρ2 => br b (fe ρ2 fun y ρ3 => noAli y = true ∧ acc.length < sizeLine ∧ dLcKGo g tt fe own K its (acc ++ [y]) (wipeT ρ3 own)) (dLcKGo g tt fe own K its acc (wipeT ρ2 own))
def dLcK (fi : DI) (g : DG) (tt : DTt) (fe : DE) (own : List Nat) : DE := fun ρ Q => fi ρ fun its ρ1 => dLcKGo g tt fe own (fun ts ρ2 => Q (.lst ts) ρ2) its [] (wipeT ρ1 own)
section
variable {C : Ctx} {elt tge iter : Expr} {ifs : List Expr} {scope : Scope} {own : List (Str × Nat)} {pos : Pos} {fi : DI} {tt : DTt} {fe : DE} {tg : Tgt}
variable {py spos : Pos} {i : Nat} {y : Str}
end
section
variable {C : Ctx} {σ σ' σ2 : St} {H H' : Hp} {ρ ρ' : List T} {vs xs : List V} {τ ts acc : List T} {own : List Nat} {v w : V} {x t : T} {l : Addr}
end
def dInner (i j k : Nat) (g : Int → Int) : DS := fun D ρ => match ρ[i]? with
  | some (.lst ts) => match ts.getLast? with
    | some (.own ds) => match ds[k]? with
      | some (.int n) => (j < ρ.length ∧ i ≠ j) ∧ D.nx ((ρ.set j .emp).set i (.lst (ts.dropLast ++ [.own (ds.set k (.int (g n)))])))
      | _ => False
    | _ => False
  | _ => False
section
variable {C : Ctx} {i j : Nat} {x y : Str} {p1 p2 p3 p4 p5 p6 p7 p8 p9 : Pos} {rest : List Stmt} {f : DS}
end
end Ds
namespace Ds
open PySem L2
section
variable {K : PySem.W.Frag} {B B' Bb Bb' : Addr → Prop} {H H' : Hp} {σ σ' : St}
theorem TIsL.get : ∀ {ts : List T} {vs : List V} {os : List Addr} {j : Nat} {t : T}, TIsL K B Bb σ H ts vs os → ts[j]? = some t → ∃ v o, vs[j]? = some v ∧ TIs K B Bb σ H t v o ∧ ∀ a ∈ o, a ∈ os
  | _, _, _, _, _, .nil, e => by simp at e
  | _, _, _, 0, _, .cons r t, e => by simp at e; subst e; exact ⟨_, _, rfl, r, fun a h => by simp [h]⟩
  | _, _, _, j + 1, _, .cons r t, e => by
    obtain ⟨v, o, h1, h2, h3⟩ := TIsL.get (j := j) t (by simpa using e)
    exact ⟨v, o, by simpa using h1, h2, fun a h => by simp [h3 a h]⟩
end
structure KC (K : PySem.W.Frag) (k : Nat) (C : Addr) : Prop where
  at_ : PySem.W.nsIn K mainGlobals (insC k).1 = some (some (.ref C))
  cls : Cls K C
structure HasF (K : PySem.W.Frag) (k : Nat) (f : Str) : Prop where
  ex : ∃ C, KC K k C ∧ NoAttr K C f
section
variable {C : Ctx} {σ σ' σ2 : St} {H H' : Hp} {ρ ρ' : List T} {vs xs : List V} {τ ts acc : List T} {own : List Nat} {v w : V} {x t : T} {l : Addr}
end
def bq (b : Bool) (p : Prop) : Prop := match b with
  | true => p
  | false => False
theorem bq_is {b : Bool} {p : Prop} (h : bq b p) : b = true ∧ p := by
  cases b with
  | true => exact ⟨rfl, h⟩
  | false => exact h.elim
def dFld (k i j : Nat) : DE := fun ρ Q => match ρ[i]? with
  | some (.ins k' ts) => bq (Nat.beq k' k) (match ts[j]? with
    | some (.dat d) => Q (.dat d) ρ
    | _ => False)
  | _ => False
def dFldNew (k i j : Nat) (fe : DE) : DS := fun D ρ => fe ρ fun x ρ1 => match noAli x with
  | true => match ρ1[i]? with
    | some (.ins k' ts) => bq (Nat.beq k' k) (bq (Nat.beq ts.length j) (D.nx (ρ1.set i (.ins k (ts ++ [x])))))
    | _ => False
  | false => False
def dFldNewF (k i j : Nat) (fe : DE) : DS := fun D ρ => fe ρ fun x ρ1 => wD (frz x) fun d => match ρ1[i]? with
  | some (.ins k' ts) => bq (Nat.beq k' k) (bq (Nat.beq ts.length j) (D.nx (ρ1.set i (.ins k (ts ++ [.dat d])))))
  | _ => False
section
variable {C : Ctx} {i : Nat} {x f : Str} {p pos pos' : Pos} {e : Expr} {fe : DE}
end
end Ds
namespace Ds
open PySem L2
def tMethSD (C : Addr) (m : Str) (sp : Sp) (dvs : List V) (E : St → XK) (ta : TE) (t : TA) : TE := fun σ H Q => ta σ H fun x H1 => ∃ a dx fs, x = .ref a ∧ H1 a = some (.ins C dx fs) ∧ fs.lookup m = none ∧ t σ H1 fun vs H2 => sp (x :: (vs ++ dvs)) H2 Q (E σ)
def tMakeSD (C : Addr) (sp : Sp) (dvs : List V) (E : St → XK) (t : TA) : TE := fun σ H Q => t σ H fun vs H1 => ∀ x dx, H1 x = none → H1 dx = none → dx ≠ x → sp (.ref x :: (vs ++ dvs)) (upd (upd H1 dx (.own x)) x (.ins C dx [])) (fun v H2 => v = .non ∧ Q (.ref x) H2) (E σ)
section
variable {X : Cx} {k : Nat} {f C : Addr} {fd : FuncData} {ps : List Str} {sp : Sp} {dvs : List V} {ds : List Value} {E : St → XK} {x m : Str} {p pos apos : Pos} {e o : Expr} {es : List Expr} {ta : TE} {t : TA}
end
structure HasM (P : Program) (w : World) (K : PySem.W.Frag) (mg : Str → Option Value) (base : Heap) (c : Nat) (m : Str) (k : Nat) (ps : List Str) (ms : List Md) (spd : DSp) : Prop where
  ex : ∃ C f fd, KC K c C ∧ Meth K C m f ∧ Binds K fd ps [] ∧ FnG P w K mg base k f fd ps (toSp K ps.length (lnOf ms) spd)
  mono : Mono spd
  len : ps.length = ms.length
structure HasMk (P : Program) (w : World) (K : PySem.W.Frag) (mg : Str → Option Value) (base : Heap) (c : Nat) (x : Str) (k : Nat) (ps : List Str) (ms : List Md) (spd : DSp) : Prop where
  ex : ∃ C f fd, KC K c C ∧ mg x = some (.ref C) ∧ Mk K C f ∧ Binds K fd ps [] ∧ FnG P w K mg base k f fd ps (toSp K ps.length (lnOf ms) spd)
  mono : Mono spd
  len : ps.length = ms.length
def insOk (c : Nat) (ρ : List T) (x : T) (p : Prop) : Prop := match x with
  | .ali i => match ρ[i]? with
    | some (.ins c' _) => bq (Nat.beq c' c) p
    | _ => False
  | .ins c' _ => bq (Nat.beq c' c) p
  | _ => False
def dMeth (c : Nat) (ms : List Md) (spd : DSp) (Wd : Exn → List T → Prop) (fr : DE) (fs : DA) : DE := fun ρ Q => fr ρ fun x ρ1 => insOk c ρ1 x (fs ρ1 fun as ρ2 => wO (argsT ρ2 ms (x :: as)) fun ts => match freeOf (slotOf ms (x :: as)) ms (x :: as) with
  | true => Spc spd ts (fun r t' => Q r (putT (slotOf ms (x :: as)) t' ρ2)) (fun ex t' => Wd ex (putT (slotOf ms (x :: as)) t' ρ2))
  | false => False)
def isNon (r : T) (p : Prop) : Prop := match r with
  | .dat .none => p
  | _ => False
def isIns (t : T) (Q : T → Prop) : Prop := match t with
  | .ins c ts => Q (.ins c ts)
  | _ => False
def dMake (c : Nat) (ms : List Md) (spd : DSp) (Wd : Exn → List T → Prop) (fs : DA) : DE := fun ρ Q => fs ρ fun as ρ1 => wO (argsT ρ1 ms (.ins c [] :: as)) fun ts => match freeOf (slotOf ms (.ins c [] :: as)) ms (.ins c [] :: as) with
  | true => Spc spd ts (fun r t' => isNon r (isIns t' fun t => Q t ρ1)) (fun ex t' => Wd ex ρ1)
  | false => False
section
variable {C : Ctx} {σ : St} {H : Hp} {ρ : List T} {vs xs : List V} {τ as : List T} {v : V} {x : T}
end
section
variable {C : Ctx} {k j c : Nat} {ps : List Str} {x m : Str} {p pos apos : Pos} {e o : Expr} {es : List Expr} {fr : DE} {fs : DA} {ms : List Md} {spd : DSp}
end
end Ds
namespace Ds
open PySem L2 PySem.Spec
structure HasTee (K : PySem.W.Frag) (mg : Str → Option Value) : Prop where
  ex : ∃ (B : Addr) (mc : Value), mg "TeeError" = some (.ref B) ∧ ClX.CRead K B mc ∧ PySem.W.findCls K (.ref B) mc "__init__" = some (.val (.builtin "ValueError.__init__"))
section
variable {X : Cx} {o e : Expr} {es : List Expr} {to te : TE} {ta : TA} {f : Str} {p p' p1 p2 pos : Pos}
theorem pe_teeinit {pl : Sem Bool} (hg : Gl X "TeeError") (hm : HasTee X.K X.mg) (ha : PA X (e :: es) ta)
    (hc : eval (.Call (.Attribute (.Name "TeeError" p1) "__init__" p2) (e :: es) [] pos) X.env = (do
      let ov ← eval (.Name "TeeError" p1) X.env
      standAt p2.atName
      let (f, first) ← holding [ov] (getMethod ov "__init__" pl)
      callWith pos f first (backTo pos (starEach (e :: es) X.env)) (backToKw pos (keywordEach [] X.env))) := by rfl)
    (he : starEach (e :: es) X.env = (false, eval e X.env) :: starEach es X.env := by rfl) (hpl : (backTo pos (starEach es X.env)).any (·.1) = false := by rfl) :
    PE X (.Call (.Attribute (.Name "TeeError" p1) "__init__" p2) (e :: es) [] pos) (tVeI X.K ta) := by
  obtain ⟨B, mc, hB, r, hf⟩ := hm.ex
  refine ⟨fun pins s σ H Q I h => ?_⟩
  refine PySem.W.methodCall_KW (ld_glob I hg hB ?_ (by decide)) hc
  refine PySem.W.method_cls I.kIn r.ga (PySem.W.cls_value I.kIn r.rd hf (by decide +kernel) ?_)
  show wpAny _ _ (callWith pos (Value.builtin "ValueError.__init__") [] (backTo pos (starEach (e :: es) X.env)) []) _ _ _
  refine PyProof.Rows.callWith_method1 (thn (ha.run pos pins _ σ H _ (I.tok _) h) fun us s1 ⟨vs, H1, I1, r1, a, C, ws, ev, hl, T, ea, q⟩ => ?_) he hpl
  subst ev
  cases r1 with
  | @cons _ u0 _ ur ra rw' =>
    obtain rfl : u0 = Value.ref a := ra
    have hlen : ur.length ≤ sizeLine := by
      rw [← Paired.length rw', sizeLine_eq]
      omega
    exact oinit_ok T I1 ea hlen fun s' J => ⟨.non, H1, J, rfl, q⟩
end
def spInit (f : Str) (K : PySem.W.Frag) : Sp := fun vs H Q _ => ∃ (a C : Addr) (v : V), vs = [.ref a, v] ∧ OexC K C ∧ PySem.W.findIn K (.ref C) f = some none ∧ H a = some (exo a C none) ∧
  ∀ dx, H dx = none → dx ≠ a → Q .non (upd (upd H dx (exd dx [(f, v)])) a (exo a C (some dx)))
structure HasEF (P : Program) (w : World) (K : PySem.W.Frag) (mg : Str → Option Value) (base : Heap) (n f : Str) : Prop where
  ex : ∃ (C fI : Addr) (fd : FuncData) (ps : List Str), mg n = some (.ref C) ∧ PySem.W.nsIn K mainGlobals n = some (some (.ref C)) ∧ OexC K C ∧ PySem.W.findIn K (.ref C) f = some none ∧ PySem.W.findIn K (.ref C) "__init__" = some (some (.ref fI)) ∧ PySem.W.typeIn K (.ref fI) = some (.type "function") ∧
    Binds K fd ps [] ∧ FnOk P w K mg base CX0 1 fI fd ps (spInit f K)
def dRaiseF (Wd : Exn → List T → Prop) (n f : Str) (fe : DE) : DS := fun _ ρ => fe ρ fun x ρ1 => wD (lk ρ1 x) fun d => bq (safe d) (Wd ⟨n, some [(f, d)]⟩ ρ1)
section
variable {C : Ctx} {x f : Str} {j : Nat} {p p2 pos pos' : Pos} {e : Expr} {fe : DE}
theorem SS.leave {σ : St} {H : Hp} {ρ : List T} {vs : List V} {τ : List T} (I : SS C σ H ρ vs τ) : SS C σ H ρ [] [] := SS.drop (vs := []) (τ := []) (xs := vs) (ts := τ) (by simpa using I) rfl
theorem SS.same {σ : St} {H H' : Hp} {ρ : List T} {vs : List V} {τ : List T} (I : SS C σ H ρ vs τ) (hs : Same H H') : SS C σ H' ρ vs τ := by
  have := I.push (v := .non) (t := .dat .none) [] hs (fun _ _ _ _ _ _ _ => .dat .none) List.nodup_nil (fun _ z => by simp at z) fun _ z => by simp at z
  exact this.pop
theorem ds_raiseF (h : HasEF C.X.prog C.X.w C.X.K C.X.mg C.X.base x f) (hr : RoomG j C.X.A) (hj : 2 ≤ j) (hc : C.X.calm = true) (tk : DTk C) (hg : Gl C.X x) (he : DPE C e fe) (hdb : (x == ("__debug__" : Str)) = false := by decide) (hs : starEach [e] C.X.env = (false, eval e C.X.env) :: starEach [] C.X.env := by rfl) (hpl : (backTo pos (starEach [] C.X.env)).any (·.1) = false := by rfl) :
    DPS C (.Raise (some (.Call (.Name x p) [e] [] pos)) none pos') (dRaiseF C.Wd x f fe) :=
  let ⟨_, pe, se⟩ := he.ex
  let ⟨D, fI, fd, ps, hm, hn, T, hf, iC, tI, hb, F⟩ := h.ex
  ⟨_, ps_raise hc tk (pmk_oex T iC tI F (hr.mono hj).rm hb .nil (pass0 (X := C.X)) hg hm (pa_cons pe pa_nil hs) hdb hs hpl), fun σ H ρ vs τ Dd D' I na q k => se σ H ρ vs τ _ _ I q fun v H1 y ρ1 I1 q1 => by
    obtain ⟨d, ed, q2⟩ := wD_some q1
    obtain ⟨sf, q3⟩ := bq_is q2
    refine ⟨by simp, fun a ha => ?_⟩
    refine ⟨a, D, v, rfl, T, hf, upd_same, fun dx nd ne => ⟨rfl, dx, [(f, v)], upd_same, ?_, ?_, ?_⟩⟩
    · rw [upd_ne ne, upd_same]
    · rw [upd_ne ne] at nd; exact nd
    · have nd1 : H1 dx = none := by rw [upd_ne ne] at nd; exact nd
      have eH : upd (del (upd (upd (upd H1 a (exo a D none)) dx (exd dx [(f, v)])) a (exo a D (some dx))) a) dx (.xd [(f, v)]) = upd H1 dx (.xd [(f, v)]) := by
        funext b
        by_cases z : b = dx
        · subst z; rw [upd_same, upd_same]
        · rw [upd_ne z, upd_ne z]
          by_cases y : b = a
          · subst y; rw [del_same]; exact ha.symm
          · rw [del_ne y, upd_ne y, upd_ne z, upd_ne y]
      rw [eH]
      have S1 : Same H1 (upd H1 dx (.xd [(f, v)])) := same_upd nd1
      have dv := (I1.lk1 ed).move (B' := N0) (H' := upd H1 dx (.xd [(f, v)])) (fun b o eb _ => ⟨S1 b o eb, id⟩)
      exact ⟨⟨x, some [(f, d)]⟩, ρ1, ⟨hn, dx, [(f, v)], rfl, upd_same, rfl, .cons dv .nil⟩, (I1.leave).same S1, q3⟩⟩
end
def clsBody (s : Stmt) : List Stmt := match s with
  | .ClassDef _ _ _ b _ _ _ _ _ _ _ => b
  | _ => []
theorem init_reads {K : PySem.W.Frag} {f : Str} {vs : List V} {H : Hp} {Q : VK} {E : XK} {ps : List Str} {m : Str} (hps : ps.length = 2) (h : spInit f K vs H Q E) :
    tSeq (fun D σ H => tVeI K (tCons (tVar 0) (tCons (tC (.str m)) tNil)) σ H fun _ H' => D.nx σ H') (tOst K f (tVar 0) (tVar 1)) { nx := fun _ H' => Q .non H', rt := Q } (L2.start ps vs) H := by
  obtain ⟨a, C, v, rfl, T, hf, ha, q⟩ := h
  have s0 : (L2.start ps [V.ref a, v])[0]? = some (some (.ref a)) := rfl
  have s1 : (L2.start ps [V.ref a, v])[1]? = some (some v) := rfl
  refine ⟨.ref a, s0, ⟨a, C, [.str m], rfl, by simp, T, ha, ?_⟩⟩
  exact ⟨v, s1, ⟨.ref a, s0, a, C, rfl, T, hf, .inl ⟨ha, fun dx n ne => q dx n ne⟩⟩⟩
structure HasXf (K : PySem.W.Frag) (n f : Str) : Prop where
  ex : ∃ D, PySem.W.nsIn K mainGlobals n = some (some (.ref D)) ∧ XfC K D ∧ PySem.W.findIn K (.ref D) f = some none
def tXfv (C : Addr) (f : Str) (te : TE) : TE := fun σ H Q => te σ H fun x H1 => ∃ (a dd : Addr) (fs : List (Str × V)) (v : V), x = .ref a ∧ H1 a = some (ExcO (.ref C) (some dd) a) ∧ H1 dd = some (.xd fs) ∧ fs.lookup f = some v ∧ Q v H1
def dXFld (n f : Str) (fe : DE) : DE := fun ρ Q => fe ρ fun x ρ1 => match dr ρ1 x with
  | .exc ex => match ex.fs with
    | some [(g, d)] => (ex.cls = n ∧ g = f) ∧ Q (.dat d) ρ1
    | _ => False
  | _ => False
section
variable {C : Ctx} {e : Expr} {fe : DE} {pos : Pos} {n f : Str}
end
structure HasIN (K : PySem.W.Frag) (mg : Str → Option Value) (x : Str) (tb : List (Str × Bool)) : Prop where
  ex : ∃ a, mg x = some (.ref a) ∧ Tab K (.ref a) tb ∧ PySem.W.kitOne K (.type "NoneType") (.ref a) = some false
def dIsXN (tb : List (Str × Bool)) (fe : DE) : DE := fun ρ Q => fe ρ fun x ρ1 => match dr ρ1 x with
  | .exc ex => ∃ b, (ex.fs = ex.fs ∧ lkB tb ex.cls = some b) ∧ Q (.dat (.bool b)) ρ1
  | .dat .none => Q (.dat (.bool false)) ρ1
  | _ => False
section
variable {C : Ctx} {e : Expr} {fe : DE} {p p1 pos : Pos} {x : Str} {tb : List (Str × Bool)}
end
end Ds
namespace Ds
open PySem PySem.Spec PyProof.Rows L2
abbrev setE (w : World) : Obj := { cls := .type "set", dict := none, data := .set #[] 0 (.fresh 0 0 (!w.params.followText "set-order")) }
abbrev hpE (w : World) (s : Shared) : Heap := s.heap.push (setE w)
section
variable {P : Program} {w : World} {A : Around} {E : Value → Shared → Prop} {s : Shared}
end
section
variable {C : Ctx}
theorem tgt_oneC {i : Nat} {x : Str} {pos : Pos} {scope : Scope} (hN : C.X.N.Nodup) (hi : C.X.N[i]? = some x) (hx : Loc (relabel scope C.X.env) x) (hf : scope.names.lookup x = some .cell) : TgtOk C (.Name x pos) (.one i) scope :=
  ⟨fun s H Cc cl fp => pg_name (X := (C.blk s H scope Cc cl fp).X) hN hi hx (.inl (by
    show (scope.names.lookup x == some .cell) = true
    rw [hf]; rfl))⟩
end
end Ds
namespace Ds
open PySem L2
def rSetL (K : PySem.W.Frag) (w : World) : List V → Hp → VK → Prop := fun xs H Q => ∃ (p : Addr) (ns : List Int), xs = [.ref p] ∧ SqL K H p (ns.map V.int) ∧ ns.length ≤ 1000 ∧
  ∀ (a : Addr) (ks : List Int), H a = none → ks.Nodup → (∀ k, k ∈ ks ↔ k ∈ ns) → Q (.ref a) (upd H a (SetO w a (fun j => decide (j ∈ ns)) ks.length))
section
variable {X : Cx}
end
def dSSet (fe : DE) : DE := fun ρ Q => fe ρ fun x ρ1 => wInts (lk ρ1 x) fun ns => (ns.length ≤ 1000 ∧ ∃ lo : Int, ∀ n ∈ ns, lo ≤ n ∧ n < lo + 60) ∧ ∀ ns' : List Int, ns'.Pairwise (· < ·) → (∀ k, k ∈ ns' ↔ k ∈ ns) → Q (.own (ns'.map .int)) ρ1
section
variable {C : Ctx} {e : Expr} {fe : DE} {p p2 pos pos2 : Pos}
end
end Ds
namespace Ds
open PySem L2
def DEnds.un (i : Nat) (D : DEnds) : DEnds := { nx := fun ρ => D.nx (ρ.set i .emp), rt := D.rt, bk := fun ρ => D.bk (ρ.set i .emp), ct := fun ρ => D.ct (ρ.set i .emp) }
def dTrySW (tab : List Str) (i : Nat) (fs : DS) (D : DEnds) : Exn → List T → Prop := fun ex ρ => tabHas tab ex.cls = true ∧ fsOk ex.fs = true ∧ i < ρ.length ∧ fs (D.un i) (ρ.set i (.exc ex))
def dTryS (tab : List Str) (i : Nat) (fb : (Exn → List T → Prop) → DS) (fs : DS) : DS := fun D ρ => fb (dTrySW tab i fs D) D ρ
abbrev Ctx.inSuite (C : Ctx) (a : Addr) (pn : List (Addr × Obj)) : Ctx := { C with X := C.X.suite a pn }
section
variable {C : Ctx} {σ : L2.St} {H : Hp} {ρ : List T} {vs : List V} {τ : List T}
end
end Ds
namespace Ds
open PySem L2
def dXFldV (n f : Str) (i : Nat) : DE := fun ρ Q => match ρ[i]? with
  | some (.exc ex) => match ex.fs with
    | some [(g, d)] => (ex.cls = n ∧ g = f) ∧ Q (.dat d) ρ
    | _ => False
  | _ => False
end Ds
namespace Ds
open PySem L2
section
variable {C : Ctx} {σ : St} {H : Hp} {ρ : List T} {vs : List V} {τ : List T} {i j k : Nat} {ds : List D} {us : List T}
end
def ownF (k i j : Nat) (ρ : List T) : Option (List D) := match ρ[i]? with
  | some (.ins k' ts) => match Nat.beq k' k with
    | true => match ts[j]? with
      | some (.own ds) => some ds
      | _ => none
    | false => none
  | _ => none
def setF (k i j : Nat) (ds : List D) (ρ : List T) : List T := match ρ[i]? with
  | some (.ins _ ts) => ρ.set i (.ins k (ts.set j (.own ds)))
  | _ => ρ
section
variable {C : Ctx} {σ : St} {H : Hp} {ρ : List T} {vs : List V} {τ : List T} {i j k : Nat} {ds : List D} {f : Str}
end
def dCiFld (k i j : Nat) (f : List Int → (D → Prop) → Prop) : DE := fun ρ Q => wO (ownF k i j ρ) fun ds => wInts (some (.list ds)) fun ns => f ns fun w => Q (.dat w) ρ
section
variable {C : Ctx} {i j k : Nat} {x f y : Str} {p p2 apos pos : Pos}
def slI (i : Nat) (ρ : List T) : Option Int := match ρ[i]? with
  | some (.dat (.int n)) => some n
  | some (.bor (.int n)) => some n
  | _ => none
theorem SS.slotI {σ : St} {H : Hp} {ρ : List T} {vs : List V} {τ : List T} (I : SS C σ H ρ vs τ) {n : Int} (h : slI i ρ = some n) : σ[i]? = some (some (.int n)) := by
  obtain ⟨ow, J⟩ := I
  unfold slI at h
  split at h
  · rename_i m e
    cases h
    rcases J.slot e with z | ⟨v, hv, r⟩
    · cases z
    · rw [hv, r.dat_inv.int_eq]
  · rename_i m e
    cases h
    rcases J.slot e with z | ⟨v, hv, r⟩
    · cases z
    · obtain ⟨os, r⟩ : ∃ os, TIs C.K (Bar C ow) (BarB C ow) (wipe σ C.cv) H (.bor (.int n)) v os := ⟨_, r⟩
      cases r with
      | bor r => rw [hv, r.int_eq]
  · cases h
def dIxFld (k i j u : Nat) : DE := fun ρ Q => wO (ownF k i j ρ) fun ds => wO (slI u ρ) fun n => wO (gI ds n) fun d => match d with
  | .int m => Q (.dat (.int m)) ρ
  | _ => False
def dAugFld (k i j u : Nat) (op : Int → Int → Int) (c : Int) : DS := fun D ρ => wO (ownF k i j ρ) fun ds => wO (slI u ρ) fun n => wI (gI ds n) fun m => wO (ixN ds.length n) fun w => D.nx (setF k i j (ds.set w (.int (op m c))) ρ)
end
end Ds
namespace Ds
open PySem L2
def rInT (K : PySem.W.Frag) (neg : Bool) : R2 := fun x y H Q => ∃ d ds, Dp K H x d ∧ Dp K H y (.tuple ds) ∧ SeqAt.shaped d = true ∧ SeqAt.shaped (.tuple ds) = true ∧ Q (.bl (if neg then !ds.any fun z => PyData.eqv z d else ds.any fun z => PyData.eqv z d)) H
abbrev dInTu : DO2 := pu2 fun d e k => match e with
  | .tuple ds => SeqAt.shaped d = true ∧ SeqAt.shaped (.tuple ds) = true ∧ k (.bool (ds.any fun z => PyData.eqv z d))
  | _ => False
abbrev dNinTu : DO2 := pu2 fun d e k => match e with
  | .tuple ds => SeqAt.shaped d = true ∧ SeqAt.shaped (.tuple ds) = true ∧ k (.bool (!ds.any fun z => PyData.eqv z d))
  | _ => False
end Ds
namespace Ds
open PySem L2
open PyProof.Rows (envOfC)
section
variable {P : Program} {w : World} {K : PySem.W.Frag} {mg : Str → Option Value} {base : Heap}
structure FnS (P : Program) (w : World) (K : PySem.W.Frag) (mg : Str → Option Value) (base : Heap) (k : Nat) (f : Addr) (sp : Sp) : Prop where
  run : ∀ (A : Around) (os : List Env) (s : Shared) (H : Hp) (us : List Value) (vs : List V) (Q : VK) (E : XK), RoomG k A → Env0 P w K mg base A os s H → Vals vs us → vs.length ≤ sizeLine →
    (∀ (p : Addr) (ob : Obj), H p = none → ob.dict = none → sp [.ref p] (upd H p (.frz ob (.tup vs))) Q E) → codeAny (model P w) A (.call (.ref f) ⟨us, []⟩) (CR (L2.CX P w) os P w H s Q E) s
end
structure HasS (P : Program) (w : World) (K : PySem.W.Frag) (mg : Str → Option Value) (base : Heap) (x : Str) (k : Nat) (spd : DSp) : Prop where
  ex : ∃ a, mg x = some (.ref a) ∧ PySem.W.keepIn K (.ref a) = true ∧ FnS P w K mg base k a (toSp K 1 none spd)
  mono : Mono spd
section
variable {X : Cx} {k : Nat} {f : Addr} {sp : Sp} {E : St → XK} {x : Str} {p pos : Pos} {e : Expr} {es : List Expr} {t : TA}
def tCallS (sp : Sp) (E : St → XK) (t : TA) : TE := fun σ H Q => t σ H fun xs H1 => xs.length ≤ sizeLine ∧ ∀ (p : Addr) (ob : Obj), H1 p = none → ob.dict = none → sp [.ref p] (upd H1 p (.frz ob (.tup xs))) Q (E σ)
end
section
variable {C : Ctx} {j k : Nat} {x : Str} {p pos : Pos} {e : Expr} {es : List Expr} {fs : DA} {spd : DSp}
def dCallS (spd : DSp) (Wd : Exn → List T → Prop) (fs : DA) : DE := dCall [.bor] spd Wd (dCons (dTup fs) dNil)
end
end Ds
namespace Ds
open PySem L2
section
variable {prog : Program} {w : World} {A : Around} {R : Result → Shared → Prop} {I ax S : Addr} {its : Array Value} {n0 : Nat}
def ListAt (h : Heap) (a : Addr) (vs : List Value) : Prop := ∃ n, h.get? a = some { cls := .type "list", data := .seq vs.toArray n }
theorem ListAt.is {h : Heap} {a : Addr} {vs : List Value} (x : ListAt h a vs) : h.IsList a vs.toArray := by
  obtain ⟨n, e⟩ := x
  exact ⟨_, e, rfl, n, rfl⟩
theorem ListAt.at {h h' : Heap} {a : Addr} {vs : List Value} (x : ListAt h a vs) (k : ∀ o, h.get? a = some o → h'.get? a = some o) : ListAt h' a vs := by
  obtain ⟨n, e⟩ := x
  exact ⟨n, k _ e⟩
end
def rSumL (K : PySem.W.Frag) : List V → Hp → VK → Prop := fun vs H Q => ∃ (a b : Addr) (xs : List (Addr × List V)), vs = [V.ref a, V.ref b] ∧ SqL K H a (xs.map fun p => V.ref p.1) ∧ H b = some (.lst []) ∧ (∀ p ∈ xs, H p.1 = some (.lst p.2)) ∧ ((xs.map (·.2)).flatten).length ≤ sizeLine ∧
  (xs = [] → Q (.ref b) H) ∧ (xs ≠ [] → ∀ p, H p = none → Q (.ref p) (upd H p (.lst ((xs.map (·.2)).flatten))))
def dSumL : DOn := fun ρ ts Q => match ts with
  | [x, .own []] => wL (dr ρ x) fun ds => ∃ dss : List (List D), ds = dss.map .list ∧ dss.flatten.length ≤ sizeLine ∧ Q (.own dss.flatten) ρ
  | _ => False
section
variable {C : Ctx} {e e2 : Expr} {fs : DA} {p pos : Pos}
end
end Ds
namespace Ds
open PySem L2
section
variable {K : PySem.W.Frag} {B Bb : Addr → Prop} {σ : St} {H : Hp}
end
def dIxT : DO2 := fun ρ x y Q => wI (lk ρ y) fun i => match x with
  | .lst ts => wO (gI ts i) fun t => Q t ρ
  | _ => False
def dAddT : DO2 := fun ρ x y Q => match x, y with
  | .lst ts, .lst us => match small 1000 (ts ++ us) with
    | true => Q (.lst (ts ++ us)) ρ
    | false => False
  | _, _ => False
section
variable {C : Ctx} {a b : Expr} {fa fb : DE} {pos : Pos}
end
end Ds
namespace Ds
open PySem L2
def Ctx.lend (C : Ctx) (j : Nat) (σ0 : St) : Ctx := { C with lent := j :: C.lent, sg := σ0 }
section
variable {C : Ctx} {σ σ0 : St} {H : Hp} {ρ : List T} {vs : List V} {τ : List T} {j : Nat}
theorem SS.lend (I : SS C σ H ρ vs τ) (j : Nat) : SS (C.lend j σ) σ H ρ vs τ := by
  obtain ⟨ow, J⟩ := I
  exact ⟨ow, ⟨J.ok.b0, J.ok.ob⟩, J.ln, J.lt, J.na, J.cl, J.nd, J.dj, J.ot, J.fr, J.kp, J.tr, fun _ _ => rfl⟩
theorem SS.unlend (h0 : ∀ i ∈ C.lent, σ0[i]? = C.sg[i]?) (I : SS (C.lend j σ0) σ H ρ vs τ) : SS C σ H ρ vs τ := by
  obtain ⟨ow, J⟩ := I
  exact ⟨ow, ⟨J.ok.b0, J.ok.ob⟩, J.ln, J.lt, J.na, J.cl, J.nd, J.dj, J.ot, J.fr, J.kp, J.tr, fun i hi => (J.le i (List.mem_cons_of_mem _ hi)).trans (h0 i hi)⟩
theorem DTk.lend (tk : DTk C) (h0 : ∀ i ∈ C.lent, σ0[i]? = C.sg[i]?) : DTk (C.lend j σ0) := Takes.imp (X := C.X) tk fun cls d σ H ⟨ex, ρ, e, I, w⟩ => ⟨ex, ρ, e, I.unlend h0, w⟩
end
def dForO (j : Nat) (g : DG) (f : DS) : DS := fun D ρ => match ρ[j]? with
  | some (.own ds) => dFor g f { D with nx := fun ρ' => ρ'[j]? = some .emp ∧ D.nx (ρ'.set j (.own ds)) } (ds.map .dat) (ρ.set j .emp)
  | _ => False
section
variable {C : Ctx} {f : DS} {dg : DG} {tg : Expr} {body : List Stmt} {pos p0 : Pos} {x : Str}
end
end Ds
namespace Ds
open PySem L2
def dSortR (f : DE) : DE := fun ρ Q => f ρ fun x ρ1 => wInts (lk ρ1 x) fun ns => ∀ ns' : List Int, ns'.Perm ns → ns'.Pairwise (· ≥ ·) → Q (.own (ns'.map .int)) ρ1
def dSortRFld (k i j : Nat) : DE := fun ρ Q => wO (ownF k i j ρ) fun ds => wInts (some (.list ds)) fun ns => ∀ ns' : List Int, ns'.Perm ns → ns'.Pairwise (· ≥ ·) → Q (.own (ns'.map .int)) ρ
def FirstAt (ns : List Int) (m : Int) (j : Nat) : Prop := ns[j]? = some m ∧ ∀ i z, i < j → ns[i]? = some z → z ≠ m
def dIndexFld (k i j u : Nat) : DE := fun ρ Q => wO (ownF k i j ρ) fun ds => wInts (some (.list ds)) fun ns => wO (slI u ρ) fun m => ∃ w : Nat, FirstAt ns m w ∧ Q (.dat (.int (w : Nat))) ρ
def dIndexS (fo : DE) (u : Nat) : DE := fun ρ Q => fo ρ fun x ρ1 => wInts (lk ρ1 x) fun ns => wO (slI u ρ1) fun m => ∃ w : Nat, FirstAt ns m w ∧ Q (.dat (.int (w : Nat))) ρ1
section
variable {C : Ctx} {i j k : Nat} {x f y : Str} {p p2 apos pos kp : Pos} {e : Expr} {fe : DE} {kt : Nat}
end
end Ds
namespace Ds
open PySem L2
def dFiltFld (k i j u v : Nat) : DE := fun ρ Q => wO (ownF k i j ρ) fun ds => wInts (some (.list ds)) fun ns => wO (slI u ρ) fun n => wO (gI (ns.map PyData.int) n) fun d => wI (some d) fun m => (v < ρ.length ∧ ns.length ≤ sizeLine) ∧ Q (.own ((ns.filter fun z => decide (m < z)).map .int)) ρ
section
variable {C : Ctx} {i j k u v : Nat} {x f x2 vx : Str} {p1 p2 p3 p4 p5 p6 p7 p8 pa pa2 pos : Pos} {scope : Scope} {own : List (Str × Nat)}
end
end Ds
namespace Ds
open PySem L2
section
variable {C : Ctx} {σ : St} {H H' : Hp} {ρ : List T} {vs : List V} {τ : List T} {ow : Nat → List Addr} {i v : Nat}
end
def dAppAll3 (i v : Nat) : DS := fun D ρ => match ρ[i]? with
  | some (.lst (.own a :: .own b :: .own c :: _)) => (v < ρ.length ∧ a.length < sizeLine ∧ b.length < sizeLine ∧ c.length < sizeLine) ∧ D.nx ((ρ.set i .emp).set v .emp)
  | _ => False
section
variable {C : Ctx} {i v : Nat} {x y : Str} {p p1 p2 p3 p4 p5 p6 apos cpos epos pos : Pos} {jt kt : Nat}
end
end Ds
namespace Ds
open PySem L2
section
variable {C : Ctx} {σ : St} {H : Hp} {ρ : List T} {vs xs : List V} {τ ts : List T} {ow : Nat → List Addr}
end
def dLstT (f : DA) : DE := fun ρ Q => f ρ fun ts ρ' => match small 1000 ts with
  | true => Q (.lst ts) ρ'
  | false => False
end Ds
namespace Ds
open PySem L2
open PySem.Spec PyProof.Rows
def CMulV (i j : Int) : Prop := i.natAbs.log2 + j.natAbs.log2 < 100000000
theorem CMulV.ok {i j : Int} (h : CMulV i j) : IntMulOk i j := by
  have b : ∀ x : Int, Builtin.Int.intBits x ≤ x.natAbs.log2 + 1 := fun x => by
    unfold Builtin.Int.intBits
    split <;> omega
  have h1 := b i
  have h2 := b j
  have h3 : i.natAbs.log2 + j.natAbs.log2 < 100000000 := h
  have e : bitsLine = 134217728 := by decide
  unfold IntMulOk
  intro z
  rw [Bool.and_eq_true] at z
  have z2 := z.2
  unfold Builtin.Int.intTooBig at z2
  have z3 := of_decide_eq_true z2
  rw [e] at z3
  omega
section
variable {C : Ctx} {a b : Expr} {fa fb : DE} {pos : Pos}
abbrev dMulV : DO2 := pu2 (fII fun i j k => CMulV i j ∧ k (.int (i * j)))
def dIxS : DO2 := fun ρ x y Q => wI (lk ρ y) fun i => match dr ρ x with
  | .scr ns => wO (gI ns i) fun z => Q (.dat (.int z)) ρ
  | _ => False
end
theorem mulV_ok {i j : Int} {a b : Nat} (h1 : i.natAbs.log2 < a) (h2 : j.natAbs.log2 < b) (h : a + b ≤ 100000000) : CMulV i j := by unfold CMulV; omega
def Bits (ns : List Int) : Prop := ∀ z ∈ ns, z.natAbs.log2 < 2000000
end Ds
namespace Ds
open PySem L2
theorem lc_flA {α : Type} {i : Nat} {tt : DTt} {fe : DE} {K : List D → List T → Prop} {its : List T} {ρ : List T} (l : List α) (tg : α → T) (ρ' : List T) (h1 : its = l.map tg) (h2 : ρ = ρ') (p : α → Bool) (gv : α → D) (hw : ρ'.set i .emp = ρ') (hl : l.length ≤ sizeLine) (na : ∀ a ∈ l, noAli (tg a) = true)
    (he : ∀ a ∈ l, ∀ (P : T → List T → Prop) (R : List T → Prop), (p a = true → ∀ y, frz y = some (gv a) → P y (ρ'.set i (tg a))) → (p a = false → R (ρ'.set i (tg a))) → tt (ρ'.set i (tg a)) fun b ρ2 => br b (fe ρ2 P) (R ρ2))
    (hk : K ((l.filter p).map gv) ρ') : dLcGo (dgName i) tt fe [i] K its [] ρ := by
  subst h1 h2
  exact lc_fl l tg p gv hw hl na he hk
theorem sq_at {f g : DS} {D : DEnds} {ρ : List T} (ρ' : List T) (h : ρ = ρ') (q : dSeq f g D ρ') : dSeq f g D ρ := h ▸ q
theorem for_preA {α : Type} {g : DG} {f : DS} {D : DEnds} {ρ : List T} {ts : List T} (its : List α) (tg : α → T) (h1 : ts = its.map tg) (Pv : List α → List T → Prop) (h0 : Pv [] ρ)
    (hs : ∀ pre a post ρ (K : List T → Prop), its = pre ++ a :: post → Pv pre ρ → (∀ ρ', Pv (pre ++ [a]) ρ' → K ρ') → g (tg a) ρ fun ρ1 => f { D with nx := K, ct := K, bk := D.nx } ρ1) (hd : ∀ ρ, Pv its ρ → D.nx ρ) : dFor g f D ts ρ := by
  subst h1
  exact for_pre its tg Pv h0 hs hd
end Ds
namespace Ds
open PySem L2
end Ds
namespace Ds
open PySem L2
open PySem.Spec PyProof.Rows
def nkey (k : MKey) : NestedKey := .tup [.num k.1, .tup (k.2.map .num)]
abbrev mx (xs : List (MKey × Addr × Value)) : List (NestedKey × Addr × Value) := xs.map fun x => (nkey x.1, x.2)
section
variable {X : Cx} {pins : List (Addr × Obj)} {σ : L2.St} {H : Hp} {s : Shared} {a b : Addr} {xs : List (MKey × Addr × Value)} {k : MKey} {A : Around} {E : Value → Shared → Prop}
def mAt (xs : List (MKey × Addr × Value)) (k : MKey) : Option (Addr × Value) := (xs.find? fun x => decide (x.1 = k)).map (·.2)
def mPut (xs : List (MKey × Addr × Value)) (k : MKey) (b : Addr) (v : Value) : List (MKey × Addr × Value) := match (mAt xs k).isSome with
  | true => xs.map fun x => if x.1 = k then (x.1, x.2.1, v) else x
  | false => xs ++ [(k, b, v)]
def tDNewM : TE := fun _ H Q => ∀ p, H p = none → Q (.ref p) (upd H p (MemO p []))
end
end Ds
namespace Ds
open PySem L2
open PySem.Spec
abbrev Ents := List (MKey × Int)
def gM (es : Ents) (k : MKey) : Option Int := (es.find? fun e => decide (e.1 = k)).map (·.2)
def putM (es : Ents) (k : MKey) (n : Int) : Ents := match (gM es k).isSome with
  | true => es.map fun e => if e.1 = k then (e.1, n) else e
  | false => es ++ [(k, n)]
section
variable {K : PySem.W.Frag} {B B' Bb Bb' : Addr → Prop} {H H' : Hp} {σ σ' : St}
theorem MemL.free : ∀ {es : Ents} {xs : List (MKey × Addr × Value)}, MemL K B H es xs → MemL K N0 H es xs := fun h => h.move fun _ _ e _ => ⟨e, id⟩
theorem MemL.length : ∀ {es : Ents} {xs : List (MKey × Addr × Value)}, MemL K B H es xs → es.length = xs.length
  | [], [], _ => rfl
  | _ :: _, _ :: _, ⟨_, t⟩ => congrArg (· + 1) (MemL.length t)
  | [], _ :: _, h => h.elim
  | _ :: _, [], h => h.elim
theorem MemL.at_ {k : MKey} : ∀ {es : Ents} {xs : List (MKey × Addr × Value)}, MemL K B H es xs → (∀ n, gM es k = some n → ∃ b t, mAt xs k = some (b, .int n t)) ∧ (gM es k).isSome = (mAt xs k).isSome
  | [], [], _ => ⟨fun n e => by simp [gM] at e, rfl⟩
  | e :: es, x :: xs, ⟨⟨a, ⟨t, b⟩, c⟩, q⟩ => by
    obtain ⟨h1, h2⟩ := MemL.at_ (k := k) q
    by_cases z : e.1 = k
    · have e1 : gM (e :: es) k = some e.2 := by simp [gM, List.find?_cons, z]
      have e2 : mAt (x :: xs) k = some x.2 := by simp [mAt, List.find?_cons, a, z]
      rw [e1, e2]
      exact ⟨fun n hn => by cases hn; exact ⟨x.2.1, t, by rw [← b]⟩, rfl⟩
    · have e1 : gM (e :: es) k = gM es k := by simp [gM, List.find?_cons, z]
      have e2 : mAt (x :: xs) k = mAt xs k := by simp [mAt, List.find?_cons, a, z]
      rw [e1, e2]
      exact ⟨h1, h2⟩
  | [], _ :: _, h => h.elim
  | _ :: _, [], h => h.elim
theorem MemL.snoc {k : MKey} {n t : _} {b : Addr} (q : DIs K B H (mkD k) (.ref b)) : ∀ {es : Ents} {xs : List (MKey × Addr × Value)}, MemL K B H es xs → MemL K B H (es ++ [(k, n)]) (xs ++ [(k, b, .int n t)])
  | [], [], _ => ⟨⟨rfl, ⟨t, rfl⟩, q⟩, trivial⟩
  | _ :: _, _ :: _, ⟨a, t⟩ => ⟨a, MemL.snoc q t⟩
  | [], _ :: _, h => h.elim
  | _ :: _, [], h => h.elim
theorem MemL.mapk {k : MKey} {n t : _} : ∀ {es : Ents} {xs : List (MKey × Addr × Value)}, MemL K B H es xs → MemL K B H (es.map fun e => if e.1 = k then (e.1, n) else e) (xs.map fun x => if x.1 = k then (x.1, x.2.1, .int n t) else x)
  | [], [], _ => trivial
  | e :: es, x :: xs, ⟨⟨a, b, c⟩, q⟩ => by
    rw [List.map_cons, List.map_cons]
    refine ⟨?_, MemL.mapk q⟩
    by_cases z : e.1 = k
    · rw [if_pos z, if_pos (a.trans z)]; exact ⟨a, ⟨t, rfl⟩, c⟩
    · rw [if_neg z, if_neg (fun w => z (a.symm.trans w))]; exact ⟨a, b, c⟩
  | [], _ :: _, h => h.elim
  | _ :: _, [], h => h.elim
theorem MemL.put {k : MKey} {n t : _} {b : Addr} {es : Ents} {xs : List (MKey × Addr × Value)} (h : MemL K B H es xs) (q : DIs K B H (mkD k) (.ref b)) : MemL K B H (putM es k n) (mPut xs k b (.int n t)) := by
  unfold putM mPut
  rw [h.at_.2]
  cases (mAt xs k).isSome with
  | true => exact h.mapk
  | false => exact h.snoc q
end
section
variable {C : Ctx} {σ : St} {H : Hp} {ρ : List T} {vs : List V} {τ : List T} {i j k : Nat} {es : Ents} {us : List T}
end
def memF (k i j : Nat) (ρ : List T) : Option Ents := match ρ[i]? with
  | some (.ins k' ts) => match Nat.beq k' k with
    | true => match ts[j]? with
      | some (.mem es) => some es
      | _ => none
    | false => none
  | _ => none
def setM (k i j : Nat) (es : Ents) (ρ : List T) : List T := match ρ[i]? with
  | some (.ins _ ts) => ρ.set i (.ins k (ts.set j (.mem es)))
  | _ => ρ
section
variable {C : Ctx} {σ : St} {H : Hp} {ρ : List T} {vs : List V} {τ : List T} {i j k : Nat} {es : Ents} {f : Str}
theorem SS.keyD (I : SS C σ H ρ vs τ) {m : Nat} {d : D} {v : V} (e : τ[m]? = some (.dat d)) (hv : vs[m]? = some v) : DIs C.K N0 H d v := by
  obtain ⟨ow, I⟩ := I
  obtain ⟨v', hv', r'⟩ := I.temp e
  rw [hv] at hv'; cases hv'
  exact r'.dat_inv.free
end
def MRef (K : PySem.W.Frag) (H : Hp) (x y : V) (a b : Addr) (xs : List (MKey × Addr × Value)) (k : MKey) : Prop := x = .ref a ∧ y = .ref b ∧ H a = some (MemO a xs) ∧ (∀ x ∈ xs, DIs K N0 H (mkD x.1) (.ref x.2.1)) ∧ DIs K N0 H (mkD k) (.ref b)
def tMNin (K : PySem.W.Frag) (ty td : TE) : TE := fun σ H Q => ty σ H fun y H1 => td σ H1 fun x H2 => ∃ a b xs k, MRef K H2 x y a b xs k ∧ Q (.bl (!(mAt xs k).isSome)) H2
def tMGet (K : PySem.W.Frag) (td ty : TE) : TE := fun σ H Q => td σ H fun x H1 => ty σ H1 fun y H2 => ∃ a b xs k c n t, MRef K H2 x y a b xs k ∧ mAt xs k = some (c, .int n t) ∧ Q (.int n) H2
def sMPut (K : PySem.W.Frag) (td ty tv : TE) : TS := fun D σ H => tv σ H fun v H1 => td σ H1 fun x H2 => ty σ H2 fun y H3 => ∃ a b xs k n, MRef K H3 x y a b xs k ∧ v = .int n ∧ xs.length < sizeLine ∧ ∀ t, D.nx σ (upd H3 a (MemO a (mPut xs k b (.int n t))))
section
variable {X : Cx} {o i e value : Expr} {pos pos' tpos : Pos} {td ty tv : TE}
end
def keyS (u1 u2 : Nat) (ρ : List T) (k : MKey → Prop) : Prop := ∃ (n : Int) (s : List Int), slI u1 ρ = some n ∧ ρ[u2]? = some (.dat (.tuple (s.map .int))) ∧ k (n, s)
def dMNin (k i j u1 u2 : Nat) : DE := fun ρ Q => keyS u1 u2 ρ fun key => wO (memF k i j ρ) fun es => Q (.dat (.bool (!(gM es key).isSome))) ρ
def dMGet (k i j u1 u2 : Nat) : DE := fun ρ Q => keyS u1 u2 ρ fun key => wO (memF k i j ρ) fun es => wO (gM es key) fun n => Q (.dat (.int n)) ρ
def dMPut (k i j u1 u2 : Nat) (fv : DE) : DS := fun D ρ => fv ρ fun z ρ1 => wI (lk ρ1 z) fun n => keyS u1 u2 ρ1 fun key => wO (memF k i j ρ1) fun es => es.length < sizeLine ∧ D.nx (setM k i j (putM es key n) ρ1)
def tKey (u1 u2 : Nat) : TE := tTupF (tCons (tVar u1) (tCons (tVar u2) tNil))
section
variable {C : Ctx} {i j k u1 u2 : Nat} {x x1 x2 f : Str} {p p2 p3 p4 apos pos pos2 : Pos} {ev : Expr} {fv : DE} {y1}
theorem SS.key {σ : St} {H : Hp} {ρ : List T} {vs : List V} {τ : List T} {n : Int} {s : List Int} (I : SS C σ H ρ vs τ) (e1 : slI u1 ρ = some n) (e2 : ρ[u2]? = some (.dat (.tuple (s.map .int)))) {Q : VK}
    (h : ∀ (p : Addr) (hb : HO), H p = none → SS C σ (upd H p hb) ρ (vs ++ [.ref p]) (τ ++ [.dat (mkD (n, s))]) → DIs C.K N0 (upd H p hb) (mkD (n, s)) (.ref p) → Q (.ref p) (upd H p hb)) : tKey u1 u2 σ H Q := by
  obtain ⟨ow, J⟩ := id I
  rcases J.slot e2 with z | ⟨v, hv, r⟩
  · cases z
  obtain ⟨c, rfl⟩ : ∃ c, v = .ref c := by
    have r := r.dat_inv
    cases r
    exact ⟨_, rfl⟩
  refine ⟨.int n, I.slotI e1, .ref c, hv, (show 2 ≤ sizeLine by decide), fun p ob hp hd => ?_⟩
  have I2 : SS C σ H ρ (vs ++ [.int n] ++ [.ref c]) (τ ++ [.dat (.int n)] ++ [.dat (.tuple (s.map .int))]) := (I.int n).push0 fun ow' J' => by
    rcases J'.slot e2 with z | ⟨v', hv', r'⟩
    · cases z
    rw [hv] at hv'; cases hv'
    exact .dat r'.dat_inv
  obtain ⟨ow2, J2⟩ := (show SS C σ H ρ (vs ++ [.int n, .ref c]) (τ ++ [.dat (.int n), .dat (.tuple (s.map .int))]) by simpa using I2)
  have I3 := J2.dispT (I.ltE) hp hd
  have I3 : SS C σ (upd H p (.frz ob (.tup [.int n, .ref c]))) ρ (vs ++ [.ref p]) (τ ++ [.dat (mkD (n, s))]) := I3
  refine h p _ hp I3 (I3.keyD (m := τ.length) (by simp) (by rw [I.ltE]; simp))
end
def dMem0 : DE := fun ρ Q => Q (.mem []) ρ
end Ds
namespace Ds
open PySem L2
def dMulT : DO2 := fun ρ x y Q => match lk ρ y with
  | some (.int k) => wT (dr ρ x) fun ds => (ds ≠ [] ∧ 1 ≤ k ∧ k ≤ 1000 ∧ ds.length ≤ 1000) ∧ Q (.dat (.tuple (List.replicate k.toNat ds).flatten)) ρ
  | _ => False
section
variable {C : Ctx} {a b o e : Expr} {fa fb fo : DE} {fs : DA} {pos apos cpos : Pos}
end
def dNeverE : DE := fun _ _ => False
end Ds
namespace Ds
open PySem L2
def rGtD (K : PySem.W.Frag) : R2 := fun x y H Q => ∃ d e : PyData, DIs K N0 H d x ∧ DIs K N0 H e y ∧ PySem.W.alike d e = true ∧ d ≠ .none ∧ min d.depth e.depth ≤ 60 ∧ Q (.bl (PySem.W.dataLt e d)) H
abbrev dGtD : DO2 := pu2 fun d e k => PySem.W.alike d e = true ∧ d ≠ .none ∧ min d.depth e.depth ≤ 60 ∧ k (.bool (PySem.W.dataLt e d))
end Ds
namespace L2
open PySem PySem.Spec PyProof.Rows
section
variable {prog : Program} {w : World} {A : Around} {E : Value → Shared → Prop} {s : Shared}
end
section
variable {X : Cx}
def gCut (i j : Nat) : TG := fun v σ H Q => ∃ (l b : Addr) (xs ys : List V) (a : Nat), v = .ref b ∧ σ[i]? = some (some (.ref l)) ∧ σ[j]? = some (some (.int (a : Int))) ∧ H l = some (.lst xs) ∧ H b = some (.lst ys) ∧ l ≠ b ∧ a ≤ xs.length ∧ xs.length + ys.length ≤ sizeLine ∧
  Q σ (upd H l (.lst (xs.take a ++ ys ++ xs.drop (a + 1))))
end
end L2
namespace Ds
open PySem L2
def dCntT (fo : DE) (fs : DA) : DE := fun ρ Q => fo ρ fun x ρ1 => ∃ ns : List Int, x = .dat (.tuple (ns.map .int)) ∧ fs ρ1 fun ts ρ2 => match ts with
  | [y] => wI (lk ρ2 y) fun m => Q (.dat (.int (ns.count m : Nat))) ρ2
  | _ => False
section
variable {C : Ctx} {a b o e : Expr} {fa fb fo : DE} {fs : DA} {pos apos cpos : Pos}
end
def AL (n : Nat) (f : DA) : Prop := ∀ (ρ : List T) (Q Q' : List T → List T → Prop), f ρ Q → (∀ as ρ', as.length = n → Q as ρ' → Q' as ρ') → f ρ Q'
structure HasN (P : Program) (w : World) (K : PySem.W.Frag) (mg : Str → Option Value) (base : Heap) (x : Str) (k : Nat) (ps : List Str) (ms : List Md) (n : Nat) (kn : Str) (spd : DSp) : Prop where
  ex : ∃ a fd, mg x = some (.ref a) ∧ PySem.W.keepIn K (.ref a) = true ∧ (∃ g, KBn K fd ps n [kn] g (fun vs zs => vs ++ zs)) ∧ FnG P w K mg base k a fd ps (toSp K ps.length (lnOf ms) spd)
  mono : Mono spd
  len : ps.length = ms.length
section
variable {X : Cx} {k n : Nat} {f : Addr} {fd : FuncData} {ps ks : List Str} {sp : Sp} {E : St → XK} {x : Str} {p pos : Pos} {e : Expr} {es : List Expr} {kws : List Keyword} {t tk : TA} {g : List Value → List Value → List Value}
end
section
variable {C : Ctx} {k j n : Nat} {ps : List Str} {x kn : Str} {p pos kpos : Pos} {e ke : Expr} {es : List Expr} {fs : DA} {ms ms0 : List Md} {d : D} {v : V} {spd : DSp}
end
def dTryNW (tab : List Str) (fs : DS) (D : DEnds) : Exn → List T → Prop := fun ex ρ => tabHas tab ex.cls = true ∧ fs D ρ
def dTryN (tab : List Str) (fb : (Exn → List T → Prop) → DS) (fs : DS) : DS := fun D ρ => fb (dTryNW tab fs D) D ρ
def dCut (i j : Nat) (fe : DE) : DS := fun D ρ => fe ρ fun t ρ1 => wD (frz t) fun d => match ρ1[i]? with
  | some (.own ds) => wO (slI j ρ1) fun n => (0 ≤ n ∧ n ≤ ds.length ∧ ds.length < sizeLine) ∧ D.nx (ρ1.set i (.own (ds.take n.toNat ++ [d] ++ ds.drop (n.toNat + 1))))
  | _ => False
def dScrI (i : Nat) : DI := fun ρ Q => match ρ[i]? with
  | some (.scr ns) => Q ((ns.map PyData.int).map T.dat) ρ
  | _ => False
end Ds
namespace L2
open PySem PySem.Spec PyProof.Rows
def rCntD (K : PySem.W.Frag) : V → List V → Hp → VK → Prop := fun x xs H Q => ∃ (a : Addr) (y : V) (d : PyData) (ds : List PyData), x = V.ref a ∧ xs = [y] ∧ Dp K H (V.ref a) (.list ds) ∧ Dp K H y d ∧
  SeqAt.shaped (.list ds) = true ∧ SeqAt.shaped d = true ∧ Q (.int (ds.countP (fun z => PyData.eqv z d) : Nat)) H
end L2
namespace Ds
open PySem L2
def dCntD (fo : DE) (fs : DA) : DE := fun ρ Q => fo ρ fun x ρ1 => ∃ ds0 : List D, lk ρ1 x = some (.list ds0) ∧ fs ρ1 fun ts ρ2 => match ts with
  | [y] => ∃ (ds : List D) (d : D), lk ρ2 x = some (.list ds) ∧ lk ρ2 y = some d ∧ SeqAt.shaped (.list ds) = true ∧ SeqAt.shaped d = true ∧ Q (.dat (.int (ds.countP (fun z => PyData.eqv z d) : Nat))) ρ2
  | _ => False
section
variable {C : Ctx} {o e : Expr} {fo : DE} {fs : DA} {apos cpos : Pos}
end
end Ds
namespace Ds
open PySem L2
def dIxOwn (k : Nat) (fe : DE) : DE := fun ρ Q => fe ρ fun x ρ1 => match x with
  | .tup ts => wO ts[k]? fun t => Q t ρ1
  | _ => False
end Ds
namespace Ds
open PySem L2
def dIndexA (fo : DE) (fs : DA) : DE := fun ρ Q => fo ρ fun x ρ1 => wInts (lk ρ1 x) fun _ => fs ρ1 fun ts ρ2 => match ts with
  | [y] => wInts (lk ρ2 x) fun ns => wI (lk ρ2 y) fun k => ∃ w : Nat, FirstAt ns k w ∧ Q (.dat (.int (w : Nat))) ρ2
  | _ => False
section
variable {C : Ctx} {o e : Expr} {fo fe : DE} {fs : DA} {apos cpos pos : Pos}
def dRevD (f : DE) : DE := fun ρ Q => f ρ fun x ρ1 => wL (dr ρ1 x) fun ds => Q (.own ds.reverse) ρ1
end
end Ds
namespace Ds
open PySem L2
section
variable {C : Ctx} {σ : St} {H : Hp} {ρ : List T} {vs : List V} {τ : List T} {i j : Nat} {ds : List D} {us : List T}
end
def dAppT (i j : Nat) : DS := fun D ρ => match ρ[i]? with
  | some (.lst us) => match ρ[j]? with
    | some (.own ds) => us.length < sizeLine ∧ D.nx ((ρ.set i (.lst (us ++ [.own ds]))).set j .emp)
    | _ => False
  | _ => False
section
variable {C : Ctx} {x y : Str} {p1 p2 p3 apos cpos epos pos : Pos}
def dCopyLast (i : Nat) : DE := fun ρ Q => match ρ[i]? with
  | some (.lst us) => match us.getLast? with
    | some (.own ds) => ∃ ns : List Int, ds = ns.map .int ∧ Q (.own (ns.map .int)) ρ
    | _ => False
  | _ => False
end
end Ds
namespace Ds
open PySem L2
abbrev encL (x : V × List Int) : PyData := .list (x.2.map .int)
def ordL (a b : List Int) : Prop := PySem.W.dataLt (.list (b.map .int)) (.list (a.map .int)) = false
def rSortLs (K : PySem.W.Frag) : List V → Hp → VK → Prop := fun xs H Q => ∃ (a : Addr) (nss : List (List Int)) (ys : List V), xs = [.ref a] ∧ SqL K H a ys ∧ DIsL K N0 H (nss.map fun ns => .list (ns.map .int)) ys ∧ nss.Pairwise ordL ∧
  ∀ p, H p = none → Q (.ref p) (upd H p (.lst ys))
section
variable {X : Cx}
end
def dSortLs : DOn := fun ρ ts Q => match ts with
  | [x] => wL (dr ρ x) fun ds => ∃ nss : List (List Int), ds = nss.map (fun ns => .list (ns.map .int)) ∧ nss.Pairwise ordL ∧ Q (.own ds) ρ
  | _ => False
section
variable {C : Ctx} {e : Expr} {fs : DA} {p pos : Pos}
end
def dIndexD (fo : DE) (fs : DA) : DE := fun ρ Q => fo ρ fun x ρ1 => ∃ ds0 : List D, lk ρ1 x = some (.list ds0) ∧ fs ρ1 fun ts ρ2 => match ts with
  | [y] => ∃ (ds : List D) (d : D) (j : Nat) (z : D), lk ρ2 x = some (.list ds) ∧ lk ρ2 y = some d ∧ SeqAt.shaped (.list ds) = true ∧ SeqAt.shaped d = true ∧ (ds[j]? = some z ∧ PyData.eqv z d = true ∧ ∀ (m : Nat) (z' : PyData), m < j → ds[m]? = some z' → PyData.eqv z' d = false) ∧ Q (.dat (.int (j : Nat))) ρ2
  | _ => False
section
variable {C : Ctx} {o e : Expr} {fo : DE} {fs : DA} {apos cpos : Pos}
end
end Ds
namespace L2
open PySem PySem.Spec PyProof.Rows GenW
def errGo (env : Env) (e : Value) : Sem PySem.Fin := (do noteFrame e env; theTreesLotGoes e : Sem Unit).bind fun _ => .raise e
def turnK (tg : Expr) (it : Value) (body : List Stmt) (env : Env) : Flow → Sem PySem.Fin
  | .next => .pure (.again (.forLoop tg it body [] env))
  | .cont => .pure (.again (.forLoop tg it body [] env))
  | .brk => .pure (.done .next)
  | .ret v => .pure (.done (.ret v))
section
variable {prog : Program} {w : World} {A : Around} {R : GenEnd} {Y : Protocol} {n : Nat} {s₀ s : Shared} {fs : List Frame} {env : Env} {tg : Expr} {it : Value} {body : List Stmt}
end
def tGFor (wi : TI) (g : TG) (tb : TGn) : TGn := fun D ys σ H => wi σ H fun Z H1 => ∃ W : Nat → Nat → List V → St → Hp → Prop, (∃ m, W 0 m ys σ H1) ∧ ∀ i m zs σ2 H2, W i m zs σ2 H2 →
  (Z.stop i H2 ∧ D.nx zs σ2 H2) ∨ (Z.go i H2 ∧ ∃ N : List V → St → Hp → Prop, (∀ zs' σ' H', N zs' σ' H' → ∃ m', m' < m ∧ W (i + 1) m' zs' σ' H') ∧ ∀ x H', Z.yld i H2 x H' → g x σ2 H' fun σ3 H3 => tb { D with nx := N, ct := N, bk := D.nx } zs σ3 H3)
section
variable {X : Cx} {tg iter : Expr} {body : List Stmt} {wi : TI} {g : TG} {tb : TGn} {pos : Pos}
end
end L2
namespace Ds
open PySem L2
open PyProof.Rows (envOfC)
abbrev gctxOf (P : Program) (w : World) (K : PySem.W.Frag) (mg : Str → Option Value) (base : Heap) (N : List Str) (qual : Str) (sc : Scope) (f : Addr) (cdv : Value) (A : Around) (outer : List Env) (s : Shared) (H : Hp) (E : XK) (Wd : Exn → List T → Prop)
    (B0 : Addr → Prop) (o : List Addr) (vs : List V) (cv : List Nat) (pn : List (Addr × Obj)) : Ctx := ⟨gcxOf P w K mg base N qual sc f cdv A outer s H E pn, Wd, B0, H, o, [], L2.start N vs, cv⟩
abbrev DGn := (List D → List T → Prop) → List D → List T → Prop
def datT (zs : List D) : List T := zs.map .dat
def SimGn (C : Ctx) (t : TGn) (f : DGn) : Prop := ∀ (σ : St) (H : Hp) (ρ : List T) (ys : List V) (zs : List D) (Kd : List D → List T → Prop) (D : GEnds), SS C σ H ρ ys (datT zs) → f Kd zs ρ →
  (∀ σ' H' ρ' ys' zs', SS C σ' H' ρ' ys' (datT zs') → Kd zs' ρ' → D.nx ys' σ' H') → t D ys σ H
structure DGS (C : Ctx) (st : Stmt) (f : DGn) : Prop where
  ex : ∃ t, GS C.X st t ∧ SimGn C t f
structure DGSs (C : Ctx) (st : List Stmt) (f : DGn) : Prop where
  ex : ∃ t, GSs C.X st t ∧ SimGn C t f
def dgPlain (f : DS) : DGn := fun K zs ρ => f { nx := K zs, rt := fun _ _ => False } ρ
structure dgSeq (f g : DGn) (K : List D → List T → Prop) (zs : List D) (ρ : List T) : Prop where
  run : f (fun zs1 ρ1 => g K zs1 ρ1) zs ρ
def dgNext : DGn := fun K zs ρ => K zs ρ
def dgYield (fe : DE) : DGn := fun K zs ρ => zs.length < sizeLine ∧ fe ρ fun x ρ1 => wD (frz x) fun d => K (zs ++ [d]) ρ1
def dgTurns (g : DG) (f : DGn) (K : List D → List T → Prop) : Nat → Nat → List D → List T → Prop
  | 0, _, zs, ρ => K zs ρ
  | r + 1, i, zs, ρ => g (.dat (.int (i : Nat))) ρ fun ρ1 => f (fun zs' ρ' => dgTurns g f K r (i + 1) zs' ρ') zs ρ1
def dgForR (fs : DA) (g : DG) (f : DGn) : DGn := fun K zs ρ => fs ρ fun ts ρ1 => match ts with
  | [x] => wI (lk ρ1 x) fun j => (-(2 ^ 62) ≤ j ∧ j < 2 ^ 62) ∧ dgTurns g f K j.toNat 0 zs ρ1
  | _ => False
section
variable {C : Ctx} {st : Stmt} {rest body : List Stmt} {f g : DGn} {fs : DA} {fe : DE} {e tg : Expr} {pos yp p p2 : Pos} {dg : DG}
end
abbrev DGp := List T → (List D → Prop) → Prop
def MonoG (spd : DGp) : Prop := ∀ ts (A B : List D → Prop), (∀ ds, A ds → B ds) → spd ts A → spd ts B
structure GPost (K : PySem.W.Frag) (B0 : Addr → Prop) (H : Hp) (o : List Addr) (ds : List D) (ys : List V) (H' : Hp) : Prop where
  is : DIsL K B0 H' ds ys
  co : PostC H o H'
def toSpG (K : PySem.W.Frag) (n : Nat) (spd : DGp) : SpG := fun vs H cont _ => ∃ (B0 : Addr → Prop) (ts : List T) (o : List Addr), ts.length = n ∧ Pre K B0 H none vs ts o ∧ spd ts fun ds => ∀ ys H', GPost K B0 H o ds ys H' → cont ys H'
structure SpcG (spd : DGp) (ts : List T) (Q : List D → Prop) : Prop where
  is : spd ts Q
section
variable {P : Program} {w : World} {K : PySem.W.Frag} {mg : Str → Option Value} {base : Heap}
end
structure HasG (P : Program) (w : World) (K : PySem.W.Frag) (mg : Str → Option Value) (base : Heap) (x : Str) (k : Nat) (ps : List Str) (ms : List Md) (spd : DGp) : Prop where
  ex : ∃ f fd, mg x = some (.ref f) ∧ PySem.W.keepIn K (.ref f) = true ∧ Binds K fd ps [] ∧ GFn P w K mg base k f fd ps (toSpG K ps.length spd)
  mono : MonoG spd
  len : ps.length = ms.length
def dListG (ms : List Md) (spd : DGp) (fs : DA) : DE := fun ρ Q => fs ρ fun as ρ1 => wO (argsT ρ1 ms as) fun ts => match freeOf (slotOf ms as) ms as with
  | true => SpcG spd ts fun ds => Q (.own ds) ρ1
  | false => False
section
variable {C : Ctx} {k j : Nat} {x : Str} {ps : List Str} {ms : List Md} {spd : DGp} {fs : DA} {e : Expr} {es : List Expr} {p p2 pos pos2 : Pos}
end
end Ds
namespace Ds
open PySem L2
def ipMulV : TIp := fun x y H Q => ∃ i j, x = .int i ∧ y = .int j ∧ CMulV i j ∧ Q (.int (i * j)) H
theorem ip_mulV {X : Cx} : PIp X .Mult ipMulV := by
  intro pins s σ H x y v u Q I r1 r2 h
  obtain ⟨i, j, rfl, rfl, hc, q⟩ := h
  obtain ⟨t, rfl⟩ := r1
  obtain ⟨t', rfl⟩ := r2
  exact PySem.P.imul_int ⟨.int _, H, I.tok _, ⟨_, rfl⟩, q⟩ hc.ok
def dAugM (i : Nat) (f : DE) : DS := fun D ρ => wI ((ρ[i]?).bind toD) fun n => f ρ fun x ρ1 => wI (lk ρ1 x) fun m => CMulV n m ∧ D.nx (ρ1.set i (.dat (.int (n * m))))
section
variable {C : Ctx} {fe : DE} {e : Expr} {pos pos' : Pos} {i : Nat} {x : Str}
theorem ds_augMul (hN : C.X.N.Nodup) (hi : C.X.N[i]? = some x) (hx : Loc C.X.env.scope x) (nl : i ∉ C.lent) (h : DPE C e fe)
    (hf : C.X.fn x = true ∨ C.X.env.scope.names.lookup x = some .local := by first | exact .inl rfl | exact .inr rfl | assumption) : DPS C (.AugAssign (.Name x pos') .Mult e pos) (dAugM i fe) :=
  let ⟨_, p, hs⟩ := h.ex
  ⟨_, ps_aug hN hi hx p ip_mulV hf, fun σ H ρ vs τ Dd D I na h k => by
    obtain ⟨n, e1, h⟩ := wI_some h
    simp only [Option.bind_eq_some_iff] at e1
    obtain ⟨t, et, ed⟩ := e1
    obtain ⟨ow, J⟩ := id I
    rcases J.slot et with rfl | ⟨v, hv, r⟩
    · simp [toD] at ed
    · have ev : v = .int n := (r.toD ed).int_eq
      subst ev
      refine ⟨_, hv, hs σ H ρ vs τ _ _ I h fun w H1 x ρ1 I1 q => ?_⟩
      obtain ⟨m, em, q⟩ := wI_some q
      refine ⟨n, m, rfl, (I1.lk1 em).int_eq, q.1, ?_⟩
      have hi : i < σ.length := (List.getElem?_eq_some_iff.mp hv).1
      exact k.nx _ _ _ ((I1.pop.int _).assign (by rw [I1.lnN]; exact hi) rfl (.inl na) nl) q.2⟩
end
end Ds
namespace Ds
open PySem L2
section
variable {C : Ctx} {x : Str} {p pos : Pos} {ek : Expr} {fk : DE}
theorem dt_dnin (i : Nat) (hu : C.X.A.units + 1 < cLine) (hN : C.X.N[i]? = some x) (hv : Vis C.X.env.scope x) (hk : DPE C ek fk) (hd : (x == ("__debug__" : Str)) = false := by decide) (hcd : (x == ("__classdict__" : Str)) = false := by decide)
    (hb : behindInMarks .NotIn (.Name x p) = false := by rfl) : DPT C (.Compare ek [.NotIn] [.Name x p] pos) (tVal (dDNin i fk)) :=
  let ⟨_, pk, sk⟩ := hk.ex
  ⟨_, pt_cmp (pc_dnotin hu pk (pe_var hN hv hd hcd)) hb, fun σ H ρ vs τ Qd Q I q k => sk σ H ρ vs τ _ _ I q fun v H1 y ρ1 I1 q1 => by
    obtain ⟨j, ej, q1⟩ := wK_some q1
    obtain ⟨ps, e1, q1⟩ := sDct_is q1
    obtain ⟨rfl, l, o, h1, h2, h3⟩ := din_core I1 ej e1
    refine ⟨.ref l, h1, l, o, rfl, h2, ?_⟩
    rw [h3]
    exact ⟨_, rfl, k _ _ _ I1.pop q1⟩⟩
end
end Ds
namespace Lw
open PySem L2 Ds
def reelM : Int := 2 ^ 64 * 2 ^ 63 - 1
structure Reel where
  g : List Int
  c : List Int
  n : Int
  s : Int
def Reel.d (r : Reel) : List D := [.list (r.g.map .int), .list (r.c.map .int), .int r.n, .int r.s]
structure Reel.Ok (r : Reel) (b : Nat) : Prop where
  c0 : r.c ≠ []
  cb : ∀ x ∈ r.c, 0 ≤ x ∧ x < 1000003
  cl : r.c.length ≤ 64
  n0 : 0 ≤ r.n
  nb : r.n ≤ b
  s0 : 0 ≤ r.s
  sb : r.s < 2 ^ 132
  gl : r.g.length ≤ 63
  gb : ∀ x ∈ r.g, 0 ≤ x
theorem Reel.Ok.mono {r : Reel} {a b : Nat} (h : r.Ok a) (hab : a ≤ b) : r.Ok b := ⟨h.c0, h.cb, h.cl, h.n0, by have := h.nb; omega, h.s0, h.sb, h.gl, h.gb⟩
def Reel.extra (r : Reel) : Int := r.c.getD ((r.n + 1) % (r.c.length : Int)).toNat 0
def Reel.stir (r : Reel) : Int := (r.s * r.s + (r.extra + 17) * 27644437 + (r.n + 1) * 999959) % reelM
def Reel.draw (r : Reel) (m : Int) : Int × Reel := match r.g with
  | x :: g => (x % m, ⟨(if x < m then [] else [x / m]) ++ g, r.c, r.n, r.s⟩)
  | [] => (r.stir / 2 ^ 41 % m, ⟨[], r.c, r.n + 1, r.stir⟩)
theorem Reel.draw_ok {r : Reel} {m : Int} {b : Nat} (h : r.Ok b) (hm : 0 < m) : 0 ≤ (r.draw m).1 ∧ (r.draw m).1 < m ∧ (r.draw m).2.Ok (b + 1) := by
  have hM : (0 : Int) < reelM := by decide
  unfold Reel.draw
  split
  · rename_i x g e
    have hx : 0 ≤ x := h.gb x (by rw [e]; simp)
    refine ⟨Int.emod_nonneg _ (by omega), Int.emod_lt_of_pos _ hm, h.c0, h.cb, h.cl, h.n0, by have := h.nb; show r.n ≤ _; omega, h.s0, h.sb, ?_, ?_⟩
    · have := h.gl
      rw [e] at this
      dsimp only
      split <;> simp at this ⊢ <;> omega
    · intro y hy
      dsimp only at hy
      rcases List.mem_append.mp hy with z | z
      · split at z
        · simp at z
        · simp at z; rw [z]; exact Int.ediv_nonneg hx (by omega)
      · exact h.gb y (by rw [e]; simp [z])
  · refine ⟨Int.emod_nonneg _ (by omega), Int.emod_lt_of_pos _ hm, h.c0, h.cb, h.cl, by have := h.n0; dsimp only; omega, by have := h.nb; dsimp only; omega, Int.emod_nonneg _ (by omega), Int.lt_trans (Int.emod_lt_of_pos _ hM) (by decide), by simp, by simp⟩
def reelStep (s c : Int) : Int := (s * s + c % 1000000000000000003 + 29) % reelM
def reelOf (ns : List Int) : Reel := ⟨(ns.filter fun c => decide (10 ^ 18 ≤ c)).map (· - 10 ^ 18), ns.map (· % 1000003) ++ [57], 0, ns.foldl reelStep (23 ^ 29)⟩
theorem stirs_ok (ns : List Int) : 0 ≤ ns.foldl reelStep (23 ^ 29) ∧ ns.foldl reelStep (23 ^ 29) < 2 ^ 132 := by
  have hM : (0 : Int) < reelM := by decide
  have go : ∀ (ns : List Int) (s : Int), 0 ≤ s ∧ s < 2 ^ 132 → 0 ≤ ns.foldl reelStep s ∧ ns.foldl reelStep s < 2 ^ 132 := by
    intro ns
    induction ns with
    | nil => intro s h; exact h
    | cons c ns ih =>
      intro s h
      exact ih _ ⟨Int.emod_nonneg _ (by omega), Int.lt_trans (Int.emod_lt_of_pos _ hM) (by decide)⟩
  exact go ns _ (by decide)
theorem reelOf_ok {ns : List Int} (h : ns.length ≤ 63) : (reelOf ns).Ok 0 := by
  obtain ⟨h1, h2⟩ := stirs_ok ns
  refine ⟨by simp [reelOf], fun x hx => ?_, by simp [reelOf]; omega, Int.le_refl _, Int.le_refl _, h1, h2, ?_, fun x hx => ?_⟩
  · simp only [reelOf, List.mem_append, List.mem_map, List.mem_singleton] at hx
    rcases hx with ⟨y, _, rfl⟩ | rfl
    · exact ⟨Int.emod_nonneg _ (by decide), Int.emod_lt_of_pos _ (by decide)⟩
    · decide
  · simp only [reelOf, List.length_map]
    exact Nat.le_trans (List.length_filter_le ..) h
  · simp only [reelOf, List.mem_map, List.mem_filter, decide_eq_true_eq] at hx
    obtain ⟨y, ⟨_, hy⟩, rfl⟩ := hx
    omega
def isIntB : D → Int → D → Bool
  | .int i, lo, .none => decide (lo ≤ i)
  | .int i, lo, .int h => decide (lo ≤ i) && decide (i ≤ h)
  | _, _, _ => false
def isLstB : D → Bool
  | .list _ => true
  | .tuple _ => true
  | _ => false
def isRunB : D → Bool
  | .list [c, n] => isIntB c (-1) (.int 1) && isIntB n 1 (.int (1000000000000000000000000000000 : Int))
  | .tuple [c, n] => isIntB c (-1) (.int 1) && isIntB n 1 (.int (1000000000000000000000000000000 : Int))
  | _ => false
def runFst : D → D
  | .list (c :: _) => c
  | .tuple (c :: _) => c
  | _ => .none
def chainB : List D → Bool
  | a :: b :: r => !PyData.eqv (runFst a) (runFst b) && chainB (b :: r)
  | _ => true
def recL (ds : List D) : Bool := decide (ds.length ≤ 400) && ds.all isRunB && chainB ds
def isRecB : D → Bool
  | .list ds => recL ds
  | .tuple ds => recL ds
  | _ => false
def drun (p : Int × Int) : D := .tuple [.int p.1, .int p.2]
def Chn (rs : List (Int × Int)) : Prop := ∀ (i : Nat) (a b : Int × Int), rs[i]? = some a → rs[i + 1]? = some b → a.1 ≠ b.1
structure Runs (m : Nat) (L : Int) (rs : List (Int × Int)) : Prop where
  len : rs.length ≤ m
  chg : ∀ p ∈ rs, -1 ≤ p.1 ∧ p.1 ≤ 1
  cnt : ∀ p ∈ rs, 1 ≤ p.2 ∧ p.2 ≤ L
  chn : Chn rs
theorem Chn.snoc {rs : List (Int × Int)} {x : Int × Int} (h : Chn rs) (hx : ∀ a, rs.getLast? = some a → a.1 ≠ x.1) : Chn (rs ++ [x]) := by
  intro i a b ha hb
  have hi := (List.getElem?_eq_some_iff.mp hb).1
  simp at hi
  by_cases z : i + 1 < rs.length
  · rw [List.getElem?_append_left (by omega)] at ha
    rw [List.getElem?_append_left z] at hb
    exact h i a b ha hb
  · have e : i + 1 = rs.length := by omega
    rw [List.getElem?_append_left (by omega)] at ha
    rw [List.getElem?_append_right (by omega), e, Nat.sub_self] at hb
    simp at hb
    subst hb
    refine hx a ?_
    rw [List.getLast?_eq_getElem?, show rs.length - 1 = i by omega]
    exact ha
theorem Runs.nil {m : Nat} {L : Int} : Runs m L [] := ⟨Nat.zero_le _, by simp, by simp, fun i a b h => by simp at h⟩
theorem Runs.snoc {m : Nat} {L : Int} {rs : List (Int × Int)} {c n : Int} (h : Runs m L rs) (hx : ∀ a, rs.getLast? = some a → a.1 ≠ c) (c0 : -1 ≤ c) (c1 : c ≤ 1) (n0 : 1 ≤ n) (n1 : n ≤ L) : Runs (m + 1) L (rs ++ [(c, n)]) :=
  ⟨by have := h.len; simp; omega, fun p hp => by rcases List.mem_append.mp hp with hp | hp; exact h.chg p hp; simp at hp; subst hp; exact ⟨c0, c1⟩,
   fun p hp => by rcases List.mem_append.mp hp with hp | hp; exact h.cnt p hp; simp at hp; subst hp; exact ⟨n0, n1⟩, h.chn.snoc hx⟩
theorem Runs.mono {m m' : Nat} {L L' : Int} {rs : List (Int × Int)} (h : Runs m L rs) (hm : m ≤ m') (hL : L ≤ L') : Runs m' L' rs := ⟨Nat.le_trans h.len hm, h.chg, fun p hp => ⟨(h.cnt p hp).1, Int.le_trans (h.cnt p hp).2 hL⟩, h.chn⟩
theorem gI_last {α : Type} (l : List α) : gI l (-1) = l.getLast? := by
  show l.reverse[0]? = _
  rw [← List.head?_eq_getElem?, List.head?_reverse]
def mrgStep (acc : List (Int × Int)) (p : Int × Int) : List (Int × Int) := match acc.getLast? with
  | some q => if q.1 = p.1 then acc.dropLast ++ [(p.1, p.2 + q.2)] else acc ++ [p]
  | none => [p]
def mergeR (rs : List (Int × Int)) : List (Int × Int) := rs.foldl mrgStep []
mutual
def und : D → D
  | .list ds => .list (undL ds)
  | .tuple ds => .list (undL ds)
  | d => d
def undL : List D → List D
  | [] => []
  | d :: ds => und d :: undL ds
end
mutual
def ndD : D → Nat
  | .list ds => 1 + ndL ds
  | .tuple ds => 1 + ndL ds
  | _ => 1
def ndL : List D → Nat
  | [] => 0
  | d :: ds => ndD d + ndL ds
end
mutual
def noDct : D → Bool
  | .list ds => noDctL ds
  | .tuple ds => noDctL ds
  | .dict _ => false
  | _ => true
def noDctL : List D → Bool
  | [] => true
  | d :: ds => noDct d && noDctL ds
end
theorem ndD_pos : ∀ d, 1 ≤ ndD d
  | .list ds => by simp only [ndD]; omega
  | .tuple ds => by simp only [ndD]; omega
  | .none => Nat.le_refl _
  | .bool _ => Nat.le_refl _
  | .int _ => Nat.le_refl _
  | .str _ => Nat.le_refl _
  | .dict _ => Nat.le_refl _
theorem ndL_len : ∀ ds, ds.length ≤ ndL ds
  | [] => Nat.le_refl _
  | d :: ds => by have := ndL_len ds; have := ndD_pos d; simp only [ndL, List.length_cons]; omega
theorem undL_append : ∀ a b, undL (a ++ b) = undL a ++ undL b
  | [], b => rfl
  | d :: a, b => by simp only [List.cons_append, undL, undL_append a b]
theorem ndL_append : ∀ a b, ndL (a ++ b) = ndL a + ndL b
  | [], b => by simp [ndL]
  | d :: a, b => by simp only [List.cons_append, ndL, ndL_append a b]; omega
theorem ndL_take (ds : List D) (j : Nat) (d : D) (h : ds[j]? = some d) : ndL (ds.take j) + ndD d ≤ ndL ds := by
  have e : ds.take (j + 1) = ds.take j ++ [d] := by rw [List.take_succ, h]; rfl
  have e2 := congrArg ndL (List.take_append_drop (j + 1) ds)
  rw [e, ndL_append, ndL_append] at e2
  simp only [ndL] at e2
  omega
theorem noDctL_get : ∀ {ds : List D} {j : Nat} {d : D}, noDctL ds = true → ds[j]? = some d → noDct d = true
  | [], _, _, _, e => by simp at e
  | x :: ds, 0, d, h, e => by simp only [noDctL, Bool.and_eq_true] at h; simp at e; subst e; exact h.1
  | x :: ds, j + 1, d, h, e => by simp only [noDctL, Bool.and_eq_true] at h; exact noDctL_get (j := j) h.2 (by simpa using e)
theorem depth_get : ∀ {ds : List D} {j : Nat} {d : D}, ds[j]? = some d → d.depth ≤ PyData.depthAll ds
  | [], _, _, e => by simp at e
  | x :: ds, 0, d, e => by simp at e; subst e; simp only [PyData.depthAll]; omega
  | x :: ds, j + 1, d, e => by have := depth_get (ds := ds) (j := j) (d := d) (by simpa using e); simp only [PyData.depthAll]; omega
theorem und_int {d : D} {i : Int} (h : und d = .int i) : d = .int i := by cases d <;> simp only [und] at h <;> first | exact h | cases h
theorem und_lst {d : D} {us : List D} (h : und d = .list us) : ∃ ds, (d = .list ds ∨ d = .tuple ds) ∧ undL ds = us := by
  cases d <;> simp only [und] at h <;> first | cases h | skip
  · exact ⟨_, .inl rfl, rfl⟩
  · exact ⟨_, .inr rfl, rfl⟩
theorem undL_cons_inv {ds : List D} {u : D} {us : List D} (h : undL ds = u :: us) : ∃ d r, ds = d :: r ∧ und d = u ∧ undL r = us := by
  cases ds with
  | nil => cases h
  | cons d r => simp only [undL, List.cons.injEq] at h; exact ⟨d, r, rfl, h.1, h.2⟩
theorem undL_nil_inv {ds : List D} (h : undL ds = []) : ds = [] := by cases ds with | nil => rfl | cons d r => cases h
theorem undL_ints : ∀ ns : List Int, undL (ns.map PyData.int) = ns.map PyData.int
  | [] => rfl
  | n :: ns => by simp only [List.map_cons, undL, und, undL_ints ns]
theorem undL_ints_inv : ∀ {ns : List Int} {ds : List D}, undL ds = ns.map PyData.int → ds = ns.map PyData.int
  | [], ds, h => undL_nil_inv h
  | n :: ns, ds, h => by
    obtain ⟨d, r, rfl, h1, h2⟩ := undL_cons_inv h
    rw [und_int h1, undL_ints_inv h2]; rfl
theorem und_ints {d : D} {ns : List Int} (h : und d = und (.list (ns.map .int))) : d = .list (ns.map .int) ∨ d = .tuple (ns.map .int) := by
  simp only [und, undL_ints] at h
  obtain ⟨ds, h1, h2⟩ := und_lst h
  rw [undL_ints_inv h2] at h1; exact h1
theorem nd_ints (ns : List Int) : ndL (ns.map PyData.int) = ns.length := by
  induction ns with
  | nil => rfl
  | cons n ns ih => simp only [List.map_cons, ndL, ndD, ih, List.length_cons]; omega
theorem noDct_ints (ns : List Int) : noDctL (ns.map PyData.int) = true := by
  induction ns with
  | nil => rfl
  | cons n ns ih => simp only [List.map_cons, noDctL, noDct, ih, Bool.and_self]
def RLk : List D → List (Int × Int) → Prop
  | [], [] => True
  | d :: ds, p :: ps => (d = .list [.int p.1, .int p.2] ∨ d = .tuple [.int p.1, .int p.2]) ∧ RLk ds ps
  | _, _ => False
theorem Chn.tail {a : Int × Int} {rs : List (Int × Int)} (h : Chn (a :: rs)) : Chn rs := fun i x y hx hy => h (i + 1) x y (by simpa using hx) (by simpa using hy)
end Lw
namespace Lw
open PySem L2 Ds
def runsOf (cs : List Int) : List (Int × Int) := mergeR (cs.map fun c => (c, 1))
def expandR (rs : List (Int × Int)) : List Int := rs.flatMap fun p => List.replicate p.2.toNat p.1
def totR (rs : List (Int × Int)) : Int := (rs.map (·.2)).sum
theorem totR_cons (p : Int × Int) (rs : List (Int × Int)) : totR (p :: rs) = p.2 + totR rs := by simp [totR]
theorem expandR_append (a b : List (Int × Int)) : expandR (a ++ b) = expandR a ++ expandR b := by simp [expandR]
theorem expandR_one (p : Int × Int) : expandR [p] = List.replicate p.2.toNat p.1 := by simp [expandR]
theorem totR_nonneg : ∀ {rs : List (Int × Int)}, (∀ p ∈ rs, 1 ≤ p.2) → 0 ≤ totR rs ∧ (expandR rs).length = (totR rs).toNat ∧ (rs.length : Int) ≤ totR rs
  | [], _ => ⟨Int.le_refl _, rfl, Int.le_refl _⟩
  | p :: rs, h => by
    obtain ⟨h1, h2, h3⟩ := totR_nonneg (rs := rs) fun x hx => h x (List.mem_cons_of_mem _ hx)
    have h4 := h p (List.mem_cons_self ..)
    have e : expandR (p :: rs) = List.replicate p.2.toNat p.1 ++ expandR rs := by simp [expandR]
    rw [totR_cons, e]
    refine ⟨by omega, by simp only [List.length_append, List.length_replicate, h2]; omega, by simp only [List.length_cons]; omega⟩
structure RunsOf (cs : List Int) (rs : List (Int × Int)) : Prop where
  ex : expandR rs = cs
  cn : Chn rs
  pos : ∀ p ∈ rs, 1 ≤ p.2
  mem : ∀ p ∈ rs, p.1 ∈ cs
theorem last_split {acc : List (Int × Int)} {q : Int × Int} (h : acc.getLast? = some q) : acc = acc.dropLast ++ [q] := by
  have hne : acc ≠ [] := fun z => by subst z; simp at h
  have e := List.dropLast_concat_getLast hne
  rw [List.getLast?_eq_some_getLast hne] at h
  cases h
  exact e.symm
theorem RunsOf.snoc {cs : List Int} {rs : List (Int × Int)} (h : RunsOf cs rs) (c : Int) : RunsOf (cs ++ [c]) (mrgStep rs (c, 1)) := by
  unfold mrgStep
  split
  · rename_i q hq
    have e := last_split hq
    have hqm : q ∈ rs := by rw [e]; simp
    have hq1 := h.pos q hqm
    split
    · rename_i hc
      dsimp only at hc
      refine ⟨?_, ?_, fun p hp => ?_, fun p hp => ?_⟩
      · have h1 := h.ex
        rw [e, expandR_append, expandR_one] at h1
        rw [expandR_append, expandR_one, ← h1, List.append_assoc, hc]
        congr 1
        dsimp only
        rw [show (1 + q.2).toNat = q.2.toNat + 1 by omega, List.replicate_succ']
      · intro i a b ha hb
        have cn := h.cn i
        rw [e] at cn
        by_cases z : i + 1 < rs.dropLast.length
        · rw [List.getElem?_append_left (by omega)] at ha
          rw [List.getElem?_append_left z] at hb
          exact cn a b (by rw [List.getElem?_append_left (by omega)]; exact ha) (by rw [List.getElem?_append_left z]; exact hb)
        · have hi := (List.getElem?_eq_some_iff.mp hb).1
          simp only [List.length_append, List.length_singleton] at hi
          have ei : i + 1 = rs.dropLast.length := by omega
          rw [List.getElem?_append_left (by omega)] at ha
          rw [List.getElem?_append_right (by omega), ei, Nat.sub_self] at hb
          simp at hb
          subst hb
          dsimp only
          rw [← hc]
          exact cn a q (by rw [List.getElem?_append_left (by omega)]; exact ha) (by rw [List.getElem?_append_right (by omega), ei, Nat.sub_self]; rfl)
      · rcases List.mem_append.mp hp with hp | hp
        · exact h.pos p ((List.dropLast_sublist _).subset hp)
        · simp at hp; subst hp; dsimp only; omega
      · rcases List.mem_append.mp hp with hp | hp
        · exact List.mem_append_left _ (h.mem p ((List.dropLast_sublist _).subset hp))
        · simp at hp; subst hp; simp
    · rename_i hc
      dsimp only at hc
      refine ⟨by rw [expandR_append, expandR_one, h.ex]; rfl, h.cn.snoc fun a ha => by rw [hq] at ha; cases ha; exact hc, fun p hp => ?_, fun p hp => ?_⟩
      · rcases List.mem_append.mp hp with hp | hp
        · exact h.pos p hp
        · simp at hp; subst hp; exact Int.le_refl _
      · rcases List.mem_append.mp hp with hp | hp
        · exact List.mem_append_left _ (h.mem p hp)
        · simp at hp; subst hp; simp
  · rename_i hq
    rw [List.getLast?_eq_none_iff] at hq
    subst hq
    have hc : cs = [] := h.ex.symm
    subst hc
    exact ⟨rfl, fun i a b ha hb => by simp at hb, by simp, by simp⟩
theorem ints_tlA {cs : List Int} {m : Nat} {k : Nat} (n : Nat) (h : ∀ c ∈ cs, -(2 ^ n) < c ∧ c < 2 ^ n) (hm : cs.length ≤ m) (hn : 0 < n) (hn2 : n ≤ 1920) (hk : n + 1 ≤ k) : TlA 0 k m (cs.map .int) :=
  TlA.map (fun c hc => Tl.intB n (h c hc).1 (h c hc).2 hn hn2 hk) hm
end Lw
namespace Lw
open PySem L2 Ds
abbrev mn (i j : Int) : Int := if j < i then j else i
def cntR (c : Int) : List (Int × Int) → Int → Int
  | [], _ => 0
  | p :: rs, n => (if p.1 = c then mn p.2 n else 0) + cntR c rs (n - mn p.2 n)
theorem cut_mem {α : Type} {l : List α} {lo hi : Option Int} {x : α} (h : x ∈ cut l lo hi) : x ∈ l := List.mem_of_mem_drop (List.mem_of_mem_take h)
theorem cut_len {α : Type} (l : List α) (lo hi : Option Int) : (cut l lo hi).length ≤ l.length := by
  unfold cut; rw [List.length_take, List.length_drop]; omega
end Lw
namespace Lw
open PySem L2 Ds
end Lw
namespace Lw
open PySem L2 Ds
def lrun (p : Int × Int) : D := .list [.int p.1, .int p.2]
end Lw
namespace Lw
open PySem L2 Ds
def sprM : Int := 2305843009213693951
structure Spr where
  g : Int
  s : Int
  n : Int
def Spr.d (r : Spr) : List D := [.int r.g, .int r.s, .int r.n]
structure Spr.Ok (r : Spr) (b : Nat) : Prop where
  g0 : 0 ≤ r.g
  gb : r.g < 2 ^ 13000
  s0 : 0 ≤ r.s
  sb : r.s < 2 ^ 61
  n0 : 0 ≤ r.n
  nb : r.n ≤ b
theorem Spr.Ok.mono {r : Spr} {a b : Nat} (h : r.Ok a) (hab : a ≤ b) : r.Ok b := ⟨h.g0, h.gb, h.s0, h.sb, h.n0, by have := h.nb; omega⟩
abbrev mx0 (i : Int) : Int := if i > 0 then i else 0
def cutN (k n : Int) : Int := mx0 (mn k n)
def cntF (c : Int) : List (Int × Int) → Int → Int
  | [], _ => 0
  | p :: rs, n => (if p.1 = c then cutN p.2 n else 0) + cntF c rs (n - p.2)
def sumC (c : Int) : List (Int × Int) → Int
  | [] => 0
  | p :: rs => (if p.1 = c then p.2 else 0) + sumC c rs
def endsR (rs : List (Int × Int)) : List Int := (List.range (rs.length + 1)).map fun j => totR (rs.take j)
def tupR (rs : List (Int × Int)) : D := .tuple [.int (totR rs), .int (sumC 1 rs), .int (sumC 0 rs), .int (sumC (-1) rs)]
def endsT (rs : List (Int × Int)) : List D := (List.range (rs.length + 1)).map fun j => tupR (rs.take j)
end Lw
namespace Lw
open PySem L2 Ds TL
abbrev BIGP : Int := 1000000000000000000000000000000000
abbrev numT (n : Int) : Str := Str.ofString (toString n)
theorem numL_head : ∀ n : Nat, (numL n)[0]? = some 48 → n = 0 := by
  intro n
  induction n using Nat.strongRecOn with
  | _ n ih =>
    intro h
    by_cases z : n < 10
    · rw [numL_lt z] at h; simp at h; omega
    · have hz : 10 ≤ n := by omega
      rw [numL_step hz] at h
      have hne : 0 < (numL (n / 10)).length := List.length_pos_iff.mpr (numL_ne _)
      rw [List.getElem?_append_left hne] at h
      have := ih (n / 10) (by omega) h
      omega
structure NumT (n : Int) : Prop where
  rd : PySem.intText? (numT n) = some n
  ln : (numT n).length ≤ 40
  sg : ∀ c ∈ tl (numT n), 48 ≤ c ∧ c ≤ 57
  ne : tl (numT n) ≠ []
  hd : (tl (numT n))[0]? = some 48 → n = 0
theorem numT_ok {n : Int} (h0 : 0 ≤ n) (h1 : n ≤ BIGP) : NumT n := by
  obtain ⟨m, rfl⟩ := Int.eq_ofNat_of_zero_le h0
  have e : tl (numT ((m : Nat) : Int)) = numL m := tl_num m
  have hl : (numL m).length ≤ 40 := numL_len (by decide) (by have h2 : (m : Int) ≤ 1000000000000000000000000000000000 := h1; omega)
  refine ⟨int_num (by omega), ?_, ?_, ?_, ?_⟩
  · have : (tl (numT ((m : Nat) : Int))).length = (numT ((m : Nat) : Int)).length := Array.length_toList
    rw [← this, e]; exact hl
  · rw [e]; exact numL_digits m
  · rw [e]; exact numL_ne m
  · rw [e]; intro h; rw [numL_head m h]; rfl
def spaceT : Str := (" " : Str)
def joinT (ns : List Int) : Str := Txt.join (" " : Str) (ns.map numT)
structure StOk (ns : List Int) : Prop where
  l1 : 1 ≤ ns.length
  l2 : ns.length ≤ 200
  bd : ∀ n ∈ ns, 0 ≤ n ∧ n ≤ BIGP
  srt : ns.Pairwise (· ≥ ·)
theorem StOk.num {ns : List Int} (h : StOk ns) : ∀ n ∈ ns, NumT n := fun n hn => numT_ok (h.bd n hn).1 (h.bd n hn).2
theorem StOk.ne {ns : List Int} (h : StOk ns) : ns ≠ [] := fun e => by have := h.l1; rw [e] at this; simp at this
theorem srt_zip : ∀ {ns : List Int}, ns.Pairwise (· ≥ ·) → ∀ p ∈ ns.zip (ns.drop 1), p.2 ≤ p.1
  | [], _, p, hp => by simp at hp
  | [_], _, p, hp => by simp at hp
  | a :: b :: r, h, p, hp => by
    simp only [List.drop_succ_cons, List.drop_zero, List.zip_cons_cons, List.mem_cons] at hp
    have h1 := List.pairwise_cons.mp h
    rcases hp with rfl | hp
    · exact h1.1 b (List.mem_cons_self ..)
    · exact srt_zip h1.2 p (by simpa using hp)
theorem cutI (ns : List Int) (lo hi : Option Int) : cut (ns.map PyData.int) lo hi = (cut ns lo hi).map PyData.int := by
  unfold cut; simp
end Lw
namespace Lw
open PySem L2 Ds TL
def letT (c : Int) : Str := if c = 1 then ("u" : Str) else if c = 0 then ("s" : Str) else ("d" : Str)
def runT (p : Int × Int) : Str := letT p.1 ++ numT p.2
def joinRT (rs : List (Int × Int)) : Str := Txt.join (" " : Str) (rs.map runT)
structure RunT (p : Int × Int) : Prop where
  ch : -1 ≤ p.1 ∧ p.1 ≤ 1
  nm : NumT p.2
theorem tl_let (c : Int) : ∃ k : Nat, tl (letT c) = [k] ∧ (k = 117 ∨ k = 115 ∨ k = 100) := by
  unfold letT
  split
  · exact ⟨117, by decide +kernel, by simp⟩
  · split
    · exact ⟨115, by decide +kernel, by simp⟩
    · exact ⟨100, by decide +kernel, by simp⟩
theorem tl_run (p : Int × Int) : ∃ k : Nat, tl (letT p.1) = [k] ∧ (k = 117 ∨ k = 115 ∨ k = 100) ∧ tl (runT p) = k :: tl (numT p.2) := by
  obtain ⟨k, h1, h2⟩ := tl_let p.1
  refine ⟨k, h1, h2, ?_⟩
  unfold runT
  rw [tl_append, h1]; rfl
theorem RunT.len {p : Int × Int} (h : RunT p) : (runT p).length ≤ 41 := by
  obtain ⟨k, h1, h2, h3⟩ := tl_run p
  have e1 : (tl (runT p)).length = (runT p).length := Array.length_toList
  have e2 : (tl (numT p.2)).length = (numT p.2).length := Array.length_toList
  have := h.nm.ln
  rw [← e1, h3, List.length_cons, e2]; omega
theorem Chn.drop {rs : List (Int × Int)} (h : Chn rs) (k : Nat) : Chn (rs.drop k) := fun i a b ha hb => h (k + i) a b (by rw [List.getElem?_drop] at ha; exact ha) (by rw [List.getElem?_drop] at hb; exact hb)
theorem Chn.take {rs : List (Int × Int)} (h : Chn rs) (k : Nat) : Chn (rs.take k) := fun i a b ha hb => by
  rw [List.getElem?_take] at ha hb
  split at ha
  · split at hb
    · exact h i a b ha hb
    · cases hb
  · cases ha
theorem Runs.cut {m : Nat} {L : Int} {rs : List (Int × Int)} (h : Runs m L rs) (lo hi : Option Int) : Runs m L (Ds.cut rs lo hi) :=
  ⟨Nat.le_trans (cut_len ..) h.len, fun p hp => h.chg p (cut_mem hp), fun p hp => h.cnt p (cut_mem hp), by unfold Ds.cut; exact (h.chn.drop _).take _⟩
theorem Runs.pre {m : Nat} {L : Int} {a b : List (Int × Int)} (h : Runs m L (a ++ b)) : Runs m L a :=
  ⟨by have := h.len; simp at this; omega, fun p hp => h.chg p (by simp [hp]), fun p hp => h.cnt p (by simp [hp]), by have := h.chn.take a.length; simpa using this⟩
end Lw
namespace Lw
open PySem L2 Ds TL
end Lw
namespace Lw
open PySem L2 Ds
abbrev Sta := List Int
def ownC (n k : Nat) : Int := if n = 1 then 0 else (if k = 0 then 1 else 0) - (if k + 1 = n then 1 else 0)
def canR (s : Sta) (k : Nat) : Bool := decide (k = 0 ∨ s.getD k 0 < s.getD (k - 1) 0)
def incS (s : Sta) (k : Nat) : Sta := s.set k (s.getD k 0 + 1)
def nextS (s : Sta) (c : Int) : List (Nat × Sta) := ((List.range s.length).filter fun k => canR s k && decide (ownC s.length k = c)).map fun k => (k, incS s k)
def addNew (l : List Sta) (o : Sta) : List Sta := if o ∈ l then l else l ++ [o]
def stepF (F : List Sta) (c : Int) : List Sta := (F.flatMap fun s => (nextS s c).map (·.2)).foldl addNew []
def zeroS (R : Nat) : Sta := List.replicate R 0
def layS (R : Nat) (cs : List Int) : List Sta := cs.foldl stepF [zeroS R]
def keepS (G : List Sta) (c : Int) (F : List Sta) : List Sta := F.filter fun s => (nextS s c).any fun p => decide (p.2 ∈ G)
def prunS : List Sta → List Int → List (List Sta)
  | F, [] => [F]
  | F, c :: cs => keepS ((prunS (stepF F c) cs).headD []) c F :: prunS (stepF F c) cs
theorem mem_foldl_addNew {o : Sta} : ∀ (xs l : List Sta), o ∈ xs.foldl addNew l ↔ o ∈ l ∨ o ∈ xs
  | [], l => by simp
  | x :: xs, l => by
    rw [List.foldl_cons, mem_foldl_addNew xs]
    unfold addNew
    by_cases h : x ∈ l
    · rw [if_pos h, List.mem_cons]
      constructor
      · rintro (h1 | h1); exact .inl h1; exact .inr (.inr h1)
      · rintro (h1 | rfl | h1); exact .inl h1; exact .inl h; exact .inr h1
    · rw [if_neg h, List.mem_append, List.mem_singleton, List.mem_cons]
      constructor
      · rintro ((h1 | h1) | h1); exact .inl h1; exact .inr (.inl h1); exact .inr (.inr h1)
      · rintro (h1 | h1 | h1); exact .inl (.inl h1); exact .inl (.inr h1); exact .inr h1
theorem mem_stepF {F : List Sta} {c : Int} {o : Sta} : o ∈ stepF F c ↔ ∃ s ∈ F, ∃ k, (k, o) ∈ nextS s c := by
  unfold stepF
  rw [mem_foldl_addNew]
  simp only [List.not_mem_nil, false_or, List.mem_flatMap, List.mem_map]
  constructor
  · rintro ⟨s, hs, p, hp, rfl⟩; exact ⟨s, hs, p.1, hp⟩
  · rintro ⟨s, hs, k, hp⟩; exact ⟨s, hs, _, hp, rfl⟩
theorem stepF_nil (c : Int) : stepF [] c = [] := rfl
theorem foldl_nil : ∀ cs : List Int, cs.foldl stepF [] = []
  | [] => rfl
  | c :: cs => by rw [List.foldl_cons, stepF_nil, foldl_nil cs]
theorem mem_nextS {s : Sta} {c : Int} {k : Nat} {o : Sta} : (k, o) ∈ nextS s c ↔ k < s.length ∧ (k = 0 ∨ s.getD k 0 < s.getD (k - 1) 0) ∧ ownC s.length k = c ∧ o = incS s k := by
  unfold nextS canR
  simp only [List.mem_map, List.mem_filter, List.mem_range, Bool.and_eq_true, decide_eq_true_eq, Prod.mk.injEq]
  constructor
  · rintro ⟨j, ⟨h1, h2, h3⟩, rfl, rfl⟩; exact ⟨h1, h2, h3, rfl⟩
  · rintro ⟨h1, h2, h3, rfl⟩; exact ⟨k, ⟨h1, h2, h3⟩, rfl, rfl⟩
def cntC (c : Int) (cs : List Int) : Int := ((cs.filter fun x => decide (x = c)).length : Nat)
theorem cntC_snoc (c x : Int) (cs : List Int) : cntC c (cs ++ [x]) = cntC c cs + if x = c then 1 else 0 := by
  unfold cntC
  rw [List.filter_append, List.length_append]
  by_cases h : x = c
  · rw [if_pos h, List.filter_cons_of_pos (by simpa using h)]; simp
  · rw [if_neg h, List.filter_cons_of_neg (by simpa using h)]; simp
structure GoodS (R : Nat) (cs : List Int) (s : Sta) : Prop where
  len : s.length = R
  srt : ∀ k, k + 1 < R → s.getD (k + 1) 0 ≤ s.getD k 0
  sum : s.sum = cs.length
  fst : 2 ≤ R → s.getD 0 0 = cntC 1 cs
  lst : 2 ≤ R → s.getD (R - 1) 0 = cntC (-1) cs
  one : R = 1 → cntC 1 cs = 0 ∧ cntC (-1) cs = 0
theorem getD_inc {s : Sta} {k j : Nat} (h : k < s.length) : (incS s k).getD j 0 = s.getD j 0 + if j = k then 1 else 0 := by
  unfold incS
  rw [List.getD_eq_getElem?_getD, List.getD_eq_getElem?_getD, List.getD_eq_getElem?_getD]
  by_cases e : j = k
  · subst e; rw [List.getElem?_set_self h, if_pos rfl]; rfl
  · rw [List.getElem?_set_ne (Ne.symm e), if_neg e]; omega
theorem sum_inc : ∀ {s : Sta} {k : Nat}, k < s.length → (incS s k).sum = s.sum + 1
  | a :: s, 0, _ => by simp [incS]; omega
  | a :: s, k + 1, h => by
    have := sum_inc (s := s) (k := k) (by simpa using h)
    unfold incS at this ⊢
    simp only [List.set_cons_succ, List.getD_cons_succ, List.sum_cons] at this ⊢
    omega
theorem len_inc {s : Sta} {k : Nat} : (incS s k).length = s.length := by simp [incS]
theorem good_zero {R : Nat} (hR : 1 ≤ R) : GoodS R [] (zeroS R) := by
  have g : ∀ k, (zeroS R).getD k 0 = 0 := fun k => by
    unfold zeroS
    rw [List.getD_eq_getElem?_getD, List.getElem?_replicate]
    split <;> rfl
  refine ⟨by simp [zeroS], fun k _ => by rw [g, g]; omega, by simp [zeroS], fun _ => by rw [g]; rfl, fun _ => by rw [g]; rfl, fun _ => ⟨rfl, rfl⟩⟩
theorem good_next {R : Nat} {cs : List Int} {s o : Sta} {c : Int} {k : Nat} (hR : 1 ≤ R) (g : GoodS R cs s) (h : (k, o) ∈ nextS s c) : GoodS R (cs ++ [c]) o := by
  obtain ⟨h1, h2, h3, rfl⟩ := mem_nextS.mp h
  rw [g.len] at h3 h1
  have hk : k < s.length := by rw [g.len]; exact h1
  have oc : (R = 1 → c = 0) ∧ (2 ≤ R → (c = 1 ↔ k = 0) ∧ (c = -1 ↔ k = R - 1)) := by
    unfold ownC at h3
    refine ⟨fun e => by rw [if_pos e] at h3; exact h3.symm, fun e => ?_⟩
    rw [if_neg (by omega)] at h3
    constructor
    · constructor
      · intro e; rw [e] at h3; by_cases z : k = 0
        · exact z
        · rw [if_neg z] at h3; split at h3 <;> omega
      · intro z; rw [if_pos z, if_neg (by omega)] at h3; omega
    · constructor
      · intro e; rw [e] at h3; by_cases z : k + 1 = R
        · omega
        · rw [if_neg z] at h3; split at h3 <;> omega
      · intro z; rw [if_pos (show k + 1 = R by omega), if_neg (by omega)] at h3; omega
  refine ⟨by rw [len_inc]; exact g.len, fun j hj => ?_, ?_, fun e => ?_, fun e => ?_, fun e => ?_⟩
  · rw [getD_inc hk, getD_inc hk]
    have := g.srt j hj
    by_cases z : j + 1 = k
    · rw [if_pos z, if_neg (by omega)]
      rcases h2 with h2 | h2
      · omega
      · subst z
        rw [show j + 1 - 1 = j from rfl] at h2
        omega
    · rw [if_neg z]; split <;> omega
  · rw [sum_inc hk, g.sum]; simp
  · rw [getD_inc hk, cntC_snoc, g.fst e]
    have := (oc.2 e).1
    by_cases z : k = 0
    · rw [if_pos z.symm, if_pos (this.mpr z)]
    · rw [if_neg (Ne.symm z), if_neg (fun y => z (this.mp y))]
  · rw [getD_inc hk, cntC_snoc, g.lst e]
    have := (oc.2 e).2
    by_cases z : k = R - 1
    · rw [if_pos z.symm, if_pos (this.mpr z)]
    · rw [if_neg (Ne.symm z), if_neg (fun y => z (this.mp y))]
  · have := g.one e
    have c0 := oc.1 e
    rw [cntC_snoc, cntC_snoc, if_neg (by omega), if_neg (by omega)]
    omega
theorem layS_snoc (R : Nat) (cs : List Int) (c : Int) : layS R (cs ++ [c]) = stepF (layS R cs) c := by simp [layS, List.foldl_append]
theorem good_lay {R : Nat} (hR : 1 ≤ R) (cs : List Int) : ∀ s ∈ layS R cs, GoodS R cs s := by
  have go : ∀ (n : Nat) (cs : List Int), cs.length = n → ∀ s ∈ layS R cs, GoodS R cs s := by
    intro n
    induction n with
    | zero =>
      intro cs h s hs
      cases List.eq_nil_of_length_eq_zero h
      have : s = zeroS R := by simpa [layS] using hs
      rw [this]; exact good_zero hR
    | succ n ih =>
      intro cs h s hs
      obtain ⟨pre, c, rfl⟩ : ∃ pre c, cs = pre ++ [c] := ⟨cs.dropLast, cs.getLast (by intro z; rw [z] at h; cases h), (List.dropLast_concat_getLast _).symm⟩
      rw [layS_snoc] at hs
      obtain ⟨s0, h0, k, hk⟩ := mem_stepF.mp hs
      exact good_next hR (ih pre (by simpa using h) s0 h0) hk
  exact go _ cs rfl
def okZ (R : Nat) (u z d : Int) : Prop := if R = 1 then u = 0 ∧ d = 0 else if R = 2 then z = 0 ∧ d ≤ u else z ≤ ((R : Int) - 2) * u ∧ ((R : Int) - 2) * d ≤ z
def okC (R : Nat) (cs : List Int) : Prop := okZ R (cntC 1 cs) (cntC 0 cs) (cntC (-1) cs)
theorem srt_le {R : Nat} {s : Sta} (h : ∀ k, k + 1 < R → s.getD (k + 1) 0 ≤ s.getD k 0) : ∀ (n i : Nat), i + n < R → s.getD (i + n) 0 ≤ s.getD i 0
  | 0, _, _ => Int.le_refl _
  | n + 1, i, hi => Int.le_trans (h (i + n) (by omega)) (srt_le h n i (by omega))
def evM (m z : Nat) : List Int := (List.range m).map fun i => ((z / m + if i < z % m then 1 else 0 : Nat) : Int)
theorem evM_get {m z i : Nat} (h : i < m) : (evM m z).getD i 0 = ((z / m + if i < z % m then 1 else 0 : Nat) : Int) := by
  unfold evM
  rw [List.getD_eq_getElem?_getD, List.getElem?_map, List.getElem?_range h]; rfl
theorem evM_len {m z : Nat} : (evM m z).length = m := by simp [evM]
def evS (R : Nat) (cs : List Int) : Sta := if R = 1 then [cntC 0 cs] else if R = 2 then [cntC 1 cs, cntC (-1) cs] else cntC 1 cs :: (evM (R - 2) (cntC 0 cs).toNat ++ [cntC (-1) cs])
def factS : Nat → Nat
  | 0 => 1
  | n + 1 => factS n * (n + 1)
def fwdS (R : Nat) (cs : List Int) : List (List Sta) := (List.range (cs.length + 1)).map fun i => layS R (cs.take i)
def midS (R : Nat) (cs : List Int) (i : Nat) : List (List Sta) := (fwdS R cs).take i ++ prunS (layS R (cs.take i)) (cs.drop i)
end Lw
namespace Lw
open PySem L2 Ds
def wrD (R u z d x : Int) : Option (Str × Int) :=
  if R = 1 then (if x = 0 then none else some (("single" : Str), 1))
  else if R = 2 then (if x = 0 then some (("two" : Str), 1) else if x = -1 then some (("two" : Str), u - d + 1) else none)
  else if x = 0 then some (("few" : Str), (R - 2) * u - z + 1) else if x = -1 then some (("many" : Str), z / (R - 2) - d + 1) else none
def lessW (n : Int) : Option (Str × Int) → Prop
  | none => True
  | some p => n < p.2
def okR (R : Nat) (rs : List (Int × Int)) : Prop := okZ R (sumC 1 rs) (sumC 0 rs) (sumC (-1) rs)
def okE (R : Nat) (rs : List (Int × Int)) : Prop := ∀ i, i ≤ rs.length → okR R (rs.take i)
end Lw
namespace Lw
open PySem L2 Ds
def inR (x : Option (Int × Option Int)) (R : Int) : Prop := match x with
  | none => False
  | some (a, none) => a ≤ R
  | some (a, some b) => a ≤ R ∧ R ≤ b
def posD : Option (Int × Option Int) → D
  | none => .none
  | some (a, none) => .tuple [.int a, .none]
  | some (a, some b) => .tuple [.int a, .int b]
structure PosOk (rs : List (Int × Int)) (x : Option (Int × Option Int)) : Prop where
  iff : ∀ R : Int, 1 ≤ R → (okE R.toNat rs ↔ inR x R)
  lo : ∀ a g, x = some (a, g) → 1 ≤ a ∧ a ≤ totR rs + 4
  hi : ∀ a b, x = some (a, some b) → a ≤ b ∧ b ≤ totR rs + 3
def midE (rs : List (Int × Int)) (m : Int) (j : Nat) : Prop := sumC 0 (rs.take j) ≤ m * sumC 1 (rs.take j) ∧ m * sumC (-1) (rs.take j) ≤ sumC 0 (rs.take j)
structure MidOk (rs : List (Int × Int)) (js : List Nat) (l : Int) (g : Option Int) : Prop where
  iff : ∀ m : Int, 1 ≤ m → ((∀ j ∈ js, midE rs m j) ↔ l ≤ m ∧ ∀ b, g = some b → m ≤ b)
  l1 : 1 ≤ l
  l2 : l ≤ totR rs + 1
  g1 : ∀ b, g = some b → b ≤ totR rs
def lNew (l u z : Int) : Int := if 0 < z then (if l < (z + u - 1) / u then (z + u - 1) / u else l) else l
def gNew (g : Option Int) (z d : Int) : Option Int := if 0 < d then some (match g with | none => z / d | some b => if z / d < b then z / d else b) else g
def midX (l : Int) (g : Option Int) : Option (Int × Option Int) := match g with | none => some (l + 2, none) | some b => if l ≤ b then some (l + 2, some (b + 2)) else none
section
variable {rs : List (Int × Int)} (hp : ∀ q ∈ rs, 1 ≤ q.2) (hc : ∀ q ∈ rs, -1 ≤ q.1 ∧ q.1 ≤ 1)
include hp hc
end
def Lx (n : Int) : Option (Int × Option Int) → List Int
  | none => []
  | some (a, none) => rngI a (n + 5)
  | some (a, some b) => rngI a (b + 1)
def headL (l : List Int) : Int := l.headD 0
def lastL (l : List Int) : Int := l.getLastD 0
def dueX (n : Int) (l : List Int) : Option (Int × Option Int) := if l = [] then none else some (l.headD 0, if l.getLastD 0 = n + 4 then none else some (l.getLastD 0))
end Lw
namespace Lw
open PySem L2 Ds
theorem maxI_mem {ns : List Int} (h : ns ≠ []) : maxI ns ∈ ns ∧ ∀ x ∈ ns, x ≤ maxI ns := by
  cases ns with
  | nil => exact absurd rfl h
  | cons a r =>
    obtain ⟨h1, h2, h3⟩ := maxI_ge r a
    refine ⟨?_, fun x hx => ?_⟩
    · show r.foldl max a ∈ _
      rcases h3 with h3 | h3
      · rw [h3]; simp
      · exact List.mem_cons_of_mem _ h3
    · rcases List.mem_cons.mp hx with rfl | hx
      · exact h1
      · exact h2 x hx
theorem minI_mem {ns : List Int} (h : ns ≠ []) : minI ns ∈ ns ∧ ∀ x ∈ ns, minI ns ≤ x := by
  cases ns with
  | nil => exact absurd rfl h
  | cons a r =>
    obtain ⟨h1, h2, h3⟩ := minI_le r a
    refine ⟨?_, fun x hx => ?_⟩
    · show r.foldl min a ∈ _
      rcases h3 with h3 | h3
      · rw [h3]; simp
      · exact List.mem_cons_of_mem _ h3
    · rcases List.mem_cons.mp hx with rfl | hx
      · exact h1
      · exact h2 x hx
def isEv (s : Sta) : Bool := decide ((s.length : Int) < 4) || decide (maxI (cut s (some 1) (some (-1))) - minI (cut s (some 1) (some (-1))) < 2)
theorem evM_rep {m z : Nat} (hm : 0 < m) : evM m z = List.replicate (z % m) ((z / m : Nat) + 1 : Int) ++ List.replicate (m - z % m) ((z / m : Nat) : Int) := by
  have lt : z % m < m := Nat.mod_lt _ hm
  refine List.ext_getElem? fun i => ?_
  by_cases hi : i < m
  · have e1 : (evM m z)[i]? = some ((evM m z).getD i 0) := by rw [List.getD_eq_getElem?_getD, List.getElem?_eq_getElem (by rw [evM_len]; exact hi)]; rfl
    rw [e1, evM_get hi]
    by_cases w : i < z % m
    · rw [if_pos w, List.getElem?_append_left (by simpa using w), List.getElem?_replicate, if_pos w]; simp
    · rw [if_neg w, List.getElem?_append_right (by simpa using w), List.length_replicate, List.getElem?_replicate, if_pos (by omega)]; simp
  · rw [List.getElem?_eq_none (by rw [evM_len]; omega), List.getElem?_eq_none (by simp; omega)]
theorem rep_sum (n : Nat) (x : Int) : (List.replicate n x).sum = n * x := by
  induction n with
  | zero => simp
  | succ n ih => rw [List.replicate_succ, List.sum_cons, ih, Int.natCast_add, Int.add_mul]; omega
theorem evM_sum {m z : Nat} (hm : 0 < m) : (evM m z).sum = (z : Int) := by
  have lt : z % m < m := Nat.mod_lt _ hm
  have dz := Nat.div_add_mod z m
  rw [evM_rep hm, List.sum_append, rep_sum, rep_sum]
  have e : ((m - z % m : Nat) : Int) = (m : Int) - (z % m : Nat) := by omega
  rw [e, Int.mul_add, Int.sub_mul]
  have e2 : (m : Int) * ((z / m : Nat) : Int) = ((m * (z / m) : Nat) : Int) := by rw [Int.natCast_mul]
  omega
theorem evM_vals {m z : Nat} {x : Int} (h : x ∈ evM m z) : ((z / m : Nat) : Int) ≤ x ∧ x ≤ ((z / m : Nat) : Int) + 1 := by
  unfold evM at h
  obtain ⟨i, _, rfl⟩ := List.mem_map.mp h
  split <;> omega
def evT (R : Nat) (u z d : Int) : Sta := if R = 1 then [z] else if R = 2 then [u, d] else u :: (evM (R - 2) z.toNat ++ [d])
theorem srt_pair {s : Sta} (h : ∀ k, k + 1 < s.length → s.getD (k + 1) 0 ≤ s.getD k 0) : s.Pairwise (· ≥ ·) := by
  rw [List.pairwise_iff_getElem]
  intro i j hi hj hij
  have := srt_le h (j - i) i (by omega)
  rw [show i + (j - i) = j by omega, List.getD_eq_getElem?_getD, List.getD_eq_getElem?_getD, List.getElem?_eq_getElem hi, List.getElem?_eq_getElem hj] at this
  exact this
def TOPN : Int := 1000000000000000000000000000000000000000
theorem Runs.tk {m : Nat} {L : Int} {rs : List (Int × Int)} (h : Runs m L rs) (j : Nat) : Runs m L (rs.take j) := by
  have e : rs = rs.take j ++ rs.drop j := (List.take_append_drop j rs).symm
  rw [e] at h
  exact h.pre
def evD (R : Nat) (rs : List (Int × Int)) : Sta := evT R (sumC 1 rs) (sumC 0 rs) (sumC (-1) rs)
end Lw
namespace Lw
open PySem L2 Ds
def roomB (m : List Int) (L : Int) : Int := (m.map fun e => if L < e then L else e).sum
theorem room_cons (x : Int) (m : List Int) (L : Int) : roomB (x :: m) L = (if L < x then L else x) + roomB m L := rfl
theorem room_app (a b : List Int) (L : Int) : roomB (a ++ b) L = roomB a L + roomB b L := by unfold roomB; rw [List.map_append, List.sum_append]
structure Fit (R : Nat) (cs : List Int) (s : Sta) : Prop where
  one : R = 1 → s = [cntC 0 cs]
  two : 2 ≤ R → ∃ a m b, s = a :: (m ++ [b]) ∧ m.length = R - 2 ∧ s.Pairwise (· ≥ ·) ∧ a = cntC 1 cs ∧ m.sum = cntC 0 cs ∧ b = cntC (-1) cs ∧ ∀ j, j ≤ cs.length → cntC 0 (cs.take j) ≤ roomB m (cntC 1 (cs.take j))
end Lw
namespace Lw
open PySem L2 Ds
def okJ (cs m : List Int) (j : Nat) : Prop := cntC 0 (cs.take j) ≤ roomB m (cntC 1 (cs.take j))
def WhyM (cs m : List Int) : Option Int → Prop
  | none => ∀ j, 1 ≤ j → j ≤ cs.length → okJ cs m j
  | some n => ∃ j : Nat, n = (j : Int) ∧ 1 ≤ j ∧ j ≤ cs.length ∧ ¬ okJ cs m j ∧ ∀ i, 1 ≤ i → i < j → okJ cs m i
def endsD : D := .tuple [.str ("ends" : Str)]
def whyD : Option Int → D
  | none => .none
  | some n => .tuple [.str ("prefix" : Str), .int n]
structure WhyS (u z d : Int) (cs : List Int) (s : Sta) (t : D) : Prop where
  one : s.length = 1 → t = if s = [z] then .none else endsD
  more : ∀ a m b, s = a :: (m ++ [b]) → (a = u ∧ m.sum = z ∧ b = d → ∃ x, WhyM cs m x ∧ t = whyD x) ∧ (¬ (a = u ∧ m.sum = z ∧ b = d) → t = endsD)
def OkTo (rs : List (Int × Int)) (m : List Int) (k : Nat) : Prop := ∀ j, 1 ≤ j → j ≤ k → okJ (expandR rs) m j
def staD (s : Sta) : D := .list (s.map .int)
def nxD (p : Nat × Sta) : D := .tuple [.int (p.1 : Nat), staD p.2]
theorem gI_sta {s : Sta} {n : Int} (h0 : 0 ≤ n) (h1 : n < s.length) : gI (s.map PyData.int) n = some (.int (s.getD n.toNat 0)) := by
  rw [gI_nat (k := n.toNat) (by omega), List.getElem?_map, List.getElem?_eq_getElem (by omega), List.getD_eq_getElem?_getD, List.getElem?_eq_getElem (by omega)]; rfl
def layD (F : List Sta) : D := .list (F.map staD)
end Lw
namespace Lw
open PySem L2 Ds
def okN (rs : List (Int × Int)) (m : List Int) (n : Int) : Bool := decide (cntF 0 rs n ≤ roomB m (cntF 1 rs n))
def brokenL (rs : List (Int × Int)) (m : List Int) : List Int := (endsR rs).filter fun n => !okN rs m n
end Lw
namespace Lw
open PySem L2 Ds
def wordO (R c : Int) : Str := if R = 1 then ("single" : Str) else if R = 2 then ("two" : Str) else if c = 0 then ("few" : Str) else ("many" : Str)
def ObsOk (R : Int) (cs : List Int) : Option (Str × Int) → Prop
  | none => ∀ j, j ≤ cs.length → okC R.toNat (cs.take j)
  | some p => ∃ k : Nat, p.2 = (k : Int) + 1 ∧ k < cs.length ∧ (∀ j, j ≤ k → okC R.toNat (cs.take j)) ∧ ¬ okC R.toNat (cs.take (k + 1)) ∧ p.1 = wordO R (cs.getD k 0)
end Lw
namespace Lw
open PySem L2 Ds
abbrev M4 := Int × Int × Int × Int
def mk4 (e : M4) : D := .tuple [.int e.1, .int e.2.1, .int e.2.2.1, .int e.2.2.2]
def q4 (rs : List (Int × Int)) : M4 := (totR rs, sumC 1 rs, sumC 0 rs, sumC (-1) rs)
def cutR : List (Int × Int) → Int → List (Int × Int)
  | [], _ => []
  | p :: rs, n => if n ≤ 0 then [] else (p.1, if n < p.2 then n else p.2) :: cutR rs (n - p.2)
theorem cutR_le {n : Int} (h : n ≤ 0) : ∀ rs, cutR rs n = []
  | [] => rfl
  | p :: rs => by unfold cutR; rw [if_pos h]
theorem cutR_cons {p : Int × Int} {rs : List (Int × Int)} {n : Int} (h : ¬ n ≤ 0) : cutR (p :: rs) n = (p.1, if n < p.2 then n else p.2) :: cutR rs (n - p.2) := by
  show (if n ≤ 0 then [] else _) = _
  rw [if_neg h]
theorem cutR_len {n : Int} : ∀ {rs : List (Int × Int)}, (cutR rs n).length ≤ rs.length
  | [] => Nat.le_refl _
  | p :: rs => by
    show (if n ≤ 0 then [] else (p.1, if n < p.2 then n else p.2) :: cutR rs (n - p.2)).length ≤ _
    split
    · simp
    · have := cutR_len (n := n - p.2) (rs := rs)
      simp; exact this
def befM (rs : List (Int × Int)) (n : Int) : List M4 := (List.range ((cutR rs n).length + 1)).map fun j => q4 ((cutR rs n).take j)
def latM (rs : List (Int × Int)) (n : Int) : List M4 := q4 (cutR rs n) :: (((List.range (rs.length + 1)).map fun j => q4 (rs.take j)).filter fun e => decide (n < e.1))
def Mom (b l : List M4) (p z : Int) : T := .ins 0 [.dat (.list (b.map mk4)), .dat (.list (l.map mk4)), .dat (.int p), .dat (.int z)]
def reachB (b : List M4) (m : List Int) : Bool := b.all fun e => decide (e.2.2.1 ≤ roomB m e.2.1)
def mxS (m : List Int) (x : Int) : Int := (m.map fun e => if e < x then x else e).sum
def goB (l : List M4) (m : List Int) : Bool := l.all fun e => decide (mxS m e.2.2.2 ≤ e.2.2.1)
def fitB (b l : List M4) (m : List Int) : Bool := reachB b m && goB l m
def atLeastB (b l : List M4) (p z : Int) (k v : Int) : Bool :=
  if v ≤ (evM p.toNat z.toNat).getD k.toNat 0 then true
  else if z - v * (k + 1) < 0 ∨ k + 1 = p then false
  else fitB b l (List.replicate (k + 1).toNat v ++ evM (p - k - 1).toNat (z - v * (k + 1)).toNat)
def atMostB (b l : List M4) (p z : Int) (k v : Int) : Bool :=
  if (evM p.toNat z.toNat).getD k.toNat 0 ≤ v then true
  else if k = 0 then false
  else fitB b l (evM k.toNat (z - v * (p - k)).toNat ++ List.replicate (p - k).toNat v)
structure MomOk (b l : List M4) (p z : Int) : Prop where
  p1 : 1 ≤ p ∧ p ≤ 198
  z1 : 0 ≤ z ∧ z < 2 ^ 110
  bl : b.length ≤ 500
  ll : l.length ≤ 500
  last : ∃ e : M4, b.getLast? = some e ∧ e.2.2.1 = z ∧ (0 ≤ e.2.1 ∧ e.2.1 < 2 ^ 110) ∧ (0 ≤ e.2.2.2 ∧ e.2.2.2 < 2 ^ 110)
theorem MomOk.gI {b l : List M4} {p z : Int} (h : MomOk b l p z) : ∃ e : M4, gI (b.map mk4) (-1) = some (mk4 e) ∧ b.getLast? = some e ∧ e.2.2.1 = z ∧ (0 ≤ e.2.1 ∧ e.2.1 < 2 ^ 110) ∧ (0 ≤ e.2.2.2 ∧ e.2.2.2 < 2 ^ 110) := by
  obtain ⟨e, h1, h2⟩ := h.last
  exact ⟨e, by rw [gI_last, List.getLast?_map, h1]; rfl, h1, h2⟩
def UpAt (f : Int → Bool) (lo hi g : Int) : Prop := (lo ≤ g ∧ (g ≤ hi ∨ g = lo)) ∧ (g = lo ∨ f g = true) ∧ (g ≥ hi ∨ f (g + 1) = false)
def DownAt (f : Int → Bool) (lo hi g : Int) : Prop := ((lo ≤ g ∨ lo > hi) ∧ (g ≤ hi ∨ g = lo)) ∧ (g ≥ hi ∨ f g = true) ∧ (g ≤ lo ∨ f (g - 1) = false)
def fallB (p z k v : Int) : Bool := decide ((z - v + (p - k - 1) - 1) / (p - k - 1) < v / (k + 1))
def FallAt (p z k w : Int) : Prop := (0 ≤ w ∧ w ≤ z) ∧ (w = 0 ∨ fallB p z k (w - 1) = false) ∧ (w = z ∨ fallB p z k w = true)
def FallOk (p z k : Int) (ns : List Int) : Prop := (k + 1 = p ∧ ns = evM p.toNat z.toNat) ∨ (k + 1 < p ∧ ∃ w, FallAt p z k w ∧ fallB p z k w = true ∧ ns = evM (k + 1).toNat w.toNat ++ evM (p - k - 1).toNat (z - w).toNat)
def firstW (f : Int → Bool) : Nat → Nat
  | 0 => 0
  | n + 1 => if firstW f n < n then firstW f n else if f n = true then n else n + 1
def fallW (p z k : Int) : Int := firstW (fallB p z k) z.toNat
def fallM (p z k : Int) : Option (List Int) := if k + 1 = p then some (evM p.toNat z.toNat) else if fallB p z k (fallW p z k) = true then some (evM (k + 1).toNat (fallW p z k).toNat ++ evM (p - k - 1).toNat (z - fallW p z k).toNat) else none
def raiseB (rs : List (Int × Int)) (R n k : Int) : Bool := match fallM (R - 2) (sumC 0 (cutR rs (n + 1))) k with
  | none => false
  | some ns => decide (sumC (-1) (cutR rs (n + 1)) < ns.getD k.toNat 0) && (decide (ns.getD 0 0 ≤ sumC 1 (cutR rs (n + 1))) && (goB (latM rs (n + 1)) ns && reachB (befM rs n) (ns.take k.toNat ++ [ns.getD k.toNat 0 - 1] ++ ns.drop (k.toNat + 1))))
def chgAt : List (Int × Int) → Int → Int
  | [], _ => 0
  | p :: rs, n => if n < p.2 then p.1 else chgAt rs (n - p.2)
def ranksL (rs : List (Int × Int)) (R n : Int) : List Int := if R = 1 ∨ chgAt rs n = 1 then [0] else if chgAt rs n = -1 then [R - 1] else ((List.range (R - 2).toNat).filter fun k => raiseB rs R n (k : Nat)).map fun k => ((k : Nat) : Int) + 1
structure RangeP (rs : List (Int × Int)) (R n k lo hi : Int) : Prop where
  one : R = 1 → lo = sumC 0 (cutR rs n) ∧ hi = sumC 0 (cutR rs n)
  top : R ≠ 1 → k = 0 → lo = sumC 1 (cutR rs n) ∧ hi = sumC 1 (cutR rs n)
  bot : R ≠ 1 → k ≠ 0 → k = R - 1 → lo = sumC (-1) (cutR rs n) ∧ hi = sumC (-1) (cutR rs n)
  mid : R ≠ 1 → k ≠ 0 → k ≠ R - 1 → DownAt (atMostB (befM rs n) (latM rs n) (R - 2) (sumC 0 (cutR rs n)) (k - 1)) (sumC (-1) (cutR rs n)) ((evM (R - 2).toNat (sumC 0 (cutR rs n)).toNat).getD (k - 1).toNat 0) lo ∧
    UpAt (atLeastB (befM rs n) (latM rs n) (R - 2) (sumC 0 (cutR rs n)) (k - 1)) ((evM (R - 2).toNat (sumC 0 (cutR rs n)).toNat).getD (k - 1).toNat 0) (sumC 1 (cutR rs n)) hi
end Lw
namespace Lw
open PySem L2 Ds
def GoS : Sta → List Int → Prop
  | _, [] => True
  | s, c :: cs => ∃ k o, (k, o) ∈ nextS s c ∧ GoS o cs
theorem pair_srt {s : Sta} (h : s.Pairwise (· ≥ ·)) : ∀ k, k + 1 < s.length → s.getD (k + 1) 0 ≤ s.getD k 0 := fun k hk => by
  rw [List.getD_eq_getElem?_getD, List.getD_eq_getElem?_getD, List.getElem?_eq_getElem hk, List.getElem?_eq_getElem (by omega)]
  exact List.pairwise_iff_getElem.mp h k (k + 1) (by omega) hk (by omega)
theorem inc_pair {s : Sta} {k : Nat} (h : s.Pairwise (· ≥ ·)) (hk : k < s.length) (hc : k = 0 ∨ s.getD k 0 < s.getD (k - 1) 0) : (incS s k).Pairwise (· ≥ ·) := by
  refine srt_pair fun j hj => ?_
  rw [len_inc] at hj
  rw [getD_inc hk, getD_inc hk]
  have := pair_srt h j hj
  by_cases e : j + 1 = k
  · subst e
    rcases hc with hc | hc
    · omega
    · rw [show j + 1 - 1 = j by omega] at hc
      rw [if_pos rfl, if_neg (by omega)]; omega
  · rw [if_neg e]; split <;> omega
end Lw
namespace Lw
open PySem L2 Ds
structure Conv (P : Int → Int → Int → Prop) : Prop where
  up : ∀ u z d k t, 0 ≤ t → t ≤ k → P u z d → P (u + k) z d → P (u + t) z d
  zr : ∀ u z d k t, 0 ≤ t → t ≤ k → P u z d → P u (z + k) d → P u (z + t) d
  dn : ∀ u z d k t, 0 ≤ t → t ≤ k → P u z d → P u z (d + k) → P u z (d + t)
def shP (P : Int → Int → Int → Prop) (u z d : Int) : Int → Int → Int → Prop := fun a b c => P (u + a) (z + b) (d + c)
theorem Conv.sh {P : Int → Int → Int → Prop} (h : Conv P) (u z d : Int) : Conv (shP P u z d) where
  up := fun a b c k t h0 h1 p q => by
    have q : P (u + (a + k)) (z + b) (d + c) := q
    show P (u + (a + t)) _ _
    rw [← Int.add_assoc] at q ⊢
    exact h.up _ _ _ k t h0 h1 p q
  zr := fun a b c k t h0 h1 p q => by
    have q : P (u + a) (z + (b + k)) (d + c) := q
    show P _ (z + (b + t)) _
    rw [← Int.add_assoc] at q ⊢
    exact h.zr _ _ _ k t h0 h1 p q
  dn := fun a b c k t h0 h1 p q => by
    have q : P (u + a) (z + b) (d + (c + k)) := q
    show P _ _ (d + (c + t))
    rw [← Int.add_assoc] at q ⊢
    exact h.dn _ _ _ k t h0 h1 p q
def one (c x : Int) (k : Int) : Int := if x = c then k else 0
theorem Conv.run {P : Int → Int → Int → Prop} (h : Conv P) {x a t k : Int} (hx : -1 ≤ x ∧ x ≤ 1) (h0 : a ≤ t) (h1 : t ≤ k) (p : P (one 1 x a) (one 0 x a) (one (-1) x a)) (q : P (one 1 x k) (one 0 x k) (one (-1) x k)) : P (one 1 x t) (one 0 x t) (one (-1) x t) := by
  unfold one at *
  rcases (by omega : x = 1 ∨ x = 0 ∨ x = -1) with rfl | rfl | rfl
  · simp at p q ⊢
    have := h.up a 0 0 (k - a) (t - a) (by omega) (by omega) p (by rw [show a + (k - a) = k by omega]; exact q)
    rwa [show a + (t - a) = t by omega] at this
  · simp at p q ⊢
    have := h.zr 0 a 0 (k - a) (t - a) (by omega) (by omega) p (by rw [show a + (k - a) = k by omega]; exact q)
    rwa [show a + (t - a) = t by omega] at this
  · simp at p q ⊢
    have := h.dn 0 0 a (k - a) (t - a) (by omega) (by omega) p (by rw [show a + (k - a) = k by omega]; exact q)
    rwa [show a + (t - a) = t by omega] at this
def Pc (P : Int → Int → Int → Prop) (rs : List (Int × Int)) (j : Int) : Prop := P (cntF 1 rs j) (cntF 0 rs j) (cntF (-1) rs j)
def Ps (P : Int → Int → Int → Prop) (rs : List (Int × Int)) : Prop := P (sumC 1 rs) (sumC 0 rs) (sumC (-1) rs)
def rchP (m : List Int) : Int → Int → Int → Prop := fun u z _ => z ≤ roomB m u
def gonP (m : List Int) : Int → Int → Int → Prop := fun _ z d => mxS m d ≤ z
end Lw
namespace Lw
open PySem L2 Ds
theorem ev_pair {q r : Nat} (hq : 0 < q) : (evM q r).Pairwise (· ≥ ·) := by
  rw [evM_rep hq, List.pairwise_append]
  refine ⟨List.pairwise_replicate.mpr (.inr (Int.le_refl _)), List.pairwise_replicate.mpr (.inr (Int.le_refl _)), fun a ha b hb => ?_⟩
  rw [List.eq_of_mem_replicate ha, List.eq_of_mem_replicate hb]; omega
structure ValM (b l : List M4) (P : Nat) (z : Int) (m : List Int) : Prop where
  len : m.length = P
  srt : m.Pairwise (· ≥ ·)
  sum : m.sum = z
  fit : fitB b l m = true
theorem top_ge {m : List Int} (h : m.Pairwise (· ≥ ·)) {k : Nat} (hk : k < m.length) : (∀ x ∈ m.take (k + 1), m.getD k 0 ≤ x) ∧ ∀ x ∈ m.drop k, x ≤ m.getD k 0 := by
  have hg : m.getD k 0 = m[k] := by rw [List.getD_eq_getElem?_getD, List.getElem?_eq_getElem hk]; rfl
  rw [hg]
  constructor
  · intro x hx
    obtain ⟨i, hi, rfl⟩ := List.getElem_of_mem hx
    rw [List.getElem_take]
    rw [List.length_take] at hi
    by_cases e : i = k
    · subst e; exact Int.le_refl _
    · exact List.pairwise_iff_getElem.mp h i k (by omega) hk (by omega)
  · intro x hx
    obtain ⟨i, hi, rfl⟩ := List.getElem_of_mem hx
    rw [List.getElem_drop]
    rw [List.length_drop] at hi
    by_cases e : i = 0
    · subst e; exact Int.le_refl _
    · exact List.pairwise_iff_getElem.mp h k (k + i) hk (by omega) (by omega)
section
variable {b l : List M4} {P : Nat} {z : Int}
end
structure Mids (b l : List M4) (P : Nat) (z u d : Int) : Prop where
  P1 : 0 < P
  z0 : 0 ≤ z
  ev : ValM b l P z (evM P z.toNat)
  bd : ∀ m, ValM b l P z m → ∀ x ∈ m, d ≤ x ∧ x ≤ u
  d0 : 0 ≤ d
section
variable {b l : List M4} {P : Nat} {z u d : Int}
theorem getD_in {m : List Int} {k : Nat} (h : k < m.length) : m.getD k 0 ∈ m := by
  rw [List.getD_eq_getElem?_getD, List.getElem?_eq_getElem h]
  exact List.getElem_mem _
end
end Lw
namespace Lw
open PySem L2 Ds
def Kept (R : Nat) (cs : List Int) (n : Nat) (s : Sta) : Prop := s ∈ layS R (cs.take n) ∧ GoS s (cs.drop n)
section
variable {rs : List (Int × Int)} {R : Nat} {n : Nat}
structure Base (rs : List (Int × Int)) (R : Nat) (n : Nat) : Prop where
  cnt : ∀ q ∈ rs, 1 ≤ q.2
  chg : ∀ q ∈ rs, -1 ≤ q.1 ∧ q.1 ≤ 1
  ok : okE R rs
  n1 : n ≤ (expandR rs).length
theorem Base.len (B : Base rs R n) : ((expandR rs).length : Int) = totR rs := by
  have := totR_nonneg B.cnt
  omega
end
end Lw
namespace Lw
open PySem L2 Ds
section
variable {rs : List (Int × Int)} {R n r : Nat}
end
end Lw
namespace Lw
open PySem L2 Ds
def decM (m : List Int) (k : Nat) : List Int := m.take k ++ [m.getD k 0 - 1] ++ m.drop (k + 1)
theorem split_at {m : List Int} {k : Nat} (h : k < m.length) : m = m.take k ++ m.getD k 0 :: m.drop (k + 1) := by
  have : m.getD k 0 = m[k] := by rw [List.getD_eq_getElem?_getD, List.getElem?_eq_getElem h]; rfl
  rw [this, ← List.drop_eq_getElem_cons h, List.take_append_drop]
end Lw
namespace Lw
open PySem L2 Ds
structure FallS (P k : Nat) (z W : Int) (ns : List Int) : Prop where
  W0 : 0 ≤ W
  Wz : W ≤ z
  eq : ns = evM (k + 1) W.toNat ++ evM (P - k - 1) (z - W).toNat
  st : ∀ y ∈ evM (P - k - 1) (z - W).toNat, y < W / ((k : Int) + 1)
theorem FallS.sum {P k : Nat} {z W : Int} {ns : List Int} (hk : k < P) (hz : k + 1 = P → W = z) (F : FallS P k z W ns) : ns.sum = z ∧ (evM (P - k - 1) (z - W).toNat).sum = z - W := by
  have := F.W0
  have := F.Wz
  have e2 : (evM (P - k - 1) (z - W).toNat).sum = z - W := by
    by_cases h : k + 1 = P
    · rw [hz h, show P - k - 1 = 0 by omega]; simp [evM]
    · rw [evM_sum (by omega)]; omega
  refine ⟨?_, e2⟩
  rw [F.eq, List.sum_append, e2, evM_sum (by omega)]; omega
theorem FallS.len {P k : Nat} {z W : Int} {ns : List Int} (hk : k < P) (F : FallS P k z W ns) : ns.length = P := by
  rw [F.eq, List.length_append, evM_len, evM_len]; omega
theorem low_div {k : Nat} {W : Int} (W0 : 0 ≤ W) : ((W.toNat / (k + 1) : Nat) : Int) = W / ((k : Int) + 1) := by
  have Wn : ((W.toNat : Nat) : Int) = W := by omega
  rw [Int.natCast_ediv, Wn]; rfl
theorem FallS.srt {P k : Nat} {z W : Int} {ns : List Int} (F : FallS P k z W ns) : ns.Pairwise (· ≥ ·) := by
  rw [F.eq, List.pairwise_append]
  refine ⟨ev_pair (by omega), ?_, fun a ha b hb => ?_⟩
  · by_cases h : P - k - 1 = 0
    · rw [h]; simp [evM]
    · exact ev_pair (by omega)
  · have h1 := (evM_vals ha).1
    rw [low_div F.W0] at h1
    have := F.st b hb
    show b ≤ a
    omega
section
variable {rs : List (Int × Int)} {R : Nat} {n : Nat}
end
end Lw
namespace Lw
open PySem L2 Ds
def DueP (R : Nat) (cs : List Int) (n : Nat) (c : Int) (k : Int) : Prop := ∃ s r o, Kept R cs n s ∧ (r, o) ∈ nextS s c ∧ Kept R cs (n + 1) o ∧ k = ((r : Nat) : Int)
end Lw
namespace Lw
open PySem L2 Ds
theorem cutR_at : ∀ {rs : List (Int × Int)} {n : Int} {i : Nat} {q : Int × Int}, (∀ p ∈ rs, 1 ≤ p.2) → (cutR rs n)[i]? = some q → ∃ p, rs[i]? = some p ∧ q.1 = p.1 ∧ 1 ≤ q.2 ∧ q.2 ≤ p.2
  | [], n, i, q, _, h => by simp [cutR] at h
  | p :: rs, n, i, q, hp, h => by
    by_cases hn : n ≤ 0
    · rw [cutR_le hn] at h; simp at h
    · rw [cutR_cons hn] at h
      have p1 := hp p (by simp)
      cases i with
      | zero =>
        simp at h; subst h
        exact ⟨p, rfl, rfl, by dsimp only; split <;> omega, by dsimp only; split <;> omega⟩
      | succ i =>
        obtain ⟨x, h1, h2⟩ := cutR_at (rs := rs) (fun y hy => hp y (by simp [hy])) (by simpa using h)
        exact ⟨x, by simpa using h1, h2⟩
theorem Runs.cutN {m : Nat} {L : Int} {rs : List (Int × Int)} (h : Runs m L rs) (n : Int) : Runs m L (cutR rs n) := by
  have hp : ∀ p ∈ rs, 1 ≤ p.2 := fun p hp => (h.cnt p hp).1
  refine ⟨Nat.le_trans cutR_len h.len, fun q hq => ?_, fun q hq => ?_, fun i a b ha hb => ?_⟩
  · obtain ⟨i, hi⟩ := List.mem_iff_getElem?.mp hq
    obtain ⟨p, h1, h2, _⟩ := cutR_at hp hi
    rw [h2]; exact h.chg p (List.mem_of_getElem? h1)
  · obtain ⟨i, hi⟩ := List.mem_iff_getElem?.mp hq
    obtain ⟨p, h1, _, h3, h4⟩ := cutR_at hp hi
    have := (h.cnt p (List.mem_of_getElem? h1)).2
    omega
  · obtain ⟨p, h1, h2, _⟩ := cutR_at hp ha
    obtain ⟨p', h1', h2', _⟩ := cutR_at hp hb
    rw [h2, h2']; exact h.chn i p p' h1 h1'
section
variable {rs : List (Int × Int)} {R : Nat}
theorem lay_srt {s : Sta} {cs : List Int} (hR : 1 ≤ R) (h : s ∈ layS R cs) : s.Pairwise (· ≥ ·) := by
  have g := good_lay hR _ s h
  refine srt_pair fun k hk => ?_
  exact g.srt k (by rw [← g.len]; exact hk)
end
end Lw
namespace Lw
open PySem L2 Ds
def extL (ps : List Int) : Int := maxI ps - minI ps
def runP : List Int → List Int → List Int
  | _, [] => []
  | ps, x :: hs => (extL (incS ps x.toNat) - extL ps) :: runP (incS ps x.toNat) hs
def endP (ps : List Int) (hs : List Int) : List Int := hs.foldl (fun ps x => incS ps x.toNat) ps
theorem runP_snoc : ∀ (hs : List Int) (ps : List Int) (x : Int), runP ps (hs ++ [x]) = runP ps hs ++ [extL (endP ps (hs ++ [x])) - extL (endP ps hs)]
  | [], ps, x => rfl
  | y :: hs, ps, x => by
    show _ :: runP _ (hs ++ [x]) = _ :: (runP _ hs ++ _)
    rw [runP_snoc hs]; rfl
theorem endP_snoc (hs : List Int) (ps : List Int) (x : Int) : endP ps (hs ++ [x]) = incS (endP ps hs) x.toNat := by simp [endP]
theorem endP_len : ∀ (hs ps : List Int), (endP ps hs).length = ps.length
  | [], _ => rfl
  | x :: hs, ps => by
    show (endP (incS ps x.toNat) hs).length = _
    rw [endP_len hs, len_inc]
theorem perm_sum {a b : List Int} (h : a.Perm b) : a.sum = b.sum := by
  induction h with
  | nil => rfl
  | cons x _ ih => rw [List.sum_cons, List.sum_cons, ih]
  | swap x y l => simp only [List.sum_cons]; omega
  | trans _ _ h1 h2 => rw [h1, h2]
structure SrtOf (s ps : List Int) : Prop where
  perm : s.Perm ps
  srt : s.Pairwise (· ≥ ·)
theorem SrtOf.len {s ps : List Int} (h : SrtOf s ps) : s.length = ps.length := h.perm.length_eq
theorem first_at {v : Int} : ∀ {s : List Int}, s.Pairwise (· ≥ ·) → v ∈ s → ∃ a b, s = a ++ v :: b ∧ (∀ y ∈ a, v < y) ∧ ∀ y ∈ b, y ≤ v
  | [], _, h => by simp at h
  | y :: t, hs, hm => by
    obtain ⟨h1, h2⟩ := List.pairwise_cons.mp hs
    by_cases e : y = v
    · subst e
      exact ⟨[], t, rfl, by simp, fun z hz => h1 z hz⟩
    · have hv : v ∈ t := by simpa [Ne.symm e] using hm
      obtain ⟨a, b, e1, e2, e3⟩ := first_at h2 hv
      exact ⟨y :: a, b, by rw [e1]; rfl, fun z hz => by
        rcases List.mem_cons.mp hz with rfl | hz
        · have := h1 v hv; omega
        · exact e2 z hz, e3⟩
theorem inc_split {p q : List Int} {v : Int} : incS (p ++ v :: q) p.length = p ++ (v + 1) :: q := by
  unfold incS
  rw [List.getD_eq_getElem?_getD, List.getElem?_append_right (Nat.le_refl _), Nat.sub_self]
  rw [List.set_append_right _ _ (Nat.le_refl _), Nat.sub_self]; rfl
theorem srt_ends {s ps : List Int} (h : SrtOf s ps) (hn : ps ≠ []) : maxI ps = s.getD 0 0 ∧ minI ps = s.getD (s.length - 1) 0 := by
  have hl := h.len
  have hs : 0 < s.length := by rw [hl]; exact List.length_pos_iff.mpr hn
  obtain ⟨m1, m2⟩ := maxI_mem hn
  obtain ⟨n1, n2⟩ := minI_mem hn
  obtain ⟨t1, t2⟩ := top_ge h.srt (k := 0) hs
  obtain ⟨b1, b2⟩ := top_ge h.srt (k := s.length - 1) (by omega)
  rw [show s.length - 1 + 1 = s.length by omega, List.take_length] at b1
  have a1 := t2 _ (by rw [List.drop_zero]; exact h.perm.mem_iff.mpr m1)
  have a2 := m2 _ (h.perm.mem_iff.mp (getD_in hs))
  have a3 := b1 _ (h.perm.mem_iff.mpr n1)
  have a4 := n2 _ (h.perm.mem_iff.mp (getD_in (show s.length - 1 < s.length by omega)))
  exact ⟨by omega, by omega⟩
theorem srt_read {s ps : List Int} {x : Nat} (h : SrtOf s ps) (hx : x < ps.length) : ∃ r, (r, incS s r) ∈ nextS s (extL (incS ps x) - extL ps) ∧ s.getD r 0 = ps.getD x 0 ∧ SrtOf (incS s r) (incS ps x) ∧ ∃ a b, s = a ++ ps.getD x 0 :: b ∧ r = a.length ∧ (∀ y ∈ a, ps.getD x 0 < y) ∧ ∀ y ∈ b, y ≤ ps.getD x 0 := by
  have hl := h.len
  obtain ⟨v, hv⟩ : ∃ v, v = ps.getD x 0 := ⟨_, rfl⟩
  have ep : ps = ps.take x ++ v :: ps.drop (x + 1) := by rw [hv]; exact split_at hx
  have lp : (ps.take x).length = x := by rw [List.length_take]; omega
  have hm : v ∈ s := h.perm.mem_iff.mpr (by rw [hv]; exact getD_in hx)
  obtain ⟨a, b, es, ha, hb⟩ := first_at h.srt hm
  have ip : incS ps x = ps.take x ++ (v + 1) :: ps.drop (x + 1) := by
    conv => lhs; rw [ep]
    have := inc_split (p := ps.take x) (q := ps.drop (x + 1)) (v := v)
    rwa [lp] at this
  have is_ : incS s a.length = a ++ (v + 1) :: b := by rw [es]; exact inc_split
  have la : a.length < s.length := by rw [es]; simp
  have gr : s.getD a.length 0 = v := by rw [es, List.getD_eq_getElem?_getD, List.getElem?_append_right (Nat.le_refl _), Nat.sub_self]; rfl
  have hso : SrtOf (incS s a.length) (incS ps x) := by
    refine ⟨?_, ?_⟩
    · rw [is_, ip]
      have p0 := h.perm
      rw [es, ep] at p0
      have p1 : (a ++ b).Perm (ps.take x ++ ps.drop (x + 1)) := by
        have := (List.perm_middle.symm.trans p0).trans List.perm_middle
        exact List.Perm.cons_inv this
      exact List.perm_middle.trans ((p1.cons (v + 1)).trans List.perm_middle.symm)
    · rw [is_, List.pairwise_append]
      have hsr := h.srt
      rw [es, List.pairwise_append] at hsr
      obtain ⟨s1, s2, s3⟩ := hsr
      obtain ⟨s4, s5⟩ := List.pairwise_cons.mp s2
      refine ⟨s1, List.pairwise_cons.mpr ⟨fun y hy => ?_, s5⟩, fun y hy z hz => ?_⟩
      · have := hb y hy; show y ≤ v + 1; omega
      · rcases List.mem_cons.mp hz with rfl | hz
        · have := ha y hy; show v + 1 ≤ y; omega
        · exact s3 y hy z (List.mem_cons_of_mem _ hz)
  refine ⟨a.length, mem_nextS.mpr ⟨la, ?_, ?_, rfl⟩, by rw [gr, hv], hso, a, b, by rw [← hv]; exact es, rfl, by rw [← hv]; exact ha, by rw [← hv]; exact hb⟩
  · by_cases z : a.length = 0
    · exact .inl z
    · refine .inr ?_
      rw [gr, es, List.getD_eq_getElem?_getD, List.getElem?_append_left (by omega), List.getElem?_eq_getElem (by omega)]
      exact ha _ (List.getElem_mem _)
  · have hn : ps ≠ [] := fun z => by rw [z] at hx; simp at hx
    have hn2 : incS ps x ≠ [] := fun z => by have := congrArg List.length z; rw [len_inc] at this; simp at this; exact hn this
    obtain ⟨e1, e2⟩ := srt_ends h hn
    obtain ⟨e3, e4⟩ := srt_ends hso hn2
    unfold extL
    rw [e1, e2, e3, e4, len_inc, getD_inc la, getD_inc la]
    unfold ownC
    by_cases r1 : s.length = 1
    · have a0 : a.length = 0 := by omega
      rw [if_pos r1, r1, a0]; simp
    · rw [if_neg r1]
      split <;> split <;> split <;> split <;> omega
structure EvStep (m m' : List Int) : Prop where
  srt : m'.Pairwise (· ≥ ·)
  ex : m'.Perm m ∨ ∃ (rest : List Int) (lo hi p : Int), 0 ≤ p ∧ lo + p ≤ hi - p ∧ m.Perm (rest ++ [lo, hi]) ∧ m'.Perm (rest ++ [hi - p, lo + p])
theorem room_perm {a b : List Int} (h : a.Perm b) (L : Int) : roomB a L = roomB b L := by
  unfold roomB
  exact perm_sum (h.map _)
theorem EvStep.room {m m' : List Int} (h : EvStep m m') (L : Int) : roomB m L ≤ roomB m' L := by
  rcases h.ex with h | ⟨rest, lo, hi, p, h1, h2, h3, h4⟩
  · rw [room_perm h]; exact Int.le_refl _
  · rw [room_perm h3, room_perm h4, room_app, room_app, room_cons, room_cons, room_cons, room_cons]
    split <;> split <;> split <;> split <;> omega
theorem EvStep.sum {m m' : List Int} (h : EvStep m m') : m'.sum = m.sum := by
  rcases h.ex with h | ⟨rest, lo, hi, p, h1, h2, h3, h4⟩
  · exact perm_sum h
  · rw [perm_sum h3, perm_sum h4, List.sum_append, List.sum_append]; simp; omega
theorem EvStep.bd {m m' : List Int} {d u : Int} (h : EvStep m m') (hm : ∀ y ∈ m, d ≤ y ∧ y ≤ u) : ∀ y ∈ m', d ≤ y ∧ y ≤ u := by
  rcases h.ex with h | ⟨rest, lo, hi, p, h1, h2, h3, h4⟩
  · exact fun y hy => hm y (h.mem_iff.mp hy)
  · have a1 := hm lo (h3.mem_iff.mpr (by simp))
    have a2 := hm hi (h3.mem_iff.mpr (by simp))
    intro y hy
    have hy := h4.mem_iff.mp hy
    simp only [List.mem_append, List.mem_cons, List.not_mem_nil, or_false] at hy
    rcases hy with hy | rfl | rfl
    · exact hm y (h3.mem_iff.mpr (by simp [hy]))
    · omega
    · omega
theorem EvStep.len {m m' : List Int} (h : EvStep m m') : m'.length = m.length := by
  rcases h.ex with h | ⟨rest, lo, hi, p, h1, h2, h3, h4⟩
  · exact h.length_eq
  · rw [h3.length_eq, h4.length_eq]; simp
end Lw
namespace Lw
open PySem L2 Ds
theorem last_app {X : List (Int × Int)} {q : Int × Int} : (X ++ [q]).getLast? = some q := by simp
theorem mrg_join (X : List (Int × Int)) (c k m : Int) : mrgStep (X ++ [(c, k)]) (c, m) = X ++ [(c, m + k)] := by
  unfold mrgStep
  rw [last_app]
  simp
theorem mrg_new {acc : List (Int × Int)} {p : Int × Int} (h : ∀ q, acc.getLast? = some q → q.1 ≠ p.1) : mrgStep acc p = acc ++ [p] := by
  unfold mrgStep
  split
  · rename_i q hq
    rw [if_neg (h q hq)]
  · rename_i hq
    rw [List.getLast?_eq_none_iff] at hq
    subst hq; rfl
theorem mrg_cases (acc : List (Int × Int)) (p : Int × Int) : ((∀ q, acc.getLast? = some q → q.1 ≠ p.1) ∧ mrgStep acc p = acc ++ [p]) ∨ ∃ X k, acc = X ++ [(p.1, k)] ∧ mrgStep acc p = X ++ [(p.1, p.2 + k)] := by
  cases e : acc.getLast? with
  | none =>
    have : ∀ q, acc.getLast? = some q → q.1 ≠ p.1 := fun q h => by rw [e] at h; cases h
    exact .inl ⟨fun q h => (by cases h), mrg_new this⟩
  | some q =>
    by_cases h : q.1 = p.1
    · have es := last_split e
      obtain ⟨c, k⟩ := q
      dsimp only at h
      subst h
      exact .inr ⟨acc.dropLast, k, es, by rw [es, mrg_join]; simp⟩
    · have : ∀ r, acc.getLast? = some r → r.1 ≠ p.1 := fun r hr => by rw [e] at hr; cases hr; exact h
      exact .inl ⟨fun r hr => (by cases hr; exact h), mrg_new this⟩
theorem chn_head {p : Int × Int} {l : List (Int × Int)} (h : Chn (p :: l)) : ∀ q ∈ l.head?, p.1 ≠ q.1 := fun q hq => h 0 p q rfl (by rw [Option.mem_def, List.head?_eq_getElem?] at hq; simpa using hq)
theorem fold_new {B : Int} : ∀ (l acc : List (Int × Int)) (n : Nat), Runs n B acc → (∀ p ∈ l, (-1 ≤ p.1 ∧ p.1 ≤ 1) ∧ 1 ≤ p.2 ∧ p.2 ≤ B) → Chn l → (∀ q p, acc.getLast? = some q → l.head? = some p → q.1 ≠ p.1) → l.foldl mrgStep acc = acc ++ l ∧ Runs (n + l.length) B (acc ++ l)
  | [], acc, n, h, _, _, _ => ⟨by simp, by simpa using h⟩
  | p :: l, acc, n, h, hp, hc, hn => by
    obtain ⟨⟨c0, c1⟩, n0, n1⟩ := hp p (by simp)
    have hx : ∀ q, acc.getLast? = some q → q.1 ≠ p.1 := fun q hq => hn q p hq rfl
    have r : Runs (n + 1) B (acc ++ [p]) := h.snoc hx c0 c1 n0 n1
    obtain ⟨e, r2⟩ := fold_new l (acc ++ [p]) (n + 1) r (fun q hq => hp q (by simp [hq])) hc.tail fun q x hq hx => by
      rw [last_app] at hq; cases hq
      exact chn_head hc x hx
    rw [List.foldl_cons, mrg_new hx, e]
    refine ⟨by simp, ?_⟩
    have : acc ++ p :: l = acc ++ [p] ++ l := by simp
    rw [this]
    exact r2.mono (by simp; omega) (Int.le_refl _)
theorem chn_last {X : List (Int × Int)} {c k k' : Int} (h : Chn (X ++ [(c, k)])) : Chn (X ++ [(c, k')]) := by
  intro i a b ha hb
  have hi := (List.getElem?_eq_some_iff.mp hb).1
  simp at hi
  have ia : i < X.length := by omega
  have ha' : (X ++ [(c, k)])[i]? = some a := by rw [List.getElem?_append_left ia] at ha ⊢; exact ha
  by_cases z : i + 1 < X.length
  · exact h i a b ha' (by rw [List.getElem?_append_left z] at hb ⊢; exact hb)
  · have ei : i + 1 = X.length := by omega
    rw [List.getElem?_append_right (by omega), ei, Nat.sub_self] at hb
    simp at hb
    subst hb
    exact h i a (c, k) ha' (by rw [List.getElem?_append_right (by omega), ei, Nat.sub_self]; rfl)
theorem Runs.grow {n : Nat} {B L : Int} {X : List (Int × Int)} {c k m : Int} (h : Runs n B (X ++ [(c, k)])) (m0 : 1 ≤ m) (m1 : m ≤ L) : Runs n (B + L) (X ++ [(c, m + k)]) := by
  have hk := h.cnt (c, k) (by simp)
  dsimp only at hk
  refine ⟨by simpa using h.len, fun p hp => ?_, fun p hp => ?_, chn_last h.chn⟩
  · rcases List.mem_append.mp hp with hp | hp
    · exact h.chg p (by simp [hp])
    · simp at hp; subst hp; exact h.chg (c, k) (by simp)
  · rcases List.mem_append.mp hp with hp | hp
    · have := h.cnt p (by simp [hp]); omega
    · simp at hp; subst hp; dsimp only; omega
theorem Runs.join {n m : Nat} {B L : Int} {acc rs : List (Int × Int)} (h : Runs n B acc) (hr : Runs m L rs) (B0 : 0 ≤ B) (L0 : 0 ≤ L) : Runs (n + m) (B + L) (rs.foldl mrgStep acc) := by
  cases rs with
  | nil => exact h.mono (by omega) (by omega)
  | cons p l =>
    have hp := hr.cnt p (by simp)
    have hc := hr.chg p (by simp)
    have hl := hr.len
    simp only [List.length_cons] at hl
    have rest : ∀ X k, Runs (n + 1) (B + L) (X ++ [(p.1, k)]) → Runs (n + m) (B + L) (l.foldl mrgStep (X ++ [(p.1, k)])) := fun X k r => by
      obtain ⟨e, r2⟩ := fold_new l _ (n + 1) r (fun q hq => ⟨hr.chg q (by simp [hq]), by have := hr.cnt q (by simp [hq]); omega⟩) hr.chn.tail fun q x hq hx => by
        rw [last_app] at hq; cases hq
        exact chn_head hr.chn x hx
      rw [e]
      exact r2.mono (by omega) (Int.le_refl _)
    rw [List.foldl_cons]
    rcases mrg_cases acc p with ⟨hx, e⟩ | ⟨X, k, rfl, e⟩
    · rw [e]
      exact rest acc p.2 ((h.mono (Nat.le_refl _) (by omega)).snoc hx hc.1 hc.2 hp.1 (by omega))
    · rw [e]
      exact rest X _ ((h.grow hp.1 hp.2).mono (by omega) (Int.le_refl _))
end Lw
namespace Lw
open PySem L2 Ds
def rkV (ps : List Int) (v : Int) : Nat := (ps.filter fun x => decide (v < x)).length
theorem rkV_perm {ps qs : List Int} (h : ps.Perm qs) (v : Int) : rkV ps v = rkV qs v := (h.filter _).length_eq
def rkGo : List Int → List Int → List Int
  | _, [] => []
  | ps, x :: hs => (rkV ps (ps.getD x.toNat 0) : Nat) :: rkGo (incS ps x.toNat) hs
def fst1 : List Int → Int → Nat
  | [], _ => 0
  | a :: l, k => if a = k then 0 else fst1 l k + 1
def rks (ps : List Int) : List Int := ps.map fun v => ((rkV ps v : Nat) : Int)
def fR (ps : List Int) (k : Int) : Nat := fst1 (rks ps) k
def byGo : List Int → List Int → List Int
  | _, [] => []
  | ps, k :: ks => (fR ps k : Nat) :: byGo (incS ps (fR ps k)) ks
def byOk : List Int → List Int → Prop
  | _, [] => True
  | ps, k :: ks => k ∈ rks ps ∧ byOk (incS ps (fR ps k)) ks
theorem desc_at {s : List Int} (h : s.Pairwise (· ≥ ·)) {i j : Nat} (hij : i ≤ j) (hj : j < s.length) : s.getD j 0 ≤ s.getD i 0 := by
  rw [List.getD_eq_getElem?_getD, List.getD_eq_getElem?_getD, List.getElem?_eq_getElem hj, List.getElem?_eq_getElem (by omega)]
  show s[j] ≤ s[i]
  rcases Nat.lt_or_eq_of_le hij with z | rfl
  · exact List.pairwise_iff_getElem.mp h i j (by omega) hj z
  · exact Int.le_refl _
theorem rkGo_snoc : ∀ (hs ps : List Int) (x : Int), rkGo ps (hs ++ [x]) = rkGo ps hs ++ [((rkV (endP ps hs) ((endP ps hs).getD x.toNat 0) : Nat) : Int)]
  | [], _, _ => rfl
  | y :: hs, ps, x => by
    show _ :: rkGo (incS ps y.toNat) (hs ++ [x]) = _
    rw [rkGo_snoc hs]
    rfl
end Lw
namespace Lw
open PySem L2 Ds
def canN (R u z d c : Int) : Int := if R = 1 ∨ c = 1 then (if 1 < R ∨ c = 0 then 1000000000000000000000000000000 else 0) else if R = 2 then (if c = 0 then 0 else u - d) else if c = 0 then (R - 2) * u - z else z / (R - 2) - d
def shortR (pre : List (Int × Int)) (p : Int × Int) : List (Int × Int) := if p.2 = 1 then pre else pre ++ [(p.1, p.2 - 1)]
def decS (s : Sta) (k : Nat) : Sta := s.set k (s.getD k 0 - 1)
instance srtDec (s : Sta) : Decidable (s.Pairwise (· ≥ ·)) := inferInstance
def befB (R : Nat) (s : Sta) (c : Int) (k : Nat) : Bool := decide (ownC R k = c) && (decide (0 ≤ s.getD k 0 - 1) && decide ((decS s k).Pairwise (· ≥ ·)))
def befN (R : Nat) (s : Sta) (c : Int) (n : Nat) : List Sta := ((List.range n).filter (befB R s c)).map (decS s)
section
variable {R : Nat} {es : List Int} {c : Int}
end
theorem sum_set : ∀ {l : List Int} {i : Nat} {x : Int}, i < l.length → (l.set i x).sum = l.sum - l.getD i 0 + x
  | a :: l, 0, x, _ => by simp; omega
  | a :: l, i + 1, x, h => by
    have := sum_set (l := l) (i := i) (x := x) (by simpa using h)
    simp only [List.set_cons_succ, List.sum_cons, List.getD_cons_succ]
    omega
  | [], _, _, h => by simp at h
structure StS (R : Nat) (N : Int) (s : Sta) : Prop where
  len : s.length = R
  srt : s.Pairwise (· ≥ ·)
  pos : ∀ x ∈ s, 0 ≤ x
  sum : s.sum = N
theorem StS.move {R : Nat} {N a : Int} {s t : Sta} {i j : Nat} (h : StS R N s) (hi : i < R) (hj : j < R) (a0 : 0 ≤ a) (a1 : a ≤ s.getD i 0)
    (ht : t.Perm ((s.set i (s.getD i 0 - a)).set j ((s.set i (s.getD i 0 - a)).getD j 0 + a))) (hs : t.Pairwise (· ≥ ·)) : StS R N t := by
  have hl := h.len
  have l1 : (s.set i (s.getD i 0 - a)).length = R := by simp [hl]
  have l2 : ((s.set i (s.getD i 0 - a)).set j ((s.set i (s.getD i 0 - a)).getD j 0 + a)).length = R := by simp [hl]
  refine ⟨ht.length_eq.trans l2, hs, fun x hx => ?_, ?_⟩
  · have hx := ht.mem_iff.mp hx
    have p1 : ∀ y ∈ s.set i (s.getD i 0 - a), 0 ≤ y := fun y hy => by
      rcases List.mem_or_eq_of_mem_set hy with hy | rfl
      · exact h.pos y hy
      · omega
    rcases List.mem_or_eq_of_mem_set hx with hx | rfl
    · exact p1 x hx
    · have := p1 _ (getD_in (m := s.set i (s.getD i 0 - a)) (k := j) (by omega))
      omega
  · have hsum : ∀ {a b : List Int}, a.Perm b → a.sum = b.sum := fun h => perm_sum h
    rw [hsum ht, sum_set (by omega), sum_set (by omega), h.sum]
    omega
end Lw
namespace Lw
open PySem L2 Ds
def farR (F : Int) (rs : List (Int × Int)) : List (Int × Int) := rs.map fun p => (p.1, p.2 * F)
section
variable {F : Int}
def mulS (F : Int) (s : Sta) : Sta := s.map (· * F)
end
def repC (F : Nat) (cs : List Int) : List Int := cs.flatMap fun c => List.replicate F c
section
variable {F : Nat}
def blkS (F : Nat) (s : Sta) (k t : Nat) : Sta := (mulS (F : Nat) s).set k (s.getD k 0 * (F : Nat) + (t : Nat))
theorem ext_getD {a b : List Int} (hl : a.length = b.length) (h : ∀ j, a.getD j 0 = b.getD j 0) : a = b := by
  refine List.ext_getElem hl fun i h1 h2 => ?_
  have := h i
  rw [List.getD_eq_getElem?_getD, List.getD_eq_getElem?_getD, List.getElem?_eq_getElem h1, List.getElem?_eq_getElem h2] at this
  exact this
end
def stK (R : Nat) (ks : List Nat) : Sta := ks.foldl incS (zeroS R)
def WalkK (R : Nat) (ks : List Nat) : Prop := ∀ pre k post, ks = pre ++ k :: post → k < R ∧ canR (stK R pre) k = true
theorem stK_snoc (R : Nat) (ks : List Nat) (k : Nat) : stK R (ks ++ [k]) = incS (stK R ks) k := by unfold stK; rw [List.foldl_append]; rfl
theorem WalkK.nil (R : Nat) : WalkK R [] := fun pre k post e => by simp at e
theorem WalkK.snoc {R : Nat} {ks : List Nat} {k : Nat} (h : WalkK R ks) (h1 : k < R) (h2 : canR (stK R ks) k = true) : WalkK R (ks ++ [k]) := fun pre j post e => by
  by_cases z : post = []
  · subst z
    have := List.append_inj' e rfl
    obtain ⟨rfl, e2⟩ := this
    cases e2
    exact ⟨h1, h2⟩
  · obtain ⟨q, x, rfl⟩ : ∃ q x, post = q ++ [x] := ⟨post.dropLast, post.getLast z, (List.dropLast_concat_getLast z).symm⟩
    rw [← List.cons_append, ← List.append_assoc] at e
    have := List.append_inj' e rfl
    exact h pre j q this.1
theorem WalkK.pre {R : Nat} {a b : List Nat} (h : WalkK R (a ++ b)) : WalkK R a := fun pre k post e => h pre k (post ++ b) (by rw [e]; simp)
theorem walk_lay {R : Nat} : ∀ (n : Nat) (ks : List Nat), ks.length = n → WalkK R ks → (stK R ks).length = R ∧ stK R ks ∈ layS R (ks.map (ownC R))
  | 0, ks, hn, _ => by
    have : ks = [] := List.length_eq_zero_iff.mp hn
    subst this
    exact ⟨by simp [stK, zeroS], by show zeroS R ∈ [zeroS R]; simp⟩
  | n + 1, ks, hn, h => by
    obtain ⟨es, k, rfl⟩ : ∃ es c, ks = es ++ [c] := ⟨ks.dropLast, ks.getLast (by intro e; subst e; simp at hn), (List.dropLast_concat_getLast _).symm⟩
    obtain ⟨l, m⟩ := walk_lay n es (by simpa using hn) h.pre
    obtain ⟨k1, k2⟩ := h es k [] rfl
    rw [stK_snoc, List.map_append]
    refine ⟨by rw [len_inc]; exact l, ?_⟩
    show _ ∈ layS R (es.map (ownC R) ++ [ownC R k])
    rw [layS_snoc, mem_stepF]
    refine ⟨_, m, k, mem_nextS.mpr ⟨by omega, ?_, by rw [l], rfl⟩⟩
    unfold canR at k2
    exact of_decide_eq_true k2
end Lw
namespace Lw
open PySem L2 Ds
structure StK (n m : Nat) (s : Sta) : Prop where
  len : s.length = n
  pw : s.Pairwise (· ≥ ·)
  nn : ∀ x ∈ s, 0 ≤ x
  sum : s.sum = (m : Int)
theorem StK.zero (n : Nat) : StK n 0 (zeroS n) := by
  refine ⟨by simp [zeroS], ?_, fun x hx => by simp [zeroS] at hx; omega, ?_⟩
  · unfold zeroS; exact List.pairwise_replicate.mpr (.inr (Int.le_refl _))
  · unfold zeroS; simp
theorem StK.next {n m : Nat} {s o : Sta} {c : Int} {k : Nat} (h : StK n m s) (hp : (k, o) ∈ nextS s c) : StK n (m + 1) o := by
  obtain ⟨h1, h2, _, rfl⟩ := mem_nextS.mp hp
  refine ⟨by rw [len_inc, h.len], inc_pair h.pw h1 h2, fun x hx => ?_, by rw [sum_inc h1, h.sum]; omega⟩
  unfold incS at hx
  rcases List.mem_or_eq_of_mem_set hx with hx | rfl
  · exact h.nn x hx
  · have : s.getD k 0 ∈ s := by rw [List.getD_eq_getElem?_getD, List.getElem?_eq_getElem h1]; exact List.getElem_mem h1
    have := h.nn _ this
    omega
def wgS (ch : Bool) (s : Sta) (k : Nat) : Int := match ch with
  | true => ((s.count (s.getD k 0) : Nat) : Int)
  | false => 1
def wayN (ch : Bool) : List Int → Sta → Int
  | [], _ => 1
  | c :: cs, s => ((nextS s c).map fun p => wgS ch s p.1 * wayN ch cs p.2).sum
theorem log_pow {x : Int} {b n : Nat} (h0 : 0 ≤ x) (h : x ≤ (2 : Int) ^ n) : x.natAbs.log2 ≤ n := by
  have h1 : x.natAbs ≤ 2 ^ n := by
    have : ((x.natAbs : Nat) : Int) ≤ ((2 ^ n : Nat) : Int) := by rw [Int.natAbs_of_nonneg h0, Int.natCast_pow]; exact h
    exact Int.ofNat_le.mp this
  by_cases hz : x.natAbs = 0
  · rw [hz]; simp
  · have : x.natAbs < 2 ^ (n + 1) := Nat.lt_of_le_of_lt h1 (Nat.pow_lt_pow_right (by decide) (by omega))
    have := (Nat.log2_lt hz).mpr this
    omega
def KeyOk (n L : Nat) (k : MKey) : Prop := ∃ m : Nat, k.1 = (m : Int) ∧ m < L ∧ StK n m k.2
structure MemOK (chs : List Int) (n : Nat) (ch : Bool) (es : Ents) : Prop where
  nd : (es.map (·.1)).Nodup
  val : ∀ e ∈ es, KeyOk n chs.length e.1 ∧ e.2 = wayN ch (chs.drop e.1.1.toNat) e.1.2
theorem MemOK.nil {chs : List Int} {n : Nat} {ch : Bool} : MemOK chs n ch [] := ⟨List.nodup_nil, fun e he => by simp at he⟩
theorem gM_mem {es : Ents} {k : MKey} {v : Int} (h : gM es k = some v) : (k, v) ∈ es := by
  unfold gM at h
  rw [Option.map_eq_some_iff] at h
  obtain ⟨⟨k', v'⟩, h1, rfl⟩ := h
  have h2 := List.mem_of_find?_eq_some h1
  have h3 := List.find?_some h1
  simp at h3
  rw [← h3]; exact h2
theorem gM_none {es : Ents} {k : MKey} (h : gM es k = none) : ∀ e ∈ es, e.1 ≠ k := fun e he z => by
  unfold gM at h
  rw [Option.map_eq_none_iff, List.find?_eq_none] at h
  have := h e he
  simp [z] at this
theorem MemOK.get {chs : List Int} {n : Nat} {ch : Bool} {es : Ents} (h : MemOK chs n ch es) {k : MKey} {v : Int} (e : gM es k = some v) : v = wayN ch (chs.drop k.1.toNat) k.2 := (h.val _ (gM_mem e)).2
theorem MemOK.put {chs : List Int} {n : Nat} {ch : Bool} {es : Ents} (h : MemOK chs n ch es) {m : Nat} {s : Sta} (hm : m < chs.length) (hs : StK n m s) : MemOK chs n ch (putM es ((m : Int), s) (wayN ch (chs.drop m) s)) := by
  unfold putM
  cases e : gM es ((m : Int), s) with
  | none =>
    have hn := gM_none e
    simp only [Option.isSome_none]
    refine ⟨?_, fun x hx => ?_⟩
    · rw [List.map_append, List.nodup_append]
      refine ⟨h.nd, by simp, fun a ha b hb => ?_⟩
      obtain ⟨x, hx, rfl⟩ := List.mem_map.mp ha
      simp at hb
      subst hb
      exact hn x hx
    · rcases List.mem_append.mp hx with hx | hx
      · exact h.val x hx
      · simp at hx
        subst hx
        exact ⟨⟨m, rfl, hm, hs⟩, by simp⟩
  | some v =>
    simp only [Option.isSome_some]
    refine ⟨?_, fun x hx => ?_⟩
    · rw [List.map_map]
      have : (es.map ((fun x : MKey × Int => x.1) ∘ fun e => if e.1 = ((m : Int), s) then (e.1, wayN ch (chs.drop m) s) else e)) = es.map (·.1) := List.map_congr_left fun x _ => by
        show (if x.1 = ((m : Int), s) then (x.1, wayN ch (chs.drop m) s) else x).1 = x.1
        split <;> rfl
      rw [this]; exact h.nd
    · obtain ⟨y, hy, rfl⟩ := List.mem_map.mp hx
      obtain ⟨a, b⟩ := h.val y hy
      by_cases z : y.1 = ((m : Int), s)
      · rw [if_pos z]
        refine ⟨a, ?_⟩
        show wayN ch (chs.drop m) s = wayN ch (chs.drop y.1.1.toNat) y.1.2
        rw [z]; simp
      · rw [if_neg z]; exact ⟨a, b⟩
def kA : List (Nat × Nat) := ((List.range 30).flatMap fun a => (List.range 20).map fun b => (a, b)).filter fun p => decide (2 * p.1 + 3 * p.2 ≤ 59)
def kB : List (Nat × Nat) := ((List.range 60).flatMap fun a => (List.range 10).map fun b => (a, b)).filter fun p => decide (p.1 + 6 * p.2 ≤ 59)
def kC : List (Nat × Nat) := ((List.range 15).flatMap fun a => (List.range 12).map fun b => (a, b)).filter fun p => decide (4 * p.1 + 5 * p.2 ≤ 59)
theorem kA_len : kA.length = 320 := by decide +kernel
theorem kB_len : kB.length = 330 := by decide +kernel
theorem kC_len : kC.length = 102 := by decide +kernel
def kAll : List ((Nat × Nat) × (Nat × Nat) × (Nat × Nat)) := kA.flatMap fun a => kB.flatMap fun b => kC.map fun c => (a, b, c)
theorem flat_len {α β : Type} {f : α → List β} {n : Nat} : ∀ {l : List α}, (∀ x ∈ l, (f x).length = n) → (l.flatMap f).length = l.length * n
  | [], _ => by simp
  | x :: l, h => by
    rw [List.flatMap_cons, List.length_append, h x List.mem_cons_self, flat_len fun y hy => h y (List.mem_cons_of_mem _ hy), List.length_cons, Nat.succ_mul, Nat.add_comm]
theorem kAll_len : kAll.length = 320 * (330 * 102) := by
  unfold kAll
  rw [flat_len (n := 330 * 102) fun a _ => ?_, kA_len]
  rw [flat_len (n := 102) fun b _ => ?_, kB_len]
  rw [List.length_map, kC_len]
def dnS (s : Sta) (i : Nat) : Nat := (s.getD i 0 - s.getD (i + 1) 0).toNat
def codeK (k : MKey) : (Nat × Nat) × (Nat × Nat) × (Nat × Nat) := ((dnS k.2 1, dnS k.2 2), (dnS k.2 0, dnS k.2 5), (dnS k.2 3, dnS k.2 4))
theorem pw_step {s : Sta} (h : s.Pairwise (· ≥ ·)) (hn : ∀ x ∈ s, 0 ≤ x) (i : Nat) : s.getD (i + 1) 0 ≤ s.getD i 0 := by
  by_cases h1 : i + 1 < s.length
  · rw [List.getD_eq_getElem?_getD, List.getD_eq_getElem?_getD, List.getElem?_eq_getElem h1, List.getElem?_eq_getElem (by omega)]
    exact List.pairwise_iff_getElem.mp h i (i + 1) (by omega) h1 (by omega)
  · rw [List.getD_eq_getElem?_getD, List.getElem?_eq_none (by omega)]
    simp only [Option.getD_none]
    by_cases h2 : i < s.length
    · rw [List.getD_eq_getElem?_getD, List.getElem?_eq_getElem h2]; exact hn _ (List.getElem_mem h2)
    · rw [List.getD_eq_getElem?_getD, List.getElem?_eq_none (by omega)]; exact Int.le_refl _
theorem sum6 {s : Sta} (h : s.length ≤ 6) : s.sum = s.getD 0 0 + s.getD 1 0 + s.getD 2 0 + s.getD 3 0 + s.getD 4 0 + s.getD 5 0 := by
  match s, h with
  | [], _ => rfl
  | [a], _ => simp
  | [a, b], _ => simp
  | [a, b, c], _ => simp; omega
  | [a, b, c, d], _ => simp; omega
  | [a, b, c, d, e], _ => simp; omega
  | [a, b, c, d, e, f], _ => simp; omega
  | _ :: _ :: _ :: _ :: _ :: _ :: _ :: _, h => simp at h <;> omega
theorem at6 {s : Sta} (h : s.length ≤ 6) : s.getD 6 0 = 0 := by rw [List.getD_eq_getElem?_getD, List.getElem?_eq_none (by omega)]; rfl
theorem code_mem {n L : Nat} (hn : n ≤ 6) (hL : L ≤ 60) {k : MKey} (h : KeyOk n L k) : codeK k ∈ kAll := by
  obtain ⟨m, e, hm, st⟩ := h
  have hl : k.2.length ≤ 6 := by rw [st.len]; exact hn
  have s0 := pw_step st.pw st.nn 0
  have s1 := pw_step st.pw st.nn 1
  have s2 := pw_step st.pw st.nn 2
  have s3 := pw_step st.pw st.nn 3
  have s4 := pw_step st.pw st.nn 4
  have s5 := pw_step st.pw st.nn 5
  have hs := st.sum
  rw [sum6 hl] at hs
  have h6 := at6 hl
  unfold kAll codeK dnS
  rw [List.mem_flatMap]
  simp only [Nat.reduceAdd] at s0 s1 s2 s3 s4 s5 ⊢
  refine ⟨_, ?_, List.mem_flatMap.mpr ⟨_, ?_, List.mem_map.mpr ⟨_, ?_, rfl⟩⟩⟩
  · refine List.mem_filter.mpr ⟨List.mem_flatMap.mpr ⟨_, List.mem_range.mpr ?_, List.mem_map.mpr ⟨_, List.mem_range.mpr ?_, rfl⟩⟩, decide_eq_true ?_⟩ <;> omega
  · refine List.mem_filter.mpr ⟨List.mem_flatMap.mpr ⟨_, List.mem_range.mpr ?_, List.mem_map.mpr ⟨_, List.mem_range.mpr ?_, rfl⟩⟩, decide_eq_true ?_⟩ <;> omega
  · refine List.mem_filter.mpr ⟨List.mem_flatMap.mpr ⟨_, List.mem_range.mpr ?_, List.mem_map.mpr ⟨_, List.mem_range.mpr ?_, rfl⟩⟩, decide_eq_true ?_⟩ <;> omega
theorem code_inj {n L : Nat} (hn : n ≤ 6) {k k' : MKey} (h : KeyOk n L k) (h' : KeyOk n L k') (e : codeK k = codeK k') : k = k' := by
  obtain ⟨m, e1, _, st⟩ := h
  obtain ⟨m', e1', _, st'⟩ := h'
  have hl : k.2.length ≤ 6 := by rw [st.len]; exact hn
  have hl' : k'.2.length ≤ 6 := by rw [st'.len]; exact hn
  unfold codeK dnS at e
  simp only [Prod.mk.injEq, Nat.reduceAdd] at e
  obtain ⟨⟨d1, d2⟩, ⟨d0, d5⟩, ⟨d3, d4⟩⟩ := e
  have h6 := at6 hl
  have h6' := at6 hl'
  have a0 := pw_step st.pw st.nn 0
  have a1 := pw_step st.pw st.nn 1
  have a2 := pw_step st.pw st.nn 2
  have a3 := pw_step st.pw st.nn 3
  have a4 := pw_step st.pw st.nn 4
  have a5 := pw_step st.pw st.nn 5
  have b0 := pw_step st'.pw st'.nn 0
  have b1 := pw_step st'.pw st'.nn 1
  have b2 := pw_step st'.pw st'.nn 2
  have b3 := pw_step st'.pw st'.nn 3
  have b4 := pw_step st'.pw st'.nn 4
  have b5 := pw_step st'.pw st'.nn 5
  simp only [Nat.reduceAdd] at a0 a1 a2 a3 a4 a5 b0 b1 b2 b3 b4 b5
  have q5 : k.2.getD 5 0 = k'.2.getD 5 0 := by omega
  have q4 : k.2.getD 4 0 = k'.2.getD 4 0 := by omega
  have q3 : k.2.getD 3 0 = k'.2.getD 3 0 := by omega
  have q2 : k.2.getD 2 0 = k'.2.getD 2 0 := by omega
  have q1 : k.2.getD 1 0 = k'.2.getD 1 0 := by omega
  have q0 : k.2.getD 0 0 = k'.2.getD 0 0 := by omega
  have es : k.2 = k'.2 := ext_getD (by rw [st.len, st'.len]) fun j => by
    match j with
    | 0 => exact q0
    | 1 => exact q1
    | 2 => exact q2
    | 3 => exact q3
    | 4 => exact q4
    | 5 => exact q5
    | j + 6 => rw [List.getD_eq_getElem?_getD, List.getD_eq_getElem?_getD, List.getElem?_eq_none (by omega), List.getElem?_eq_none (by omega)]
  have e2 := st.sum
  have e3 := st'.sum
  rw [es, e3] at e2
  exact Prod.ext (by rw [e1, e1']; omega) es
theorem nodup_mapOn {α β : Type} {f : α → β} : ∀ {l : List α}, l.Nodup → (∀ x ∈ l, ∀ y ∈ l, f x = f y → x = y) → (l.map f).Nodup
  | [], _, _ => by simp
  | x :: l, h, hf => by
    simp only [List.nodup_cons] at h
    rw [List.map_cons, List.nodup_cons]
    refine ⟨fun z => ?_, nodup_mapOn h.2 fun a ha b hb => hf a (List.mem_cons_of_mem _ ha) b (List.mem_cons_of_mem _ hb)⟩
    obtain ⟨y, hy, e⟩ := List.mem_map.mp z
    exact h.1 (by rw [hf x List.mem_cons_self y (List.mem_cons_of_mem _ hy) e.symm]; exact hy)
theorem MemOK.few {chs : List Int} {n : Nat} {ch : Bool} {es : Ents} (h : MemOK chs n ch es) (hn : n ≤ 6) (hL : chs.length ≤ 60) : es.length < sizeLine := by
  have key : ∀ k ∈ es.map (·.1), KeyOk n chs.length k := fun k hk => by
    obtain ⟨e, he, rfl⟩ := List.mem_map.mp hk
    exact (h.val e he).1
  have h1 : ((es.map (·.1)).map codeK).Nodup := nodup_mapOn h.nd fun x hx y hy e => code_inj hn (key x hx) (key y hy) e
  have h2 : ((es.map (·.1)).map codeK) ⊆ kAll := fun x hx => by
    obtain ⟨k, hk, rfl⟩ := List.mem_map.mp hx
    exact code_mem hn hL (key k hk)
  have h3 := h1.length_le_of_subset h2
  rw [kAll_len, List.length_map, List.length_map] at h3
  exact Nat.lt_of_le_of_lt h3 (by decide)
def rkOk : List Int → Sta → List Nat → Prop
  | [], _, [] => True
  | c :: cs, s, k :: ks => (k, incS s k) ∈ nextS s c ∧ rkOk cs (incS s k) ks
  | _, _, _ => False
def idxN : List Int → Sta → List Nat → Int
  | c :: cs, s, k :: ks => (((nextS s c).filter fun p => decide (p.1 < k)).map fun p => wayN false cs p.2).sum + idxN cs (incS s k) ks
  | _, _, _ => 0
theorem rkOk.len : ∀ {cs : List Int} {s : Sta} {ks : List Nat}, rkOk cs s ks → ks.length = cs.length
  | [], _, [], _ => rfl
  | _ :: _, _, _ :: _, ⟨_, t⟩ => congrArg (· + 1) (rkOk.len t)
  | [], _, _ :: _, h => h.elim
  | _ :: _, _, [], h => h.elim
end Lw
namespace Lw
open PySem L2 Ds
theorem rkV_split {a b : List Int} {v : Int} (ha : ∀ y ∈ a, v < y) (hb : ∀ y ∈ b, y ≤ v) : rkV (a ++ v :: b) v = a.length := by
  unfold rkV
  rw [List.filter_append, List.filter_eq_self.mpr fun y hy => decide_eq_true (ha y hy), List.filter_cons_of_neg (by simp), List.filter_eq_nil_iff.mpr fun y hy => by have := hb y hy; simp; omega, List.append_nil]
def hkN (R : Nat) (hs : List Int) : List Nat := (rkGo (zeroS R) hs).map Int.toNat
structure HistW (R : Nat) (hs : List Int) : Prop where
  rk : rkGo (zeroS R) hs = (hkN R hs).map fun k => ((k : Nat) : Int)
  walk : WalkK R (hkN R hs)
  chg : runP (zeroS R) hs = (hkN R hs).map (ownC R)
  srt : SrtOf (stK R (hkN R hs)) (endP (zeroS R) hs)
theorem hist_walk {R : Nat} : ∀ (n : Nat) (hs : List Int), hs.length = n → (∀ x ∈ hs, 0 ≤ x ∧ x < R) → HistW R hs
  | 0, hs, hn, _ => by
    have : hs = [] := List.length_eq_zero_iff.mp hn
    subst this
    exact ⟨rfl, WalkK.nil R, rfl, ⟨List.Perm.refl _, (StK.zero R).pw⟩⟩
  | n + 1, hs, hn, hb => by
    obtain ⟨es, x, rfl⟩ : ∃ es c, hs = es ++ [c] := ⟨hs.dropLast, hs.getLast (by intro e; subst e; simp at hn), (List.dropLast_concat_getLast _).symm⟩
    have ih := hist_walk n es (by simpa using hn) fun y hy => hb y (by simp [hy])
    have bx := hb x (by simp)
    have hx : x.toNat < (endP (zeroS R) es).length := by rw [endP_len]; simp [zeroS]; omega
    obtain ⟨r, h1, h2, h3, a, b, e1, e2, e3, e4⟩ := srt_read ih.srt hx
    have er : rkV (endP (zeroS R) es) ((endP (zeroS R) es).getD x.toNat 0) = r := by
      rw [← rkV_perm ih.srt.perm, e2]
      have := rkV_split e3 e4
      rw [← e1] at this
      exact this
    have ek : hkN R (es ++ [x]) = hkN R es ++ [r] := by
      unfold hkN
      rw [rkGo_snoc, er, List.map_append]; rfl
    obtain ⟨m1, m2, m3, _⟩ := mem_nextS.mp h1
    have sl : (stK R (hkN R es)).length = R := by rw [ih.srt.len, endP_len]; simp [zeroS]
    refine ⟨?_, ?_, ?_, ?_⟩
    · rw [ek, rkGo_snoc, er, ih.rk, List.map_append]; rfl
    · rw [ek]
      exact ih.walk.snoc (by omega) (by unfold canR; exact decide_eq_true m2)
    · rw [ek, runP_snoc, endP_snoc, ih.chg, List.map_append, ← m3, sl]; rfl
    · rw [ek, stK_snoc, endP_snoc]; exact h3
theorem HistW.take {R : Nat} {hs : List Int} (h : ∀ x ∈ hs, 0 ≤ x ∧ x < R) (j : Nat) : HistW R (hs.take j) := hist_walk _ _ rfl fun x hx => h x (List.mem_of_mem_take hx)
end Lw
namespace Lw
open PySem L2 Ds
def leL : List Int → List Int → Prop
  | x :: xs, y :: ys => x < y ∨ (x = y ∧ leL xs ys)
  | [], _ => True
  | _ :: _, [] => False
end Lw
namespace Lw
open PySem L2 Ds
structure Bag where
  c : List Int
  p : Nat
  r : Int
  n : Int
  m : Int
def Bag.d (b : Bag) : List D := [.list (b.c.map .int), .int (b.p : Nat), .int b.r, .int b.n, .int b.m]
abbrev bagM : Int := 2305843009213693951
structure Bag.Ok (b : Bag) (k : Nat) : Prop where
  pl : b.p ≤ b.c.length
  cl : b.c.length ≤ 63
  r0 : 0 ≤ b.r
  n0 : 0 ≤ b.n
  nb : b.n ≤ k
  m0 : 0 ≤ b.m
  mb : b.m < bagM
theorem Bag.Ok.mono {b : Bag} {k k' : Nat} (h : b.Ok k) (hk : k ≤ k') : b.Ok k' := ⟨h.pl, h.cl, h.r0, h.n0, by have := h.nb; omega, h.m0, h.mb⟩
end Lw
namespace Lw
open PySem L2 Ds
def allH (n : Nat) : Nat → List (List Int)
  | 0 => [[]]
  | L + 1 => (allH n L).flatMap fun h => (List.range n).map fun r => h ++ [((r : Nat) : Int)]
def cntH (n : Nat) (cs p : List Int) : Nat := (allH n cs.length).countP fun hs => decide (runP p hs = cs)
end Lw
namespace Lw
open PySem L2 Ds
theorem rk_walk {R : Nat} : ∀ (ks pre : List Nat) (cs : List Int), WalkK R pre → rkOk cs (stK R pre) ks → (stK R pre).length = R → WalkK R (pre ++ ks) ∧ cs = ks.map (ownC R)
  | [], pre, [], h, _, _ => ⟨by rw [List.append_nil]; exact h, rfl⟩
  | [], pre, _ :: _, _, h, _ => h.elim
  | _ :: _, _, [], _, h, _ => h.elim
  | k :: ks, pre, c :: cs, h, ⟨h1, h2⟩, hl => by
    obtain ⟨m1, m2, m3, _⟩ := mem_nextS.mp h1
    have w := h.snoc (show k < R by omega) (by unfold canR; exact decide_eq_true m2)
    obtain ⟨a, b⟩ := rk_walk ks (pre ++ [k]) cs w (by rw [stK_snoc]; exact h2) (by rw [stK_snoc, len_inc]; exact hl)
    rw [List.append_assoc] at a
    refine ⟨a, ?_⟩
    rw [List.map_cons, ← b, ← m3, hl]
theorem rk_walk0 {R : Nat} {ks : List Nat} {cs : List Int} (h : rkOk cs (zeroS R) ks) : WalkK R ks ∧ cs = ks.map (ownC R) := rk_walk ks [] cs (WalkK.nil R) h (StK.zero R).len
def sum3 (f : Int → Int) : Int := f 1 + (f 0 + (f (-1) + 0))
end Lw
namespace Lw
open PySem L2 Ds
def kZ (ks : List Nat) : List Int := ks.map fun k => ((k : Nat) : Int)
structure RkH (R : Nat) (cs : List Int) (ks : List Nat) (fs : List Int) : Prop where
  by_ : fs = byGo (zeroS R) (kZ ks)
  ok : byOk (zeroS R) (kZ ks)
  bd : ∀ x ∈ fs, 0 ≤ x ∧ x < (R : Int)
  rk : rkGo (zeroS R) fs = kZ ks
  hk : hkN R fs = ks
  chg : runP (zeroS R) fs = cs
  len : fs.length = cs.length
end Lw
namespace Lw
open PySem L2 Ds
def rkB (s : Sta) (c k : Int) : Bool := decide (0 ≤ k ∧ k.toNat < s.length) && (canR s k.toNat && decide (ownC s.length k.toNat = c))
def parseK : Sta → List Int → List D → Option (List Nat)
  | _, [], [] => some []
  | s, c :: cs, v :: vs => match v with
    | .int k => if rkB s c k = true then (parseK (incS s k.toNat) cs vs).map (k.toNat :: ·) else none
    | _ => none
  | _, _, _ => none
def valK (n : Nat) (cs : List Int) (v : D) : Option (List Nat) := match v with
  | .list ds => parseK (zeroS n) cs ds
  | .tuple ds => parseK (zeroS n) cs ds
  | _ => none
def belW (s : Sta) (c : Int) (cs : List Int) (k : Nat) : Int := (((nextS s c).filter fun p => decide (p.1 < k)).map fun p => wayN false cs p.2).sum
def idxP : Sta → List Int → List D → Option Int
  | _, [], [] => some 0
  | s, c :: cs, v :: vs => match v with
    | .int k => if rkB s c k = true then (idxP (incS s k.toNat) cs vs).map (belW s c cs k.toNat + ·) else none
    | _ => none
  | _, _, _ => none
end Lw
namespace Lw
open PySem L2 Ds
def mirS (m : Int) (s : Sta) : Sta := (s.map fun x => m - x).reverse
def mirC (cs : List Int) : List Int := (cs.map fun c => -c).reverse
def mirK (R : Nat) (ks : List Nat) : List Nat := (ks.map fun k => R - 1 - k).reverse
def flatS (R : Nat) (m : Int) : Sta := List.replicate R m
def endK (s : Sta) (ks : List Nat) : Sta := ks.foldl incS s
theorem ext_at {a b : List Int} (hl : a.length = b.length) (h : ∀ i, i < a.length → a.getD i 0 = b.getD i 0) : a = b := List.ext_getElem hl fun i h1 h2 => by
  have := h i h1
  rw [List.getD_eq_getElem?_getD, List.getD_eq_getElem?_getD, List.getElem?_eq_getElem h1, List.getElem?_eq_getElem h2] at this
  exact this
theorem mirS_len (m : Int) (s : Sta) : (mirS m s).length = s.length := by simp [mirS]
theorem mirS_at {m : Int} {s : Sta} {R i : Nat} (hl : s.length = R) (h : i < R) : (mirS m s).getD i 0 = m - s.getD (R - 1 - i) 0 := by
  subst hl
  unfold mirS
  rw [List.getD_eq_getElem?_getD, List.getElem?_reverse (by simpa using h), List.length_map, List.getElem?_map, List.getElem?_eq_getElem (by omega), List.getD_eq_getElem?_getD, List.getElem?_eq_getElem (by omega)]
  rfl
theorem mirS_flat (R : Nat) (m : Int) : mirS m (flatS R m) = zeroS R := by
  unfold mirS flatS zeroS
  rw [List.map_replicate, List.reverse_replicate, Int.sub_self]
theorem mirS_inc {m : Int} {s : Sta} {R k : Nat} (hl : s.length = R) (h : k < R) : incS (mirS m (incS s k)) (R - 1 - k) = mirS m s := by
  have l1 : (incS s k).length = R := by rw [len_inc, hl]
  have l2 : (mirS m (incS s k)).length = R := by rw [mirS_len, l1]
  refine ext_at (by rw [len_inc, l2, mirS_len, hl]) fun i hi => ?_
  rw [len_inc, l2] at hi
  rw [getD_inc (by omega), mirS_at l1 hi, getD_inc (by omega), mirS_at hl hi]
  by_cases e : i = R - 1 - k
  · rw [if_pos e, if_pos (by omega)]; omega
  · rw [if_neg e, if_neg (by omega)]; omega
theorem ownC_mir {R k : Nat} (h : k < R) : ownC R (R - 1 - k) = - ownC R k := by
  unfold ownC
  repeat' split
  all_goals omega
theorem next_mir {R : Nat} {m : Int} {s o : Sta} {c : Int} {k : Nat} (hl : s.length = R) (hs : s.Pairwise (· ≥ ·)) (h : (k, o) ∈ nextS s c) : (R - 1 - k, mirS m s) ∈ nextS (mirS m o) (-c) := by
  obtain ⟨m1, m2, m3, m4⟩ := mem_nextS.mp h
  subst m4
  have l1 : (incS s k).length = R := by rw [len_inc, hl]
  rw [mem_nextS, mirS_len, l1]
  refine ⟨by omega, ?_, ?_, (mirS_inc hl (by omega)).symm⟩
  · rcases Nat.lt_or_ge (k + 1) R with q | q
    · refine .inr ?_
      rw [mirS_at l1 (by omega), mirS_at l1 (by omega), getD_inc m1, getD_inc m1, if_pos (by omega), if_neg (by omega)]
      have := desc_at hs (i := k) (j := k + 1) (by omega) (by omega)
      rw [show R - 1 - (R - 1 - k) = k by omega, show R - 1 - (R - 1 - k - 1) = k + 1 by omega]
      omega
    · exact .inl (by omega)
  · rw [ownC_mir (by omega), ← m3, hl]
theorem rk_app : ∀ {a : List Int} {s : Sta} {ks : List Nat} {b : List Int} {js : List Nat}, rkOk a s ks → rkOk b (endK s ks) js → rkOk (a ++ b) s (ks ++ js)
  | [], _, [], _, _, _, h => h
  | _ :: _, s, k :: ks, _, _, ⟨h1, h2⟩, h => ⟨h1, rk_app h2 h⟩
  | [], _, _ :: _, _, _, h, _ => h.elim
  | _ :: _, _, [], _, _, h, _ => h.elim
theorem next_srt {s o : Sta} {c : Int} {k : Nat} (hs : s.Pairwise (· ≥ ·)) (h : (k, o) ∈ nextS s c) : o.Pairwise (· ≥ ·) ∧ o.length = s.length := by
  obtain ⟨m1, m2, _, m4⟩ := mem_nextS.mp h
  rw [m4]
  exact ⟨inc_pair hs m1 m2, len_inc⟩
theorem endK_app (s : Sta) (a b : List Nat) : endK s (a ++ b) = endK (endK s a) b := by unfold endK; rw [List.foldl_append]
theorem mirK_cons (R k : Nat) (ks : List Nat) : mirK R (k :: ks) = mirK R ks ++ [R - 1 - k] := by simp [mirK]
theorem rk_mir {R : Nat} {m : Int} : ∀ {cs : List Int} {s : Sta} {ks : List Nat}, s.length = R → s.Pairwise (· ≥ ·) → rkOk cs s ks → rkOk (mirC cs) (mirS m (endK s ks)) (mirK R ks) ∧ endK (mirS m (endK s ks)) (mirK R ks) = mirS m s
  | [], s, [], hl, hs, _ => ⟨trivial, rfl⟩
  | c :: cs, s, k :: ks, hl, hs, ⟨h1, h2⟩ => by
    obtain ⟨a, b⟩ := next_srt hs h1
    obtain ⟨i1, i2⟩ := rk_mir (m := m) (b.trans hl) a h2
    have e : endK s (k :: ks) = endK (incS s k) ks := rfl
    have n := next_mir (m := m) hl hs h1
    rw [e, mirK_cons, show mirC (c :: cs) = mirC cs ++ [-c] by simp [mirC]]
    have e2 := (mem_nextS.mp n).2.2.2
    refine ⟨rk_app i1 ⟨?_, trivial⟩, ?_⟩
    · rw [i2, ← e2]; exact n
    · rw [endK_app, i2]
      show incS (mirS m (incS s k)) (R - 1 - k) = _
      exact e2.symm
  | [], _, _ :: _, _, _, h => h.elim
  | _ :: _, _, [], _, _, h => h.elim
theorem rk_lay {R : Nat} {cs : List Int} {ks : List Nat} (h : rkOk cs (zeroS R) ks) : endK (zeroS R) ks ∈ layS R cs := by
  obtain ⟨w, e⟩ := rk_walk0 h
  rw [e]
  exact (walk_lay _ _ rfl w).2
structure Cl (R : Nat) (m : Int) (cs : List Int) : Prop where
  R1 : 1 ≤ R
  chg : ∀ c ∈ cs, -1 ≤ c ∧ c ≤ 1
  at_ : flatS R m ∈ layS R cs
  all : ∀ t ∈ layS R cs, t = flatS R m
theorem flatS_len (R : Nat) (m : Int) : (flatS R m).length = R := by simp [flatS]
theorem flatS_at {R i : Nat} {m : Int} (h : i < R) : (flatS R m).getD i 0 = m := by
  unfold flatS
  rw [List.getD_eq_getElem?_getD, List.getElem?_replicate, if_pos h]; rfl
theorem Cl.of {R : Nat} {m : Int} {cs : List Int} (R1 : 1 ≤ R) (hc : ∀ c ∈ cs, -1 ≤ c ∧ c ≤ 1) (h : flatS R m ∈ layS R cs) : Cl R m cs := by
  refine ⟨R1, hc, h, fun t ht => ?_⟩
  have g := good_lay R1 _ _ h
  have g2 := good_lay R1 _ _ ht
  have s2 := lay_srt R1 ht
  refine ext_at (by rw [g2.len, flatS_len]) fun i hi => ?_
  rw [g2.len] at hi
  rw [flatS_at hi]
  rcases Nat.lt_or_ge 1 R with q | q
  · have a := g.fst q
    have b := g.lst q
    rw [flatS_at (by omega)] at a b
    have c := g2.fst q
    have d := g2.lst q
    have e := desc_at s2 (i := 0) (j := i) (by omega) (by rw [g2.len]; exact hi)
    have f := desc_at s2 (i := i) (j := R - 1) (by omega) (by rw [g2.len]; omega)
    omega
  · have e : R = 1 := by omega
    subst e
    have a := g.sum
    have b := g2.sum
    obtain ⟨x, rfl⟩ := List.length_eq_one_iff.mp g2.len
    have e2 : i = 0 := by omega
    subst e2
    simp [flatS] at a b ⊢
    omega
theorem Cl.rk {R : Nat} {m : Int} {cs : List Int} (h : Cl R m cs) {ks : List Nat} (h1 : rkOk cs (zeroS R) ks) : rkOk (mirC cs) (zeroS R) (mirK R ks) := by
  obtain ⟨a, _⟩ := rk_mir (m := m) (StK.zero R).len (StK.zero R).pw h1
  rw [h.all _ (rk_lay h1), mirS_flat] at a
  exact a
end Lw
namespace Lw
open PySem L2 Ds
def allK : List Int → Sta → List (List Nat)
  | [], _ => [[]]
  | c :: cs, s => (nextS s c).flatMap fun p => (allK cs p.2).map (p.1 :: ·)
def mirP (m : Int) (ps : List Int) : List Int := ps.map fun x => m - x
def contR (rs : List (Int × Int)) : List (Int × Int) := (rs.map fun p => (-p.1, p.2)).reverse
theorem Cl.same {R : Nat} {m : Int} {cs : List Int} (h : Cl R m cs) : cntC 1 cs = cntC (-1) cs := by
  have g := good_lay h.R1 _ _ h.at_
  rcases Nat.lt_or_ge 1 R with q | q
  · have a := g.fst q
    have b := g.lst q
    rw [flatS_at (by omega)] at a b
    omega
  · have R1 := h.R1
    obtain ⟨a, b⟩ := g.one (by omega)
    omega
theorem Cl.len {R : Nat} {m : Int} {cs : List Int} (h : Cl R m cs) : (cs.length : Int) = R * m := by
  have g := (good_lay h.R1 _ _ h.at_).sum
  unfold flatS at g
  rw [List.sum_replicate_int] at g
  exact g.symm
theorem Cl.ne {R : Nat} {m : Int} {cs : List Int} (h : Cl R m cs) : layS R cs ≠ [] := List.ne_nil_of_mem h.at_
end Lw
namespace Lw
open PySem L2 Ds
def wtK : Sta → List Nat → Int
  | _, [] => 1
  | s, k :: ks => wgS true s k * wtK (incS s k) ks
def endsK (R : Nat) (cs : List Int) : List Sta := ((allK cs (zeroS R)).map (endK (zeroS R))).foldl addNew []
end Lw
namespace Lw
open PySem L2 Ds
def allC : Nat → List (List Int)
  | 0 => [[]]
  | n + 1 => (allC n).flatMap fun cs => [cs ++ [1], cs ++ [0], cs ++ [-1]]
def partsL : Nat → Nat → Nat → List Sta
  | t, 0, _ => if t = 0 then [[]] else []
  | t, r + 1, m => (List.range (min t m + 1)).flatMap fun f => (partsL (t - f) r f).map fun s => (f : Int) :: s
def hookR (e : Int) (rest : List Int) (c : Nat) : Int := e - (c : Nat) + ((rest.filter fun x => decide (((c : Nat) : Int) < x)).length : Nat)
def rowF (acc e : Int) (rest : List Int) (n : Nat) : Int := (List.range n).foldl (fun (a : Int) (c : Nat) => a * hookR e rest c) acc
def hookF : Int → List Int → Int
  | acc, [] => acc
  | acc, e :: rest => hookF (rowF acc e rest e.toNat) rest
def factF (n : Nat) : Int := (List.range n).foldl (fun (a : Int) (c : Nat) => a * ((c : Int) + 2)) 1
def factI (n : Int) : Int := factF (n - 1).toNat
def wordsS (s : Sta) : Int := factI s.sum / hookF 1 s
theorem rowF_succ (acc e : Int) (rest : List Int) (n : Nat) : rowF acc e rest (n + 1) = rowF acc e rest n * hookR e rest n := by unfold rowF; rw [List.range_succ, List.foldl_append]; rfl
theorem factF_succ (n : Nat) : factF (n + 1) = factF n * ((n : Int) + 2) := by unfold factF; rw [List.range_succ, List.foldl_append]; rfl
end Lw
namespace Lw
open PySem L2 Ds
def pz (z : Int) : List Int → Int
  | [] => 1
  | y :: m => (z - y) * pz z m
def dl : List Int → Int
  | [] => 1
  | y :: m => pz y m * dl m
def Dd (φ : List Int → Int) : List Int → Int
  | [] => 0
  | y :: m => y * φ ((y - 1) :: m) + Dd (fun t => φ (y :: t)) m
def Ez (z : Int) (φ : List Int → Int) : List Int → Int
  | [] => 0
  | y :: m => y * pz z m * φ ((y - 1) :: m) + (z - y) * Ez z (fun t => φ (y :: t)) m
theorem Ez_mul (z c : Int) : ∀ (m : List Int) (φ : List Int → Int), Ez z (fun t => c * φ t) m = c * Ez z φ m
  | [], φ => by simp [Ez]
  | y :: m, φ => by
    simp only [Ez]
    rw [Ez_mul z c m fun t => φ (y :: t)]
    grind
theorem Dd_mul (c : Int) : ∀ (m : List Int) (φ : List Int → Int), Dd (fun t => c * φ t) m = c * Dd φ m
  | [], φ => by simp [Dd]
  | y :: m, φ => by
    simp only [Dd]
    rw [Dd_mul c m fun t => φ (y :: t)]
    grind
theorem Ez_pz (z y : Int) : ∀ (m : List Int) (ψ : List Int → Int), (z - y) * Ez z (fun t => pz y t * ψ t) m = (z - y - 1) * pz y m * Ez z ψ m + pz z m * Ez y ψ m
  | [], ψ => by simp [Ez]
  | w :: m, ψ => by
    have ih := Ez_pz z y m fun t => ψ (w :: t)
    have e : Ez z (fun t => pz y (w :: t) * ψ (w :: t)) m = (y - w) * Ez z (fun t => pz y t * ψ (w :: t)) m := by
      rw [← Ez_mul]
      congr 1
      funext t
      simp only [pz]
      grind
    simp only [Ez, e]
    simp only [pz]
    generalize Ez z (fun t => pz y t * ψ (w :: t)) m = A at ih ⊢
    generalize Ez z (fun t => ψ (w :: t)) m = B at ih ⊢
    generalize Ez y (fun t => ψ (w :: t)) m = C at ih ⊢
    generalize ψ ((w - 1) :: m) = F
    generalize pz y m = p at ih ⊢
    generalize pz z m = q at ih ⊢
    grind
theorem Dd_pz (y : Int) : ∀ (m : List Int) (ψ : List Int → Int), Dd (fun t => pz y t * ψ t) m = pz y m * Dd ψ m + Ez y ψ m
  | [], ψ => by simp [Dd, Ez]
  | w :: m, ψ => by
    have ih := Dd_pz y m fun t => ψ (w :: t)
    have e : Dd (fun t => pz y (w :: t) * ψ (w :: t)) m = (y - w) * Dd (fun t => pz y t * ψ (w :: t)) m := by
      rw [← Dd_mul]
      congr 1
      funext t
      simp only [pz]
      grind
    simp only [Dd, Ez, e, ih]
    simp only [pz]
    grind
theorem Ez_dl (z : Int) : ∀ m : List Int, Ez z dl m = ((z - (m.length : Int)) * pz z m - z * pz (z - 1) m) * dl m
  | [] => by simp [Ez, pz, dl]
  | y :: m => by
    have i1 := Ez_dl z m
    have i2 := Ez_dl y m
    have k := Ez_pz z y m dl
    have e : Ez z (fun t => dl (y :: t)) m = Ez z (fun t => pz y t * dl t) m := rfl
    simp only [Ez, e, k]
    rw [i1, i2]
    simp only [pz, dl, List.length_cons]
    push_cast
    generalize pz z m = a
    generalize pz y m = b
    generalize pz (z - 1) m = c
    generalize pz (y - 1) m = d
    generalize dl m = D
    generalize (m.length : Int) = n
    grind
termination_by m => m.length
def triI : Nat → Int
  | 0 => 0
  | n + 1 => triI n + n
theorem Dd_dl : ∀ m : List Int, Dd dl m = (m.sum - triI m.length) * dl m
  | [] => by simp [Dd, triI]
  | y :: m => by
    have ih := Dd_dl m
    have k := Dd_pz y m dl
    have i2 := Ez_dl y m
    have e : Dd (fun t => dl (y :: t)) m = Dd (fun t => pz y t * dl t) m := rfl
    simp only [Dd, e, k]
    rw [ih, i2]
    simp only [pz, dl, List.length_cons, List.sum_cons, triI]
    generalize pz y m = b
    generalize pz (y - 1) m = d
    generalize dl m = D
    generalize m.sum = S
    generalize triI m.length = tr
    generalize (m.length : Int) = n
    grind
theorem Dd_at : ∀ (m : List Int) (φ : List Int → Int), Dd φ m = ((List.range m.length).map fun i => m.getD i 0 * φ (m.set i (m.getD i 0 - 1))).sum
  | [], φ => rfl
  | y :: m, φ => by
    rw [List.length_cons, List.range_succ_eq_map, List.map_cons, List.sum_cons, List.map_map]
    simp only [Dd]
    rw [Dd_at m]
    rfl
theorem pz_zero {z : Int} : ∀ {m : List Int}, z ∈ m → pz z m = 0
  | [], h => by simp at h
  | y :: m, h => by
    simp only [pz]
    rcases List.mem_cons.mp h with rfl | h
    · simp
    · rw [pz_zero h]; simp
theorem dl_zero : ∀ {m : List Int} {i j : Nat} {x : Int}, i < j → m[i]? = some x → m[j]? = some x → dl m = 0
  | [], _, _, _, _, h, _ => by simp at h
  | y :: m, 0, j + 1, x, _, h1, h2 => by
    have e : y = x := by simpa using h1
    subst e
    simp only [dl]
    rw [pz_zero (List.mem_of_getElem? (show m[j]? = some y by simpa using h2))]; simp
  | y :: m, i + 1, j + 1, x, h, h1, h2 => by
    simp only [dl]
    rw [dl_zero (m := m) (i := i) (j := j) (x := x) (by omega) (by simpa using h1) (by simpa using h2)]; simp
def lw : List Int → List Int
  | [] => []
  | e :: rest => (e + (rest.length : Int)) :: lw rest
theorem lw_len : ∀ s : List Int, (lw s).length = s.length
  | [] => rfl
  | e :: s => by simp [lw, lw_len s]
theorem lw_sum : ∀ s : List Int, (lw s).sum = s.sum + triI s.length
  | [] => rfl
  | e :: s => by
    have := lw_sum s
    simp only [lw, List.sum_cons, List.length_cons, triI]
    omega
theorem lw_at : ∀ {s : List Int} {i : Nat}, i < s.length → (lw s).getD i 0 = s.getD i 0 + ((s.length : Int) - 1 - i)
  | [], _, h => by simp at h
  | e :: s, 0, _ => by simp [lw]
  | e :: s, i + 1, h => by
    have := lw_at (s := s) (i := i) (by simpa using h)
    simp only [lw, List.getD_cons_succ, List.length_cons]
    omega
theorem lw_set : ∀ {s : List Int} {i : Nat} (d : Int), i < s.length → lw (s.set i (s.getD i 0 - d)) = (lw s).set i ((lw s).getD i 0 - d)
  | [], _, _, h => by simp at h
  | e :: s, 0, d, _ => by
    simp only [lw, List.set_cons_zero, List.getD_cons_zero]
    congr 1
    omega
  | e :: s, i + 1, d, h => by
    have := lw_set (s := s) (i := i) d (by simpa using h)
    simp only [lw, List.set_cons_succ, List.getD_cons_succ, List.length_set]
    rw [this]
theorem lw_app : ∀ (s : List Int) (r : Int), lw (s ++ [r]) = (lw s).map (· + 1) ++ [r]
  | [], r => by simp [lw]
  | e :: s, r => by
    simp only [lw, List.cons_append, List.map_cons, lw_app s r, List.length_append, List.length_singleton]
    congr 1
    push_cast; omega
theorem pz_app (z : Int) : ∀ (m : List Int) (r : Int), pz z (m ++ [r]) = pz z m * (z - r)
  | [], r => by simp [pz]
  | y :: m, r => by simp only [List.cons_append, pz, pz_app z m r]; grind
theorem pz_one (z : Int) : ∀ m : List Int, pz z (m.map (· + 1)) = pz (z - 1) m
  | [] => rfl
  | y :: m => by
    simp only [List.map_cons, pz, pz_one z m]
    rw [show z - (y + 1) = z - 1 - y by omega]
def fct : Nat → Int
  | 0 => 1
  | n + 1 => fct n * (n + 1)
theorem fct_pos : ∀ n : Nat, 0 < fct n
  | 0 => by decide
  | n + 1 => by
    have := fct_pos n
    exact Int.mul_pos this (by omega)
theorem factF_fct : ∀ n : Nat, factF n = fct (n + 1)
  | 0 => rfl
  | n + 1 => by
    rw [factF_succ, factF_fct n]
    show fct (n + 1) * _ = fct (n + 1) * _
    congr 1
theorem factI_fct {n : Nat} : factI (n : Int) = fct n := by
  cases n with
  | zero => rfl
  | succ n =>
    unfold factI
    rw [show ((n + 1 : Nat) : Int) - 1 = (n : Nat) by push_cast; omega, Int.toNat_natCast, factF_fct]
theorem rowF_mul (a e : Int) (rest : List Int) : ∀ n : Nat, rowF a e rest n = a * rowF 1 e rest n
  | 0 => by simp [rowF]
  | n + 1 => by rw [rowF_succ, rowF_succ, rowF_mul a e rest n]; grind
theorem hookF_mul : ∀ (s : List Int) (a : Int), hookF a s = a * hookF 1 s
  | [], a => by simp [hookF]
  | e :: rest, a => by
    simp only [hookF]
    rw [hookF_mul rest (rowF a _ _ _), hookF_mul rest (rowF 1 _ _ _), rowF_mul a]
    grind
theorem hookF_cons (e : Int) (rest : List Int) : hookF 1 (e :: rest) = rowF 1 e rest e.toNat * hookF 1 rest := by
  simp only [hookF]; rw [hookF_mul]
theorem hookR_lt {e : Int} {rest : List Int} {c : Nat} (h : ∀ x ∈ rest, ((c : Nat) : Int) < x) : hookR e rest c = e - c + rest.length := by
  unfold hookR
  rw [List.filter_eq_self.mpr fun x hx => decide_eq_true (h x hx)]
theorem hookR_app {e r : Int} {rest : List Int} {c : Nat} : hookR e (rest ++ [r]) c = hookR e rest c + (if ((c : Nat) : Int) < r then 1 else 0) := by
  unfold hookR
  rw [List.filter_append, List.length_append]
  by_cases h : ((c : Nat) : Int) < r
  · simp [h]; omega
  · simp [h]
theorem rowF_app {e r : Int} {rest : List Int} (h : ∀ x ∈ rest, r ≤ x) (r0 : 0 ≤ r) : ∀ n : Nat,
    ((n : Int) ≤ r → rowF 1 e (rest ++ [r]) n * (e - n + rest.length + 1) = rowF 1 e rest n * (e + rest.length + 1)) ∧ (r ≤ n → rowF 1 e (rest ++ [r]) n * (e - r + rest.length + 1) = rowF 1 e rest n * (e + rest.length + 1))
  | 0 => by
    refine ⟨fun _ => ?_, fun h0 => ?_⟩
    · simp [rowF]
    · have : r = 0 := by have : r ≤ ((0 : Nat) : Int) := h0; omega
      subst this
      simp [rowF]
  | n + 1 => by
    obtain ⟨i1, i2⟩ := rowF_app (e := e) h r0 n
    have key : ((n : Int) < r) → rowF 1 e (rest ++ [r]) (n + 1) * (e - ((n + 1 : Nat) : Int) + rest.length + 1) = rowF 1 e rest (n + 1) * (e + rest.length + 1) := fun hn => by
      have i1 := i1 (by omega)
      have g := hookR_lt (e := e) (rest := rest) (c := n) fun x hx => by have := h x hx; omega
      rw [rowF_succ, rowF_succ, hookR_app, if_pos hn, g]
      push_cast
      generalize rowF 1 e (rest ++ [r]) n = A at i1 ⊢
      generalize rowF 1 e rest n = B at i1 ⊢
      generalize (rest.length : Int) = L at i1 ⊢
      generalize (n : Int) = N at i1 ⊢
      have : A * (e - N + L + 1) * (e - N + L) = B * (e + L + 1) * (e - N + L) := by rw [i1]
      grind
    refine ⟨fun hn => key (by omega), fun hn => ?_⟩
    by_cases e1 : (n : Int) < r
    · have er : r = ((n + 1 : Nat) : Int) := by omega
      have := key e1
      rw [← er] at this
      exact this
    · have i2 := i2 (by omega)
      rw [rowF_succ, rowF_succ, hookR_app, if_neg e1]
      generalize hookR e rest n = q
      generalize rowF 1 e (rest ++ [r]) n = A at i2 ⊢
      generalize rowF 1 e rest n = B at i2 ⊢
      generalize (rest.length : Int) = L at i2 ⊢
      have : A * (e - r + L + 1) * q = B * (e + L + 1) * q := by rw [i2]
      grind
theorem rowF_nil (e : Nat) : ∀ n : Nat, n ≤ e → rowF 1 (e : Int) [] n * fct (e - n) = fct e
  | 0, _ => by simp [rowF]
  | n + 1, h => by
    have ih := rowF_nil e n (by omega)
    obtain ⟨m, hm⟩ : ∃ m, e - n = m + 1 := ⟨e - n - 1, by omega⟩
    have e2 : e - (n + 1) = m := by omega
    rw [hm] at ih
    rw [e2, rowF_succ]
    have e3 : hookR (e : Int) [] n = (m : Int) + 1 := by
      unfold hookR
      simp; omega
    rw [e3, ← ih]
    show _ = rowF 1 (e : Int) [] n * (fct m * ((m : Int) + 1))
    grind
theorem row_prod (e : Nat) : ∀ (k : Nat) (rest : List Int), rest.length = k → rest.Pairwise (· ≥ ·) → (∀ x ∈ rest, 0 ≤ x ∧ x ≤ (e : Int)) → rowF 1 (e : Int) rest e * pz ((e : Int) + k) (lw rest) = fct (e + k)
  | 0, rest, hl, _, _ => by
    have : rest = [] := List.length_eq_zero_iff.mp hl
    subst this
    have := rowF_nil e e (Nat.le_refl _)
    rw [Nat.sub_self] at this
    simp only [lw, pz, Nat.add_zero]
    rw [← this]; simp [fct]
  | k + 1, rest, hl, hs, hb => by
    obtain ⟨r0, r, rfl⟩ : ∃ r0 r, rest = r0 ++ [r] := by
      rcases List.eq_nil_or_concat rest with h | ⟨a, b, h⟩
      · rw [h] at hl; simp at hl
      · exact ⟨a, b, by rw [h, List.concat_eq_append]⟩
    have l0 : r0.length = k := by simpa using hl
    obtain ⟨s1, _, s3⟩ := List.pairwise_append.mp hs
    have br := hb r (by simp)
    have ih := row_prod e k r0 l0 s1 fun x hx => hb x (by simp [hx])
    have ap := (rowF_app (e := (e : Int)) (r := r) (rest := r0) (fun x hx => s3 x hx r (by simp)) br.1 e).2 br.2
    rw [lw_app, pz_app, pz_one, show ((e : Int) + ((k + 1 : Nat) : Int) - 1) = (e : Int) + k by push_cast; omega]
    rw [l0] at ap
    have ef : fct (e + (k + 1)) = fct (e + k) * ((e : Int) + k + 1) := by
      show fct (e + k) * (((e + k : Nat) : Int) + 1) = _
      push_cast; rfl
    rw [ef, ← ih]
    push_cast
    generalize pz ((e : Int) + (k : Int)) (lw r0) = P
    generalize rowF 1 (e : Int) (r0 ++ [r]) e = A at ap ⊢
    generalize rowF 1 (e : Int) r0 e = B at ap ⊢
    have : A * ((e : Int) - r + k + 1) * P = B * ((e : Int) + k + 1) * P := by rw [ap]
    grind
def lf : List Int → Int
  | [] => 1
  | x :: m => fct x.toNat * lf m
theorem hook_prod : ∀ s : List Int, s.Pairwise (· ≥ ·) → (∀ x ∈ s, 0 ≤ x) → hookF 1 s * dl (lw s) = lf (lw s)
  | [], _, _ => rfl
  | e :: rest, hs, h0 => by
    obtain ⟨h1, h2⟩ := List.pairwise_cons.mp hs
    have ih := hook_prod rest h2 fun x hx => h0 x (by simp [hx])
    have e0 := h0 e (by simp)
    obtain ⟨n, rfl⟩ : ∃ n : Nat, e = (n : Int) := ⟨e.toNat, by omega⟩
    have rp := row_prod n rest.length rest rfl h2 fun x hx => ⟨h0 x (by simp [hx]), h1 x hx⟩
    rw [hookF_cons, Int.toNat_natCast]
    simp only [lw, dl, lf]
    rw [← ih, show ((n : Int) + (rest.length : Int)).toNat = n + rest.length by omega, ← rp]
    grind
theorem lf_set : ∀ {m : List Int} {i : Nat}, i < m.length → 1 ≤ m.getD i 0 → lf m = m.getD i 0 * lf (m.set i (m.getD i 0 - 1))
  | [], _, h, _ => by simp at h
  | x :: m, 0, _, h => by
    have h : 1 ≤ x := h
    obtain ⟨n, rfl⟩ : ∃ n : Nat, x = (n : Int) + 1 := ⟨(x - 1).toNat, by omega⟩
    simp only [lf, List.getD_cons_zero, List.set_cons_zero]
    rw [show ((n : Int) + 1).toNat = n + 1 by omega, show ((n : Int) + 1 - 1).toNat = n by omega]
    show fct n * ((n : Int) + 1) * _ = _
    grind
  | x :: m, i + 1, h, h1 => by
    have := lf_set (m := m) (i := i) (by simpa using h) (by simpa using h1)
    simp only [lf, List.getD_cons_succ, List.set_cons_succ]
    rw [this]; grind
theorem pz_pos {z : Int} : ∀ {m : List Int}, (∀ x ∈ m, x < z) → 0 < pz z m
  | [], _ => by simp [pz]
  | y :: m, h => Int.mul_pos (by have := h y (by simp); omega) (pz_pos fun x hx => h x (by simp [hx]))
theorem lw_lt : ∀ {s : List Int} {b : Int}, s.Pairwise (· ≥ ·) → (∀ x ∈ s, x ≤ b) → ∀ y ∈ lw s, y < b + s.length
  | [], _, _, _, y, hy => by simp [lw] at hy
  | e :: rest, b, hs, hb, y, hy => by
    obtain ⟨h1, h2⟩ := List.pairwise_cons.mp hs
    have eb := hb e (by simp)
    rcases List.mem_cons.mp (show y ∈ (e + (rest.length : Int)) :: lw rest from hy) with rfl | hy
    · simp; omega
    · have := lw_lt (s := rest) (b := e) h2 (fun x hx => h1 x hx) y hy
      simp; omega
theorem dl_pos : ∀ {s : List Int}, s.Pairwise (· ≥ ·) → 0 < dl (lw s)
  | [], _ => by decide
  | e :: rest, hs => by
    obtain ⟨h1, h2⟩ := List.pairwise_cons.mp hs
    exact Int.mul_pos (pz_pos fun y hy => lw_lt h2 (fun x hx => h1 x hx) y hy) (dl_pos h2)
def cornB (s : List Int) (i : Nat) : Bool := decide ((s ++ [0]).getD (i + 1) 0 < s.getD i 0)
def lessS (s : List Int) (i : Nat) : List Int := s.set i (s.getD i 0 - 1)
def numN : Nat → List Int → Int
  | 0, _ => 0
  | f + 1, s => (if s.sum = 0 then 1 else 0) + ((List.range s.length).map fun i => if cornB s i then numN f (lessS s i) else 0).sum
theorem getD_z (s : List Int) (j : Nat) : (s ++ [0]).getD j 0 = s.getD j 0 := by
  rw [List.getD_eq_getElem?_getD, List.getD_eq_getElem?_getD, List.getElem?_append]
  split
  · rfl
  · rename_i h
    rw [List.getElem?_eq_none (by omega : s.length ≤ j)]
    by_cases e : j - s.length = 0
    · rw [e]; rfl
    · rw [List.getElem?_eq_none (by simp; omega)]
theorem set_sum : ∀ {s : List Int} {i : Nat} (v : Int), i < s.length → (s.set i v).sum = s.sum - s.getD i 0 + v
  | [], _, _, h => by simp at h
  | x :: s, 0, v, _ => by simp; omega
  | x :: s, i + 1, v, h => by
    have := set_sum (s := s) (i := i) v (by simpa using h)
    simp only [List.set_cons_succ, List.sum_cons, List.getD_cons_succ]
    omega
theorem getD_i {s : List Int} {i : Nat} (h : i < s.length) : s.getD i 0 = s[i] := by rw [List.getD_eq_getElem?_getD, List.getElem?_eq_getElem h]; rfl
theorem srt_i {s : List Int} (hs : s.Pairwise (· ≥ ·)) {i j : Nat} (h : i ≤ j) (hj : j < s.length) : s.getD j 0 ≤ s.getD i 0 := by
  rcases Nat.lt_or_eq_of_le h with h | rfl
  · rw [getD_i hj, getD_i (by omega)]
    exact List.pairwise_iff_getElem.mp hs i j (by omega) hj h
  · exact Int.le_refl _
theorem getD_nn {s : List Int} (h : ∀ x ∈ s, 0 ≤ x) (i : Nat) : 0 ≤ s.getD i 0 := by
  by_cases hi : i < s.length
  · rw [getD_i hi]; exact h _ (List.getElem_mem hi)
  · rw [List.getD_eq_getElem?_getD, List.getElem?_eq_none (by omega)]; exact Int.le_refl _
theorem less_len (s : List Int) (i : Nat) : (lessS s i).length = s.length := List.length_set
theorem less_nn {s : List Int} (h : ∀ x ∈ s, 0 ≤ x) {i : Nat} (c : cornB s i = true) : ∀ x ∈ lessS s i, 0 ≤ x := fun x hx => by
  unfold cornB at c
  rw [getD_z] at c
  have c := of_decide_eq_true c
  have := getD_nn h (i + 1)
  rcases List.mem_or_eq_of_mem_set hx with hx | rfl
  · exact h x hx
  · omega
theorem less_srt {s : List Int} (hs : s.Pairwise (· ≥ ·)) {i : Nat} (hi : i < s.length) (c : cornB s i = true) : (lessS s i).Pairwise (· ≥ ·) := by
  unfold cornB at c
  rw [getD_z] at c
  have c := of_decide_eq_true c
  rw [List.pairwise_iff_getElem]
  intro a b ha hb hab
  unfold lessS at ha hb ⊢
  rw [List.length_set] at ha hb
  rw [List.getElem_set, List.getElem_set]
  have g := List.pairwise_iff_getElem.mp hs
  split
  · rename_i e
    subst e
    rw [if_neg (by omega)]
    have h1 := srt_i hs (show i + 1 ≤ b by omega) hb
    rw [getD_i hb] at h1
    omega
  · split
    · rename_i e
      subst e
      have := g a i ha hb hab
      have e := getD_i hb
      omega
    · exact g a b ha hb hab
theorem hook_zero : ∀ (s : List Int) (a : Int), (∀ x ∈ s, x = 0) → hookF a s = a
  | [], _, _ => rfl
  | e :: s, a, h => by
    have : e = 0 := h e (by simp)
    subst this
    exact hook_zero s _ fun x hx => h x (by simp [hx])
theorem sum_nnL : ∀ {s : List Int}, (∀ x ∈ s, 0 ≤ x) → 0 ≤ s.sum ∧ ∀ x ∈ s, x ≤ s.sum
  | [], _ => ⟨Int.le_refl _, fun x hx => by simp at hx⟩
  | y :: s, h => by
    obtain ⟨a, b⟩ := sum_nnL (s := s) fun z hz => h z (by simp [hz])
    have := h y (by simp)
    rw [List.sum_cons]
    refine ⟨by omega, fun x hx => ?_⟩
    rcases List.mem_cons.mp hx with rfl | hx
    · omega
    · have := b x hx; omega
theorem sum_map_mul (c : Int) {α : Type} (f : α → Int) : ∀ l : List α, (l.map f).sum * c = (l.map fun x => f x * c).sum
  | [] => by simp
  | x :: l => by simp only [List.map_cons, List.sum_cons]; rw [← sum_map_mul c f l]; grind
theorem hook_pos {s : List Int} (hs : s.Pairwise (· ≥ ·)) (h0 : ∀ x ∈ s, 0 ≤ x) : hookF 1 s ≠ 0 := fun e => by
  have h := hook_prod s hs h0
  rw [e, Int.zero_mul] at h
  have pos : ∀ m : List Int, 0 < lf m := fun m => by
    induction m with
    | nil => decide
    | cons x m ih => exact Int.mul_pos (fct_pos _) ih
  have := pos (lw s)
  omega
theorem num_hook : ∀ (f : Nat) (s : List Int), s.Pairwise (· ≥ ·) → (∀ x ∈ s, 0 ≤ x) → s.sum < f → numN f s * hookF 1 s = fct s.sum.toNat
  | 0, s, _, h0, h => by have := (sum_nnL h0).1; omega
  | f + 1, s, hs, h0, h => by
    obtain ⟨t0, t1⟩ := sum_nnL h0
    by_cases z : s.sum = 0
    · have az : ∀ x ∈ s, x = 0 := fun x hx => by have := t1 x hx; have := h0 x hx; omega
      have gz : ∀ i, s.getD i 0 = 0 := fun i => by
        by_cases hi : i < s.length
        · rw [getD_i hi]; exact az _ (List.getElem_mem hi)
        · rw [List.getD_eq_getElem?_getD, List.getElem?_eq_none (by omega)]; rfl
      have cz : ∀ i, cornB s i = false := fun i => by unfold cornB; rw [getD_z, gz, gz]; rfl
      have e1 : ((List.range s.length).map fun i => if cornB s i then numN f (lessS s i) else 0) = (List.range s.length).map fun _ => (0 : Int) := List.map_congr_left fun i _ => by rw [cz i]; rfl
      have e2 : ∀ l : List Nat, (l.map fun _ => (0 : Int)).sum = 0 := fun l => by induction l with
        | nil => rfl
        | cons a l ih => simp [ih]
      simp only [numN]
      rw [e1, e2, if_pos z, hook_zero s 1 az, z]; rfl
    · obtain ⟨n, hn⟩ : ∃ n : Nat, s.sum = (n : Int) + 1 := ⟨(s.sum - 1).toNat, by omega⟩
      have hp := hook_prod s hs h0
      have Dp := dl_pos hs
      have key : ∀ i, i < s.length → (if cornB s i then numN f (lessS s i) else 0) * (hookF 1 s * dl (lw s)) = ((lw s).getD i 0 * dl ((lw s).set i ((lw s).getD i 0 - 1))) * fct n := fun i hi => by
        have la := lw_at hi
        have ls := lw_set 1 hi
        have si := getD_nn h0 i
        cases c : cornB s i with
        | true =>
          have tn := less_nn h0 c
          have ts := less_srt hs hi c
          have tsum : (lessS s i).sum = n := by unfold lessS; rw [set_sum _ hi]; omega
          have ih := num_hook f (lessS s i) ts tn (by omega)
          have hp2 := hook_prod (lessS s i) ts tn
          rw [show lw (lessS s i) = (lw s).set i ((lw s).getD i 0 - 1) from ls] at hp2
          have c2 := c
          unfold cornB at c2
          rw [getD_z] at c2
          have c2 := of_decide_eq_true c2
          have := getD_nn h0 (i + 1)
          have fs := lf_set (m := lw s) (i := i) (by rw [lw_len]; exact hi) (by omega)
          rw [tsum, Int.toNat_natCast] at ih
          rw [if_pos rfl, hp, fs, ← hp2, ← ih]
          grind
        | false =>
          unfold cornB at c
          rw [getD_z] at c
          have c := of_decide_eq_false c
          have zr : (lw s).getD i 0 * dl ((lw s).set i ((lw s).getD i 0 - 1)) = 0 := by
            by_cases e : i + 1 < s.length
            · have s1 := srt_i hs (show i ≤ i + 1 by omega) e
              have lb := lw_at e
              have : dl ((lw s).set i ((lw s).getD i 0 - 1)) = 0 := dl_zero (i := i) (j := i + 1) (x := (lw s).getD i 0 - 1) (by omega) (by rw [List.getElem?_set_self (by rw [lw_len]; exact hi)]) (by
                rw [List.getElem?_set_ne (by omega)]
                have l1 : i + 1 < (lw s).length := by rw [lw_len]; exact e
                rw [List.getElem?_eq_getElem l1, ← getD_i l1]
                congr 1
                omega)
              rw [this]; simp
            · have e0 : s.getD (i + 1) 0 = 0 := by rw [List.getD_eq_getElem?_getD, List.getElem?_eq_none (by omega)]; rfl
              have : (lw s).getD i 0 = 0 := by omega
              rw [this]; simp
          rw [zr, if_neg (by decide)]; simp
      have tot : numN (f + 1) s * (hookF 1 s * dl (lw s)) = fct (n + 1) * dl (lw s) := by
        simp only [numN]
        rw [if_neg z, Int.zero_add, sum_map_mul]
        have e1 : ((List.range s.length).map fun i => (if cornB s i then numN f (lessS s i) else 0) * (hookF 1 s * dl (lw s))) = (List.range s.length).map fun i => ((lw s).getD i 0 * dl ((lw s).set i ((lw s).getD i 0 - 1))) * fct n := List.map_congr_left fun i hi => key i (List.mem_range.mp hi)
        rw [e1, ← sum_map_mul]
        have e2 := Dd_at (lw s) dl
        rw [lw_len] at e2
        rw [← e2, Dd_dl, lw_len, lw_sum, hn]
        show _ = fct n * ((n : Int) + 1) * _
        grind
      rw [hn, show ((n : Int) + 1).toNat = n + 1 by omega]
      have : (numN (f + 1) s * hookF 1 s) * dl (lw s) = fct (n + 1) * dl (lw s) := by rw [Int.mul_assoc]; exact tot
      exact Int.eq_of_mul_eq_mul_right (by omega) this
theorem words_num {s : List Int} (hs : s.Pairwise (· ≥ ·)) (h0 : ∀ x ∈ s, 0 ≤ x) {f : Nat} (h : s.sum < f) : numN f s = wordsS s ∧ wordsS s * hookF 1 s = fct s.sum.toNat := by
  have k := num_hook f s hs h0 h
  have t0 := (sum_nnL h0).1
  have e : wordsS s = numN f s := by
    unfold wordsS
    obtain ⟨n, hn⟩ : ∃ n : Nat, s.sum = (n : Int) := ⟨s.sum.toNat, by omega⟩
    rw [hn, Int.toNat_natCast] at k
    rw [hn, factI_fct, ← k]
    exact Int.mul_ediv_cancel _ (hook_pos hs h0)
  exact ⟨e.symm, by rw [e]; exact k⟩
theorem words_rec {s : List Int} (hs : s.Pairwise (· ≥ ·)) (h0 : ∀ x ∈ s, 0 ≤ x) : wordsS s = (if s.sum = 0 then 1 else 0) + ((List.range s.length).map fun i => if cornB s i then wordsS (lessS s i) else 0).sum := by
  have t0 := (sum_nnL h0).1
  have k := (words_num hs h0 (f := s.sum.toNat + 1) (by omega)).1
  rw [← k]
  simp only [numN]
  congr 2
  refine List.map_congr_left fun i hi => ?_
  have hi := List.mem_range.mp hi
  by_cases c : cornB s i = true
  · rw [if_pos c, if_pos c]
    refine (words_num (less_srt hs hi c) (less_nn h0 c) ?_).1
    have c2 := c
    unfold cornB at c2
    rw [getD_z] at c2
    have c2 := of_decide_eq_true c2
    have := getD_nn h0 (i + 1)
    have t1 := (sum_nnL h0).2 _ (show s.getD i 0 ∈ s by rw [getD_i hi]; exact List.getElem_mem hi)
    unfold lessS
    rw [set_sum _ hi]; omega
  · rw [if_neg c, if_neg c]
end Lw
namespace Lw
open PySem L2 Ds
def prodR : Nat → (Nat → Int) → Int
  | 0, _ => 1
  | n + 1, g => prodR n g * g n
theorem prodR_congr : ∀ {n : Nat} {g h : Nat → Int}, (∀ i, i < n → g i = h i) → prodR n g = prodR n h
  | 0, _, _, _ => rfl
  | n + 1, g, h, e => by simp only [prodR]; rw [prodR_congr fun i hi => e i (by omega), e n (by omega)]
theorem prodR_mul : ∀ (n : Nat) (g h : Nat → Int), prodR n (fun i => g i * h i) = prodR n g * prodR n h
  | 0, _, _ => rfl
  | n + 1, g, h => by simp only [prodR]; rw [prodR_mul n g h]; grind
theorem prodR_one : ∀ n : Nat, prodR n (fun _ => 1) = 1
  | 0 => rfl
  | n + 1 => by simp only [prodR]; rw [prodR_one n]; rfl
theorem prodR_swap : ∀ (a b : Nat) (g : Nat → Nat → Int), prodR a (fun i => prodR b (fun c => g i c)) = prodR b (fun c => prodR a (fun i => g i c))
  | 0, b, g => by simp only [prodR]; rw [prodR_one]
  | a + 1, b, g => by simp only [prodR]; rw [prodR_swap a b g, prodR_mul]
theorem prodR_front : ∀ (n : Nat) (g : Nat → Int), prodR (n + 1) g = g 0 * prodR n fun i => g (i + 1)
  | 0, g => by simp [prodR]
  | n + 1, g => by
    have := prodR_front n g
    simp only [prodR] at this ⊢
    rw [this]; grind
theorem prodR_if (n : Nat) (g : Nat → Int) : ∀ C : Nat, n ≤ C → prodR C (fun c => if c < n then g c else 1) = prodR n g
  | 0, h => by have : n = 0 := by omega
               subst this; rfl
  | C + 1, h => by
    by_cases e : n = C + 1
    · subst e
      exact prodR_congr fun i hi => if_pos hi
    · simp only [prodR]
      rw [prodR_if n g C (by omega), if_neg (by omega), Int.mul_one]
theorem rowF_prod (e : Int) (rest : List Int) : ∀ n : Nat, rowF 1 e rest n = prodR n fun c => hookR e rest c
  | 0 => rfl
  | n + 1 => by rw [rowF_succ, rowF_prod e rest n]; rfl
def cntS (s : List Int) (c : Nat) : Nat := (s.filter fun x => decide (((c : Nat) : Int) < x)).length
theorem cnt_cons (e : Int) (s : List Int) (c : Nat) : cntS (e :: s) c = (if ((c : Nat) : Int) < e then 1 else 0) + cntS s c := by
  unfold cntS
  rw [List.filter_cons]
  by_cases h : ((c : Nat) : Int) < e
  · simp [h]; omega
  · simp [h]
theorem cnt_lt : ∀ {s : List Int} (c : Nat), s.Pairwise (· ≥ ·) → ∀ i : Nat, i < s.length → (i < cntS s c ↔ ((c : Nat) : Int) < s.getD i 0)
  | [], _, _, _, h => by simp at h
  | e :: s, c, hs, i, hi => by
    obtain ⟨h1, h2⟩ := List.pairwise_cons.mp hs
    rw [cnt_cons]
    cases i with
    | zero =>
      show 0 < _ ↔ ((c : Nat) : Int) < e
      by_cases h : ((c : Nat) : Int) < e
      · rw [if_pos h]; exact iff_of_true (by omega) h
      · rw [if_neg h]
        have : cntS s c = 0 := by
          unfold cntS
          rw [List.filter_eq_nil_iff.mpr fun x hx => by have := h1 x hx; simp; omega]; rfl
        exact iff_of_false (by omega) h
    | succ i =>
      have ih := cnt_lt (s := s) c h2 i (by simpa using hi)
      show _ ↔ ((c : Nat) : Int) < s.getD i 0
      by_cases h : ((c : Nat) : Int) < e
      · rw [if_pos h, ← ih]; omega
      · rw [if_neg h]
        have : cntS s c = 0 := by
          unfold cntS
          rw [List.filter_eq_nil_iff.mpr fun x hx => by have := h1 x hx; simp; omega]; rfl
        have g : s.getD i 0 ≤ e := by
          rw [getD_i (by simpa using hi)]; exact h1 _ (List.getElem_mem _)
        exact iff_of_false (by omega) (by omega)
theorem cnt_le (s : List Int) (c : Nat) : cntS s c ≤ s.length := List.length_filter_le _ _
def cellK (s : List Int) (i c : Nat) : Int := if ((c : Nat) : Int) < s.getD i 0 then s.getD i 0 - (c : Nat) + (cntS s c : Nat) - (i : Nat) - 1 else 1
theorem hook_cells {C : Nat} : ∀ {s : List Int}, s.Pairwise (· ≥ ·) → (∀ x ∈ s, 0 ≤ x ∧ x ≤ (C : Int)) → hookF 1 s = prodR s.length fun i => prodR C fun c => cellK s i c
  | [], _, _ => rfl
  | e :: s, hs, hb => by
    obtain ⟨h1, h2⟩ := List.pairwise_cons.mp hs
    obtain ⟨e0, e1⟩ := hb e (by simp)
    have ih := hook_cells (C := C) h2 fun x hx => hb x (by simp [hx])
    rw [hookF_cons, List.length_cons, prodR_front, ih]
    congr 1
    · rw [rowF_prod, ← prodR_if e.toNat _ C (by omega)]
      refine prodR_congr fun c _ => ?_
      unfold cellK
      rw [cnt_cons]
      show _ = if ((c : Nat) : Int) < e then e - (c : Nat) + _ - _ - 1 else 1
      by_cases h : ((c : Nat) : Int) < e
      · rw [if_pos (by omega), if_pos h, if_pos h]
        unfold hookR cntS
        push_cast; omega
      · rw [if_neg (by omega), if_neg h]
    · refine prodR_congr fun i hi => prodR_congr fun c _ => ?_
      unfold cellK
      rw [cnt_cons]
      show (if ((c : Nat) : Int) < s.getD i 0 then s.getD i 0 - (c : Nat) + _ - _ - 1 else 1) = if ((c : Nat) : Int) < s.getD i 0 then s.getD i 0 - (c : Nat) + _ - _ - 1 else 1
      by_cases h : ((c : Nat) : Int) < s.getD i 0
      · have g : s.getD i 0 ≤ e := by rw [getD_i hi]; exact h1 _ (List.getElem_mem _)
        rw [if_pos h, if_pos h, if_pos (by omega)]
        push_cast; omega
      · rw [if_neg h, if_neg h]
def turnS (C : Nat) (s : List Int) : List Int := (List.range C).map fun c => ((cntS s c : Nat) : Int)
theorem turn_len (C : Nat) (s : List Int) : (turnS C s).length = C := by simp [turnS]
theorem turn_at {C : Nat} {s : List Int} {c : Nat} (h : c < C) : (turnS C s).getD c 0 = ((cntS s c : Nat) : Int) := by
  unfold turnS
  rw [List.getD_eq_getElem?_getD, List.getElem?_map, List.getElem?_range h]; rfl
theorem cnt_mono (s : List Int) {c d : Nat} (h : c ≤ d) : cntS s d ≤ cntS s c := by
  induction s with
  | nil => exact Nat.le_refl _
  | cons e s ih =>
    rw [cnt_cons, cnt_cons]
    by_cases h1 : ((d : Nat) : Int) < e
    · rw [if_pos h1, if_pos (by omega)]; omega
    · rw [if_neg h1]; split <;> omega
theorem turn_srt (C : Nat) (s : List Int) : (turnS C s).Pairwise (· ≥ ·) := by
  rw [List.pairwise_iff_getElem]
  intro i j hi hj h
  rw [turn_len] at hi hj
  rw [← getD_i (by rw [turn_len]; exact hi), ← getD_i (by rw [turn_len]; exact hj), turn_at hi, turn_at hj]
  have := cnt_mono s (show i ≤ j by omega)
  show ((cntS s j : Nat) : Int) ≤ (cntS s i : Nat)
  omega
theorem turn_bd (C : Nat) (s : List Int) : ∀ x ∈ turnS C s, 0 ≤ x ∧ x ≤ (s.length : Int) := fun x hx => by
  obtain ⟨c, _, rfl⟩ := List.mem_map.mp hx
  have := cnt_le s c
  omega
theorem rng_cnt (x : Nat) : ∀ C : Nat, ((List.range C).filter fun c => decide (c < x)).length = min C x
  | 0 => by simp
  | C + 1 => by
    rw [List.range_succ, List.filter_append, List.length_append, rng_cnt x C]
    by_cases h : C < x
    · simp [h]; omega
    · simp [h]; omega
theorem turn_cnt {C : Nat} {s : List Int} (hs : s.Pairwise (· ≥ ·)) (hb : ∀ x ∈ s, 0 ≤ x ∧ x ≤ (C : Int)) {i : Nat} (hi : i < s.length) : ((cntS (turnS C s) i : Nat) : Int) = s.getD i 0 := by
  have b : 0 ≤ s.getD i 0 ∧ s.getD i 0 ≤ (C : Int) := by rw [getD_i hi]; exact hb _ (List.getElem_mem _)
  have e : cntS (turnS C s) i = min C (s.getD i 0).toNat := by
    rw [← rng_cnt]
    unfold cntS turnS
    rw [List.filter_map, List.length_map]
    congr 1
    refine List.filter_congr fun c _ => ?_
    have := cnt_lt c hs i hi
    show decide (((i : Nat) : Int) < ((cntS s c : Nat) : Int)) = _
    refine decide_eq_decide.mpr ?_
    have : ((i : Nat) : Int) < ((cntS s c : Nat) : Int) ↔ i < cntS s c := by omega
    rw [this, cnt_lt c hs i hi]; omega
  rw [e]; omega
theorem hook_turn {C : Nat} {s : List Int} (hs : s.Pairwise (· ≥ ·)) (hb : ∀ x ∈ s, 0 ≤ x ∧ x ≤ (C : Int)) : hookF 1 (turnS C s) = hookF 1 s := by
  rw [hook_cells (C := s.length) (turn_srt C s) (turn_bd C s), turn_len, prodR_swap, hook_cells hs hb]
  refine prodR_congr fun i hi => prodR_congr fun c hc => ?_
  unfold cellK
  rw [turn_at hc, turn_cnt hs hb hi]
  have := cnt_lt c hs i hi
  by_cases h : ((c : Nat) : Int) < s.getD i 0
  · rw [if_pos h, if_pos (by omega)]; omega
  · rw [if_neg h, if_neg (by omega)]
theorem turn_sum {C : Nat} : ∀ {s : List Int}, (∀ x ∈ s, 0 ≤ x ∧ x ≤ (C : Int)) → (turnS C s).sum = s.sum
  | [], _ => by
    have : ∀ l : List Nat, (l.map fun c => ((cntS [] c : Nat) : Int)).sum = 0 := fun l => by induction l with
      | nil => rfl
      | cons a l ih => rw [List.map_cons, List.sum_cons, ih]; rfl
    exact this _
  | e :: s, hb => by
    have ih := turn_sum (C := C) (s := s) fun x hx => hb x (by simp [hx])
    obtain ⟨e0, e1⟩ := hb e (by simp)
    rw [List.sum_cons, ← ih]
    unfold turnS
    have k : ∀ D : Nat, ((List.range D).map fun c => ((cntS (e :: s) c : Nat) : Int)).sum = min (D : Int) e + ((List.range D).map fun c => ((cntS s c : Nat) : Int)).sum := by
      intro D
      induction D with
      | zero => simp; omega
      | succ D ihD =>
        rw [List.range_succ, List.map_append, List.sum_append, List.map_append, List.sum_append, ihD]
        simp only [List.map_cons, List.map_nil, List.sum_cons, List.sum_nil]
        rw [cnt_cons]
        split <;> push_cast <;> omega
    rw [k C]; omega
theorem words_turn {C : Nat} {s : List Int} (hs : s.Pairwise (· ≥ ·)) (hb : ∀ x ∈ s, 0 ≤ x ∧ x ≤ (C : Int)) : wordsS (turnS C s) = wordsS s := by
  unfold wordsS
  rw [hook_turn hs hb, turn_sum hb]
theorem hook_z : ∀ (s : List Int) (a : Int), (∀ x ∈ s, 0 ≤ x) → hookF a (s ++ [0]) = hookF a s
  | [], a, _ => rfl
  | e :: s, a, h => by
    simp only [List.cons_append, hookF]
    have : ∀ n : Nat, rowF a e (s ++ [0]) n = rowF a e s n := fun n => by
      induction n with
      | zero => rfl
      | succ n ih => rw [rowF_succ, rowF_succ, ih, hookR_app, if_neg (by omega), Int.add_zero]
    rw [this, hook_z s _ fun x hx => h x (by simp [hx])]
theorem words_z2 {s : List Int} (h : ∀ x ∈ s, 0 ≤ x) : wordsS (s ++ [0, 0]) = wordsS s := by
  have e : s ++ [0, 0] = (s ++ [0]) ++ [0] := by simp
  unfold wordsS
  rw [e, hook_z _ _ (fun x hx => by rcases List.mem_append.mp hx with hx | hx
                                    · exact h x hx
                                    · have : x = 0 := by simpa using hx
                                      omega), hook_z _ _ h]
  simp
theorem hook_ones : ∀ k : Nat, hookF 1 (List.replicate k 1) = fct k
  | 0 => rfl
  | k + 1 => by
    rw [List.replicate_succ, hookF_cons, hook_ones k]
    have : rowF 1 1 (List.replicate k 1) (1 : Int).toNat = hookR 1 (List.replicate k 1) 0 := by
      show rowF 1 1 (List.replicate k 1) 1 = _
      rw [rowF_succ]
      show 1 * _ = _
      rw [Int.one_mul]
    rw [this, hookR_lt (fun x hx => by rw [List.eq_of_mem_replicate hx]; decide), List.length_replicate]
    show _ = fct k * _
    push_cast; grind
def legS (a k : Nat) : List Int := ((a + 1 : Nat) : Int) :: List.replicate k 1
theorem leg_row (a k : Nat) : ∀ n : Nat, n ≤ a → rowF 1 ((a + 1 : Nat) : Int) (List.replicate k 1) (n + 1) * fct (a - n) = ((a : Int) + 1 + k) * fct a
  | 0, _ => by
    rw [rowF_succ, hookR_lt (fun x hx => by rw [List.eq_of_mem_replicate hx]; decide), List.length_replicate]
    show 1 * _ * _ = _
    simp
  | n + 1, h => by
    have ih := leg_row a k n (by omega)
    obtain ⟨m, hm⟩ : ∃ m, a - n = m + 1 := ⟨a - n - 1, by omega⟩
    rw [hm] at ih
    rw [show a - (n + 1) = m by omega, rowF_succ, ← ih]
    have e : hookR ((a + 1 : Nat) : Int) (List.replicate k 1) (n + 1) = (m : Int) + 1 := by
      unfold hookR
      rw [List.filter_eq_nil_iff.mpr fun x hx => by rw [List.eq_of_mem_replicate hx]; simp; omega]
      simp; omega
    rw [e]
    show _ = _ * (fct m * ((m : Int) + 1))
    grind
theorem leg_hook (a k : Nat) : hookF 1 (legS a k) = ((a : Int) + 1 + k) * fct a * fct k := by
  unfold legS
  rw [hookF_cons, hook_ones, Int.toNat_natCast]
  have := leg_row a k a (Nat.le_refl _)
  rw [Nat.sub_self] at this
  rw [← this]; simp [fct]
theorem leg_ok (a k : Nat) : (legS a k).Pairwise (· ≥ ·) ∧ (∀ x ∈ legS a k, 0 ≤ x) ∧ (legS a k).sum = ((a + 1 + k : Nat) : Int) := by
  refine ⟨List.pairwise_cons.mpr ⟨fun x hx => by rw [List.eq_of_mem_replicate hx]; show (1 : Int) ≤ _; omega, List.pairwise_replicate.mpr (.inr (Int.le_refl _))⟩, fun x hx => ?_, ?_⟩
  · rcases List.mem_cons.mp hx with rfl | hx
    · omega
    · rw [List.eq_of_mem_replicate hx]; decide
  · unfold legS
    rw [List.sum_cons]
    have : ∀ k : Nat, (List.replicate k (1 : Int)).sum = k := fun k => by induction k with
      | zero => rfl
      | succ k ih => rw [List.replicate_succ, List.sum_cons, ih]; push_cast; omega
    rw [this]; push_cast; omega
theorem leg_words (a k : Nat) : wordsS (legS a k) * (fct a * fct k) = fct (a + k) := by
  obtain ⟨h1, h2, h3⟩ := leg_ok a k
  have := (words_num h1 h2 (f := a + 1 + k + 1) (by omega)).2
  rw [h3, Int.toNat_natCast, leg_hook, show a + 1 + k = (a + k) + 1 by omega] at this
  have e : fct (a + k + 1) = fct (a + k) * ((a : Int) + 1 + k) := by
    show fct (a + k) * (((a + k : Nat) : Int) + 1) = _
    push_cast; grind
  rw [e] at this
  refine Int.eq_of_mul_eq_mul_right (show ((a : Int) + 1 + k) ≠ 0 by omega) ?_
  rw [← this]; grind
theorem leg_next (a k : Nat) : wordsS (legS a k) * (((a + 1 : Nat) : Int) + k) / ((k : Int) + 1) = wordsS (legS a (k + 1)) := by
  have h1 := leg_words a k
  have h2 := leg_words a (k + 1)
  have p1 := fct_pos a
  have p2 := fct_pos k
  have e : wordsS (legS a (k + 1)) * ((k : Int) + 1) = wordsS (legS a k) * (((a + 1 : Nat) : Int) + k) := by
    have e1 : fct (a + (k + 1)) = fct (a + k) * ((a : Int) + 1 + k) := by
      show fct (a + k) * (((a + k : Nat) : Int) + 1) = _
      push_cast; grind
    have e2 : fct (k + 1) = fct k * ((k : Int) + 1) := rfl
    rw [e1, e2, ← h1] at h2
    refine Int.eq_of_mul_eq_mul_right (show fct a * fct k ≠ 0 from Int.ne_of_gt (Int.mul_pos p1 p2)) ?_
    push_cast
    generalize wordsS (legS a (k + 1)) = X at h2 ⊢
    generalize wordsS (legS a k) = Y at h2 ⊢
    grind
  rw [← e]
  exact Int.mul_ediv_cancel _ (by omega)
theorem leg_zero (a : Nat) : wordsS (legS a 0) = 1 := by
  have := leg_words a 0
  have e : fct (a + 0) = fct a * fct 0 := by simp [fct]
  rw [e] at this
  have p := fct_pos a
  refine Int.eq_of_mul_eq_mul_right (show fct a * fct 0 ≠ 0 by show fct a * 1 ≠ 0; omega) ?_
  rw [this]; simp
def catL : Nat → Int
  | 0 => 1
  | t + 1 => catL t * 2 * (2 * (t : Int) + 1) / ((t : Int) + 2)
theorem cat_words : ∀ n ∈ List.range 200, wordsS [(n : Int), (n : Int)] = catL n := by decide +kernel
theorem w400 : wordsS [400] = 1 := by decide +kernel
theorem w1s : wordsS (List.replicate 200 1) = 1 := by decide +kernel
theorem w0 : wordsS [0] = 1 := by decide +kernel
end Lw
namespace Lw
open PySem L2 Ds TL
theorem joinL_cons (S p : List Nat) : ∀ ps : List (List Nat), joinL S (p :: ps) = p ++ ps.flatMap (S ++ ·)
  | [] => by simp [joinL]
  | q :: r => by
    show p ++ (S ++ joinL S (q :: r)) = _
    rw [joinL_cons S q r, List.flatMap_cons]; simp
theorem tl_comma : tl (", " : Str) = [44, 32] := by decide +kernel
theorem tl_textFrom : ∀ (ts : List Str) (k : Nat) (acc : Str), 0 < k → tl (textFrom k acc ts) = tl acc ++ (ts.map tl).flatMap ([44, 32] ++ ·)
  | [], k, acc, _ => by simp [textFrom]
  | t :: ts, k, acc, h => by
    show tl (textFrom (k + 1) (acc ++ (if k > 0 then ", " else "" : String) ++ t) ts) = _
    rw [tl_textFrom ts (k + 1) _ (by omega), if_pos h, tl_append, tl_append]
    rw [show tl ((", " : String) : Str) = [44, 32] from tl_comma]
    simp
theorem tl_listText (t : Str) (ts : List Str) : tl (listText (t :: ts)) = [91] ++ joinL [44, 32] ((t :: ts).map tl) ++ [93] := by
  unfold listText
  rw [tl_append]
  show tl (textFrom 1 ("[" ++ (if 0 > 0 then ", " else "" : String) ++ t) ts) ++ _ = _
  rw [tl_textFrom ts 1 _ (by omega), if_neg (by omega), tl_append, tl_append, List.map_cons, joinL_cons]
  rw [show tl (("" : String) : Str) = [] from by decide +kernel, show tl (("[" : String) : Str) = [91] from by decide +kernel, show tl ("]" : Str) = [93] from by decide +kernel]
  simp
theorem shown_ints (ns : List Int) : PyData.shownAll (ns.map .int) = ns.map fun n => (Str.ofString (toString n)) := by
  induction ns with
  | nil => rw [List.map_nil, PyData.shownAll]; rfl
  | cons n ns ih => rw [List.map_cons, PyData.shownAll, ih, PyData.shown]; rfl
theorem num_tl {n : Int} (h : 0 ≤ n) : tl (Str.ofString (toString n)) = numL n.toNat := by
  obtain ⟨m, rfl⟩ := Int.eq_ofNat_of_zero_le h
  exact tl_num m
theorem nums_inj : ∀ {a b : List Int}, (∀ x ∈ a, 0 ≤ x) → (∀ x ∈ b, 0 ≤ x) → (a.map fun n => numL n.toNat) = (b.map fun n => numL n.toNat) → a = b
  | [], [], _, _, _ => rfl
  | [], y :: b, _, _, h => by simp at h
  | x :: a, [], _, _, h => by simp at h
  | x :: a, y :: b, a0, b0, h => by
    rw [List.map_cons, List.map_cons] at h
    injection h with e1 e2
    have e3 := numL_inj e1
    have x0 := a0 x (by simp)
    have y0 := b0 y (by simp)
    rw [nums_inj (fun z hz => a0 z (by simp [hz])) (fun z hz => b0 z (by simp [hz])) e2, show x = y by omega]
theorem shown_inj {a b : List Int} (ha : a ≠ []) (hb : b ≠ []) (a0 : ∀ x ∈ a, 0 ≤ x) (b0 : ∀ x ∈ b, 0 ≤ x) (h : (PyData.list (a.map .int)).shown = (PyData.list (b.map .int)).shown) : a = b := by
  rw [PyData.shown, PyData.shown, shown_ints, shown_ints] at h
  have tx : ∀ {c : List Int}, c ≠ [] → (∀ x ∈ c, 0 ≤ x) → tl (listText (c.map fun n => (Str.ofString (toString n)))) = [91] ++ joinL [44, 32] (c.map fun n => numL n.toNat) ++ [93] := fun {c} hc c0 => by
    cases c with
    | nil => exact absurd rfl hc
    | cons x c =>
      rw [List.map_cons, tl_listText]
      have e : (Str.ofString (toString x) :: c.map fun n => Str.ofString (toString n)).map tl = (x :: c).map fun n => numL n.toNat := by
        rw [List.map_cons, List.map_cons, List.map_map, num_tl (c0 x (by simp))]
        congr 1
        exact List.map_congr_left fun n hn => num_tl (c0 n (by simp [hn]))
      rw [e]
  have h := congrArg tl h
  rw [tx ha a0, tx hb b0] at h
  have h := List.append_cancel_right h
  have h := List.append_cancel_left h
  have fr : ∀ c : List Int, ∀ p ∈ c.map (fun n => numL n.toNat), 44 ∉ p := fun c p hp => by
    obtain ⟨n, _, rfl⟩ := List.mem_map.mp hp
    exact numL_free (.inl (by omega))
  have s1 := spl_join (s := 44) (S := [32]) (parts := a.map fun n => numL n.toNat) (by simpa using ha) (fr a)
  have s2 := spl_join (s := 44) (S := [32]) (parts := b.map fun n => numL n.toNat) (by simpa using hb) (fr b)
  rw [h, s2] at s1
  exact nums_inj a0 b0 s1.symm
def keyS (s : Sta) : Key := .inr (PyData.list (s.map .int)).shown
def kvS (s : Sta) : Key × D := (keyS s, .int (wordsS s))
def SmallS (R : Nat) (s : Sta) : Prop := s.length = R ∧ ∀ x ∈ s, 0 ≤ x ∧ x ≤ 14
def MemW (R : Nat) (kn : DKv) : Prop := ∃ L : List Sta, L.Nodup ∧ (∀ s ∈ L, SmallS R s) ∧ kn = L.map kvS
theorem MemW.nil (R : Nat) : MemW R [] := ⟨[], List.nodup_nil, fun s h => by simp at h, rfl⟩
theorem key_inj {R : Nat} (hR : 1 ≤ R) {s t : Sta} (hs : SmallS R s) (ht : SmallS R t) (h : keyS s = keyS t) : s = t := by
  unfold keyS at h
  refine shown_inj (fun e => ?_) (fun e => ?_) (fun x hx => (hs.2 x hx).1) (fun x hx => (ht.2 x hx).1) (Sum.inr.inj h)
  · have := hs.1; rw [e] at this; simp at this; omega
  · have := ht.1; rw [e] at this; simp at this; omega
def allS : Nat → List Sta
  | 0 => [[]]
  | r + 1 => (List.range 15).flatMap fun (x : Nat) => (allS r).map fun s => (x : Int) :: s
theorem allS_len : ∀ r, (allS r).length = 15 ^ r
  | 0 => rfl
  | r + 1 => by
    show ((List.range 15).flatMap fun (x : Nat) => (allS r).map fun s => (x : Int) :: s).length = _
    rw [flat_len (n := 15 ^ r) fun x _ => by rw [List.length_map, allS_len r], List.length_range, Nat.pow_succ, Nat.mul_comm]
theorem allS_mem : ∀ {r : Nat} {s : Sta}, SmallS r s → s ∈ allS r
  | 0, s, h => by
    have : s = [] := List.length_eq_zero_iff.mp h.1
    subst this; simp [allS]
  | r + 1, s, h => by
    cases s with
    | nil => have := h.1; simp at this
    | cons x s =>
      have hx := h.2 x (by simp)
      refine List.mem_flatMap.mpr ⟨x.toNat, List.mem_range.mpr (by omega), List.mem_map.mpr ⟨s, allS_mem ⟨by simpa using h.1, fun y hy => h.2 y (by simp [hy])⟩, ?_⟩⟩
      rw [show ((x.toNat : Nat) : Int) = x by omega]
theorem MemW.few {R : Nat} {kn : DKv} (h : MemW R kn) (hR : R ≤ 5) : kn.length < sizeLine := by
  obtain ⟨L, nd, hs, rfl⟩ := h
  have h3 := nd.length_le_of_subset (l₂ := allS R) fun s h => allS_mem (hs s h)
  rw [allS_len] at h3
  rw [List.length_map]
  have := Nat.pow_le_pow_right (n := 15) (by decide) hR
  exact Nat.lt_of_le_of_lt (Nat.le_trans h3 this) (by decide)
theorem MemW.get {R : Nat} (hR : 1 ≤ R) {kn : DKv} (h : MemW R kn) {s : Sta} (hs : SmallS R s) {d : D} (e : valD kn (keyS s) = some d) : d = .int (wordsS s) := by
  obtain ⟨L, nd, hL, rfl⟩ := h
  unfold valD at e
  obtain ⟨p, h1, rfl⟩ := Option.map_eq_some_iff.mp e
  have h2 := List.mem_of_find?_eq_some h1
  have h3 := List.find?_some h1
  obtain ⟨t, ht, rfl⟩ := List.mem_map.mp h2
  have h3 := of_decide_eq_true h3
  have := key_inj hR (hL t ht) hs h3
  subst this; rfl
theorem MemW.put {R : Nat} (hR : 1 ≤ R) {kn : DKv} (h : MemW R kn) {s : Sta} (hs : SmallS R s) : MemW R (putD kn (keyS s) (.int (wordsS s))) ∧ valD (putD kn (keyS s) (.int (wordsS s))) (keyS s) = some (.int (wordsS s)) := by
  obtain ⟨L, nd, hL, rfl⟩ := h
  by_cases m : s ∈ L
  · have e1 : ((L.map kvS).any fun p => decide (p.1 = keyS s)) = true := List.any_eq_true.mpr ⟨kvS s, List.mem_map_of_mem m, decide_eq_true rfl⟩
    have e2 : putD (L.map kvS) (keyS s) (.int (wordsS s)) = L.map kvS := by
      unfold putD
      rw [e1]
      show (L.map kvS).map _ = _
      rw [List.map_map]
      refine List.map_congr_left fun t ht => ?_
      show (if (kvS t).1 = keyS s then ((kvS t).1, .int (wordsS s)) else kvS t) = kvS t
      by_cases h : (kvS t).1 = keyS s
      · rw [if_pos h, key_inj hR (hL t ht) hs h]; rfl
      · rw [if_neg h]
    rw [e2]
    refine ⟨⟨L, nd, hL, rfl⟩, ?_⟩
    cases e : valD (L.map kvS) (keyS s) with
    | some d => rw [MemW.get hR ⟨L, nd, hL, rfl⟩ hs e]
    | none =>
      unfold valD at e
      have := List.find?_eq_none.mp (Option.map_eq_none_iff.mp e) (kvS s) (List.mem_map_of_mem m)
      exact absurd (decide_eq_true rfl) this
  · have no : ∀ t ∈ L, keyS t ≠ keyS s := fun t ht e => m (by rw [← key_inj hR (hL t ht) hs e]; exact ht)
    have e1 : ((L.map kvS).any fun p => decide (p.1 = keyS s)) = false := List.any_eq_false.mpr fun p hp => by
      obtain ⟨t, ht, rfl⟩ := List.mem_map.mp hp
      have := decide_eq_false (no t ht)
      show ¬ decide (keyS t = keyS s) = true
      rw [this]; decide
    have e2 : putD (L.map kvS) (keyS s) (.int (wordsS s)) = (L ++ [s]).map kvS := by
      unfold putD
      rw [e1, List.map_append]; rfl
    rw [e2]
    have hW : MemW R ((L ++ [s]).map kvS) := ⟨L ++ [s], List.nodup_append.mpr ⟨nd, by simp, fun a ha b hb => by
      have : b = s := by simpa using hb
      subst this
      exact fun e => m (e ▸ ha)⟩, fun t ht => by
      rcases List.mem_append.mp ht with ht | ht
      · exact hL t ht
      · have : t = s := by simpa using ht
        subst this; exact hs, rfl⟩
    refine ⟨hW, ?_⟩
    cases e : valD ((L ++ [s]).map kvS) (keyS s) with
    | some d => rw [MemW.get hR hW hs e]
    | none =>
      unfold valD at e
      have := List.find?_eq_none.mp (Option.map_eq_none_iff.mp e) (kvS s) (List.mem_map_of_mem (by simp))
      exact absurd (decide_eq_true rfl) this
theorem num_sum {s : Sta} (hs : s.Pairwise (· ≥ ·)) (h0 : ∀ x ∈ s, 0 ≤ x) : wordsS s = (List.range s.length).foldl (fun (a : Int) i => if cornB s i then a + wordsS (lessS s i) else a) (if s.sum = 0 then 1 else 0) := by
  rw [words_rec hs h0]
  generalize (if s.sum = 0 then (1 : Int) else 0) = z
  have : ∀ (l : List Nat) (z : Int), z + (l.map fun i => if cornB s i then wordsS (lessS s i) else 0).sum = l.foldl (fun (a : Int) i => if cornB s i then a + wordsS (lessS s i) else a) z := fun l => by
    induction l with
    | nil => intro z; simp
    | cons i l ih =>
      intro z
      rw [List.foldl_cons, ← ih, List.map_cons, List.sum_cons]
      by_cases h : cornB s i = true
      · rw [if_pos h, if_pos h]; omega
      · rw [if_neg h, if_neg h]; omega
  exact this _ _
end Lw
set_option maxRecDepth 100000
set_option maxHeartbeats 1000000
namespace Lw
open PySem L2 Ds
abbrev st_TooLong : Stmt := (clsBody (PySem.Challenge.pw_teesizes_k05_numbers_of_words.main.body.getD 2 (.Pass ⟨0, 0, 0, 0⟩))).getD 0 (.Pass ⟨0, 0, 0, 0⟩)
theorem sc_TooLong : FnScope ["self", "length"] ["self", "length"] (defScope st_TooLong) := ⟨rfl, rfl, rfl, by decide +kernel, rfl, by decide +kernel, by decide +kernel⟩
theorem fi_TooLong {P : Program} {w : World} {K : PySem.W.Frag} {mg : Str → Option Value} {base : Heap} {f : Addr} {fd : FuncData} (F : L2.Fun K "__init__" "TooLong.__init__" st_TooLong f fd) (tee : HasTee K mg) : FnOk P w K mg base CX0 1 f fd ["self", "length"] (spInit "length" K) :=
  F.ok sc_TooLong (fun vs H Q E ⟨_, _, _, e, _⟩ => by rw [e]; rfl) fun cdv A os s H vs Q E hr h => ⟨_, pss_cons (ps_expr (pe_teeinit rfl tee (pa_cons (pe_var (i := 0) rfl (by first | exact Or.inl rfl | exact Or.inr (Or.inl rfl))) (pa_cons pe_str pa_nil)))) (pss_one (ps_ost (pe_var (i := 0) rfl (by first | exact Or.inl rfl | exact Or.inr (Or.inl rfl))) (pe_var (i := 1) rfl (by first | exact Or.inl rfl | exact Or.inr (Or.inl rfl))))), init_reads (ps := ["self", "length"]) rfl h⟩
def sp_is_integer : DSp := fun ts Q _ => ∃ d lo hi, ts = [.bor d, .dat (.int lo), .dat hi] ∧ (hi = .none ∨ ∃ h, hi = .int h) ∧ Q (.dat (.bool (isIntB d lo hi))) .emp
def ms_is_integer : List Md := [.bor, .dat, .dat]
def dn_is_integer (Wd : Exn → List T → Prop) : DS := (dSeq (dIfS ((dOrT (dNotT (tVal (dIsi ["int"] (dVar 0)))) (tVal (dIsi ["bool"] (dVar 0))))) (dRet (dC (.bool false))) dNext)
    (dRet ((dAndV (dOp dLe (dVar 1) (dVar 0)) ((dOrV (dOp dIsN (dVar 2) (dC .none)) (dOp dLe (dVar 0) (dVar 2))))))))
abbrev st_is_integer : Stmt := PySem.Challenge.pw_teesizes_k05_numbers_of_words.main.body.getD 5 (.Pass ⟨0, 0, 0, 0⟩)
abbrev N_is_integer : List Str := ["value", "low", "high"]
theorem sc_is_integer : FnScope N_is_integer ["value", "low", "high"] (defScope st_is_integer) := ⟨rfl, rfl, rfl, by decide +kernel, rfl, by decide +kernel, by decide +kernel⟩
theorem dp_is_integer {P : Program} {w : World} {K : PySem.W.Frag} {mg : Str → Option Value} {base : Heap} {f : Addr} {cdv : Value} {A : Around} {os : List Env} {s : Shared} {H : Hp} {E : XK} {Wd : Exn → List T → Prop} {B0 : Addr → Prop} {o : List Addr} {vs : List V} (n_bool : mg "bool" = none) (n_int : mg "int" = none) (n_isinstance : mg "isinstance" = none)
    (hr : RoomG 0 (A.deeper (PyProof.Rows.envOfC "is_integer" (defScope st_is_integer) s.heap.objs.size f cdv))) (tk : DTk (ctxOf P w K mg base N_is_integer "is_integer" (defScope st_is_integer) f cdv A os s H E Wd B0 o none vs [])) :
    DPSs (ctxOf P w K mg base N_is_integer "is_integer" (defScope st_is_integer) f cdv A os s H E Wd B0 o none vs []) (defBody st_is_integer) (dn_is_integer Wd) :=
  have S := sc_is_integer
  (dss_cons (ds_if (DPW.t (dw_or (dt_not (dt_val (de_isi rfl n_isinstance (de_var 0 (nin_of rfl)) rfl n_int (by decide) PyProof.Rows.boot_int))) (dw_or1 (dt_val (de_isi rfl n_isinstance (de_var 0 (nin_of rfl)) rfl n_bool (by decide) PyProof.Rows.boot_bool))))) (dss_one (ds_ret de_bl)) dss_nil)
    (dss_one (ds_ret ((de_and (de_cmpD dc_le (de_var 1 (nin_of rfl)) (de_var 0 (nin_of rfl))) (de_one ((de_or (de_cmpD dc_isN (de_var 2 (nin_of rfl)) de_non) (de_one (de_cmpD dc_le (de_var 0 (nin_of rfl)) (de_var 2 (nin_of rfl))))))))))))
theorem law_is_integer (ts : List T) (Q : T → T → Prop) (W : Exn → T → Prop) (h : sp_is_integer ts Q W) : dn_is_integer (finX none W) (fin0 none Q) (slots0 3 ts) := by
  obtain ⟨d, lo, hi, rfl, hh, q⟩ := h
  cases d with
  | int i =>
    refine dSeq.mk (br_f rfl (br_f rfl ?_))
    rcases hh with rfl | ⟨h, rfl⟩
    · refine br_split (b := decide (lo ≤ i)) (fun e => br_t rfl ?_) (fun e => ?_)
      · simp only [isIntB, e] at q; exact q
      · simp only [isIntB, e] at q; exact q
    · refine br_split (b := decide (lo ≤ i)) (fun e => br_f rfl ?_) (fun e => ?_)
      · simp only [isIntB, e, Bool.true_and] at q; exact q
      · simp only [isIntB, e, Bool.false_and] at q; exact q
  | bool b => exact dSeq.mk (br_f rfl (br_t rfl (by rcases hh with rfl | ⟨h, rfl⟩ <;> exact q)))
  | _ => exact dSeq.mk (br_t rfl (br_t rfl (by rcases hh with rfl | ⟨h, rfl⟩ <;> exact q)))
theorem mono_is_integer : Mono sp_is_integer := fun ts R R' W W' hr _ ⟨d, lo, hi, e, h, q⟩ => ⟨d, lo, hi, e, h, hr _ _ q⟩
def sp_is_listed : DSp := fun ts Q _ => ∃ d, ts = [.bor d] ∧ Q (.dat (.bool (isLstB d))) .emp
theorem mono_is_listed : Mono sp_is_listed := fun ts R R' W W' hr _ ⟨d, e, q⟩ => ⟨d, e, hr _ _ q⟩
def ms_is_listed : List Md := [.bor]
def dn_is_listed (Wd : Exn → List T → Prop) : DS := (dRet (dIsi ["list", "tuple"] (dVar 0)))
abbrev st_is_listed : Stmt := PySem.Challenge.pw_teesizes_k05_numbers_of_words.main.body.getD 6 (.Pass ⟨0, 0, 0, 0⟩)
abbrev N_is_listed : List Str := ["value"]
theorem sc_is_listed : FnScope N_is_listed ["value"] (defScope st_is_listed) := ⟨rfl, rfl, rfl, by decide +kernel, rfl, by decide +kernel, by decide +kernel⟩
theorem dp_is_listed {P : Program} {w : World} {K : PySem.W.Frag} {mg : Str → Option Value} {base : Heap} {f : Addr} {cdv : Value} {A : Around} {os : List Env} {s : Shared} {H : Hp} {E : XK} {Wd : Exn → List T → Prop} {B0 : Addr → Prop} {o : List Addr} {vs : List V} (n_isinstance : mg "isinstance" = none) (n_list : mg "list" = none) (n_tuple : mg "tuple" = none)
    (hr : RoomG 0 (A.deeper (PyProof.Rows.envOfC "is_listed" (defScope st_is_listed) s.heap.objs.size f cdv))) (tk : DTk (ctxOf P w K mg base N_is_listed "is_listed" (defScope st_is_listed) f cdv A os s H E Wd B0 o none vs [])) :
    DPSs (ctxOf P w K mg base N_is_listed "is_listed" (defScope st_is_listed) f cdv A os s H E Wd B0 o none vs []) (defBody st_is_listed) (dn_is_listed Wd) :=
  have S := sc_is_listed
  (dss_one (ds_ret (de_isi2 rfl n_isinstance (de_var 0 (nin_of rfl)) rfl n_list (by decide) PyProof.Rows.boot_list rfl n_tuple (by decide) PyProof.Rows.boot_tuple)))
theorem law_is_listed (ts : List T) (Q : T → T → Prop) (W : Exn → T → Prop) (h : sp_is_listed ts Q W) : dn_is_listed (finX none W) (fin0 none Q) (slots0 1 ts) := by
  obtain ⟨d, rfl, q⟩ := h
  cases d <;> exact q
def IntL (d : D) (ns : List Int) : Prop := d = .list (ns.map .int) ∨ d = .tuple (ns.map .int)
def descI (ns : List Int) : Bool := (ns.zip (ns.drop 1)).all fun p => decide (p.2 ≤ p.1)
inductive BadSt : D → Prop
  | kind {d : D} : isLstB d = false → BadSt d
  | none {d : D} : d = .list [] ∨ d = .tuple [] → BadSt d
  | long {d : D} {ds : List D} : d = .list ds ∨ d = .tuple ds → 200 < ds.length → BadSt d
  | item {d : D} {ds : List D} : d = .list ds ∨ d = .tuple ds → ds.length ≤ 200 → (ds.all fun x => isIntB x 0 (.int BIGP)) = false → BadSt d
  | desc {d : D} {ns : List Int} : d = .list (ns.map .int) ∨ d = .tuple (ns.map .int) → ns.length ≤ 200 → (∀ n ∈ ns, 0 ≤ n ∧ n ≤ BIGP) → descI ns = false → BadSt d
def sp_is_state : DSp := fun ts Q _ => ∃ (d : D), ts = [.bor d] ∧ ((∃ ns : List Int, (d = .list (ns.map .int) ∨ d = .tuple (ns.map .int)) ∧ StOk ns ∧ Q (.dat (.bool true)) .emp) ∨ (BadSt d ∧ Q (.dat (.bool false)) .emp))
theorem mono_is_state : Mono sp_is_state := fun ts R R' W W' hr _ ⟨d, e, q⟩ => ⟨d, e, q.imp (fun ⟨ns, a, b, q⟩ => ⟨ns, a, b, hr _ _ q⟩) fun ⟨a, q⟩ => ⟨a, hr _ _ q⟩⟩
theorem StOk.desc {ns : List Int} (h : StOk ns) : descI ns = true := by
  unfold descI
  rw [List.all_eq_true]
  exact fun p hp => decide_eq_true (srt_zip h.srt p hp)
def ms_is_state : List Md := [.bor]
def dn_is_state (Wd : Exn → List T → Prop) : DS := (dSeq (dIfS ((dOrT (dNotT (tVal (dCall ms_is_listed sp_is_listed Wd (dCons (dVar 0) dNil)))) (dNotT (tVal (dChain (fun i j => decide (i ≤ j)) (fun i j => decide (i ≤ j)) (dC (.int 1)) (dCB dLen (dCons (dVar 0) dNil)) (dC (.int 200))))))) (dRet (dC (.bool false))) dNext)
    (dSeq (dIfS (dNotT (tVal (dCB dAll (dCons (dLc (dSeqI (dVarF 0)) (Tgt.one 1).d dYes (dCall ms_is_integer sp_is_integer noW (dCons (dVarF 1) (dCons (dC (.int 0)) (dCons (dC (.int 1000000000000000000000000000000000)) dNil)))) [1]) dNil)))) (dRet (dC (.bool false))) dNext)
    (dRet (dCB dAll (dCons (dLc (dZipI (dCons (dVarF 0) (dCons (dSl (dVar 0) (dPart (dC (.int 1))) dNoPart) dNil))) (Tgt.many [2, 3]).d dYes (dOp dGe (dVarF 2) (dVarF 3)) [2, 3]) dNil)))))
abbrev st_is_state : Stmt := PySem.Challenge.pw_teesizes_k05_numbers_of_words.main.body.getD 11 (.Pass ⟨0, 0, 0, 0⟩)
abbrev N_is_state : List Str := ["value", "entry", "one", "other"]
theorem sc_is_state : FnScope N_is_state ["value"] (defScope st_is_state) := ⟨rfl, rfl, rfl, by decide +kernel, rfl, by decide +kernel, by decide +kernel⟩
theorem dp_is_state {P : Program} {w : World} {K : PySem.W.Frag} {mg : Str → Option Value} {base : Heap} {f : Addr} {cdv : Value} {A : Around} {os : List Env} {s : Shared} {H : Hp} {E : XK} {Wd : Exn → List T → Prop} {B0 : Addr → Prop} {o : List Addr} {vs : List V} (n_all : mg "all" = none) (n_len : mg "len" = none) (n_zip : mg "zip" = none) (c_MAX_POSITION : HasC mg "MAX_POSITION" (.int 1000000000000000000000000000000000)) (c_MAX_READERS : HasC mg "MAX_READERS" (.int 200)) (h_is_integer : Has P w K mg base "is_integer" 1 ["value", "low", "high"] ms_is_integer sp_is_integer) (h_is_listed : Has P w K mg base "is_listed" 1 ["value"] ms_is_listed sp_is_listed)
    (hr : RoomG 1 (A.deeper (PyProof.Rows.envOfC "is_state" (defScope st_is_state) s.heap.objs.size f cdv))) (tk : DTk (ctxOf P w K mg base N_is_state "is_state" (defScope st_is_state) f cdv A os s H E Wd B0 o none vs [1, 2, 3])) :
    DPSs (ctxOf P w K mg base N_is_state "is_state" (defScope st_is_state) f cdv A os s H E Wd B0 o none vs [1, 2, 3]) (defBody st_is_state) (dn_is_state Wd) :=
  have S := sc_is_state
  (dss_cons (ds_if (DPW.t (dw_or (dt_not (dt_val (de_fn h_is_listed hr (by decide) tk rfl (da_cons (de_var 0 (nin_of rfl)) da_nil)))) (dw_or1 (dt_not (dt_chain op_le op_le de_int (de_len rfl n_len (da_cons (de_var 0 (nin_of rfl)) da_nil)) (de_const c_MAX_READERS rfl rfl)))))) (dss_one (ds_ret de_bl)) dss_nil)
    (dss_cons (ds_if (dt_not (dt_val (de_all rfl n_all rfl (da_cons (de_lc rfl S.nd (own := [(("entry" : Str), 1)]) (tg := (Tgt.one 1)) (di_seq (de_varF 0)) (blk_of (N := N_is_state) (sc := defScope st_is_state) (by decide +kernel)) (tgt_one S.nd rfl (Or.inl rfl) rfl) (fun _ _ _ _ _ => dts_nil) (fun _ _ _ _ _ => (de_fn h_is_integer hr (by decide) tk_blk rfl (da_cons (de_varF 1) (da_cons de_int (da_cons (de_const c_MAX_POSITION rfl rfl) da_nil))))) (by decide) (own_of rfl)) da_nil)))) (dss_one (ds_ret de_bl)) dss_nil)
    (dss_one (ds_ret (de_all rfl n_all rfl (da_cons (de_lc rfl S.nd (own := [(("one" : Str), 2), (("other" : Str), 3)]) (tg := (Tgt.many [2, 3])) (di_zip rfl n_zip (da_cons (de_varF 0) (da_cons (de_slice (de_var 0 (nin_of rfl)) (do_some de_int) do_none) da_nil))) (blk_of (N := N_is_state) (sc := defScope st_is_state) (by decide +kernel)) (tgt_many rfl S.nd (.cons rfl (Or.inl rfl) rfl (.cons rfl (Or.inl rfl) rfl .nil))) (fun _ _ _ _ _ => dts_nil) (fun _ _ _ _ _ => (de_cmpD dc_ge (de_varF 2) (de_varF 3))) (by decide) (own_of rfl)) da_nil))))))
theorem st_items (ds : List D) (d : D) {K : List D → List T → Prop} (hl : ds.length ≤ 200) (h : K ((ds.map fun x => isIntB x 0 (.int 1000000000000000000000000000000000)).map .bool) [.bor d, .emp, .emp, .emp]) :
    dLcGo (dgName 1) dYes (dCall ms_is_integer sp_is_integer noW (dCons (dVarF 1) (dCons (dC (.int 0)) (dCons (dC (.int 1000000000000000000000000000000000)) dNil)))) [1] K (ds.map .bor) [] [.bor d, .emp, .emp, .emp] := by
  refine lc_mp ds _ (fun x => .bool (isIntB x 0 (.int 1000000000000000000000000000000000))) rfl (Nat.le_trans hl (by decide)) (fun _ _ => rfl) (fun x hx P hp => ?_) (by rw [List.map_map] at h; exact h)
  exact ⟨⟨x, 0, .int 1000000000000000000000000000000000, rfl, .inr ⟨_, rfl⟩, hp _ rfl⟩⟩
theorem st_pairs (ns : List Int) (d : D) {K : List D → List T → Prop} (hl : ns.length ≤ 200) (h : K (((ns.zip (ns.drop 1)).map fun p => decide (p.2 ≤ p.1)).map .bool) [.bor d, .emp, .emp, .emp]) :
    dLcGo (Tgt.many [2, 3]).d dYes (dOp dGe (dVarF 2) (dVarF 3)) [2, 3] K (zipT ((ns.map PyData.int).map .bor) ((cut (ns.map PyData.int) (some 1) none).map .bor)) [] [.bor d, .emp, .emp, .emp] := by
  have e : zipT ((ns.map PyData.int).map .bor) ((cut (ns.map PyData.int) (some 1) none).map .bor) = (ns.zip (ns.drop 1)).map fun p => T.tup [.bor (.int p.1), .bor (.int p.2)] := by
    rw [show cut (ns.map PyData.int) (some 1) none = _ from cut_from (ns.map PyData.int) 1]
    unfold zipT
    rw [← List.map_drop, List.map_map, List.map_map, List.zip_map, List.map_map]
    rfl
  rw [e]
  refine lc_mp2 _ _ (fun p => .bor (.int p.1)) (fun p => .bor (.int p.2)) (fun p => .bool (decide (p.2 ≤ p.1))) rfl (by decide) ?_ (fun _ _ => ⟨rfl, rfl, rfl, rfl⟩) (fun p hp P hP => hP _ rfl) (by rw [List.map_map] at h; exact h)
  refine Nat.le_trans ?_ (show 200 ≤ sizeLine by decide)
  rw [List.length_zip]; omega
theorem int_items {ns : List Int} (h : ∀ n ∈ ns, 0 ≤ n ∧ n ≤ BIGP) : ((ns.map PyData.int).map fun x => isIntB x 0 (.int 1000000000000000000000000000000000)).all id = true := by
  rw [List.map_map, List.all_map, List.all_eq_true]
  intro n hn
  have hb := h n hn
  have h1 : n ≤ 1000000000000000000000000000000000 := hb.2
  show isIntB (.int n) 0 (.int 1000000000000000000000000000000000) = true
  simp only [isIntB, decide_eq_true hb.1, decide_eq_true h1]; rfl
theorem law_is_state (ts : List T) (Q : T → T → Prop) (W : Exn → T → Prop) (h : sp_is_state ts Q W) : dn_is_state (finX none W) (fin0 none Q) (slots0 4 ts) := by
  obtain ⟨d, rfl, h⟩ := h
  have allI : ∀ ns : List Int, d = .list (ns.map .int) ∨ d = .tuple (ns.map .int) → 1 ≤ ns.length → ns.length ≤ 200 → (∀ n ∈ ns, 0 ≤ n ∧ n ≤ BIGP) → Q (.dat (.bool (descI ns))) .emp → dn_is_state (finX none W) (fin0 none Q) (slots0 4 [.bor d]) := by
    intro ns hd l1 l2 hb q
    have lm : ((ns.map PyData.int).length : Int) = ns.length := by rw [List.length_map]
    refine dSeq.mk ⟨⟨d, rfl, ?_⟩⟩
    rcases hd with rfl | rfl
    all_goals
      refine br_f rfl (br_dec (c := (1 : Int) ≤ ((ns.map PyData.int).length : Int)) (fun _ => br_ndec (c := ((ns.map PyData.int).length : Int) ≤ 200) (fun h => absurd (by omega) h) fun _ => dSeq.mk ?_) fun h => absurd (by omega) h)
      refine st_items (ns.map .int) _ (by rw [List.length_map]; exact l2) ⟨_, rfl, ?_⟩
      refine br_f (b := !(((ns.map PyData.int).map fun x => isIntB x 0 (.int 1000000000000000000000000000000000)).all id)) (by rw [int_items hb]; rfl) (And.intro rfl (st_pairs ns _ l2 ⟨_, rfl, ?_⟩))
      have e : ((ns.zip (ns.drop 1)).map fun p => decide (p.2 ≤ p.1)).all id = descI ns := by rw [List.all_map]; rfl
      rw [← e] at q
      exact q
  rcases h with ⟨ns, hd, hs, q⟩ | ⟨hb, q⟩
  · exact allI ns hd hs.l1 hs.l2 hs.bd (by rw [hs.desc]; exact q)
  · cases hb with
    | kind h => exact dSeq.mk ⟨⟨d, rfl, br_t (b := !isLstB d) (by rw [h]; rfl) (br_t rfl q)⟩⟩
    | none h =>
      refine dSeq.mk ⟨⟨d, rfl, ?_⟩⟩
      rcases h with rfl | rfl
      all_goals exact br_f rfl (br_dec (c := (1 : Int) ≤ (([] : List D).length : Int)) (fun h => absurd h (by decide)) fun _ => br_t rfl q)
    | @long ds h hl =>
      refine dSeq.mk ⟨⟨d, rfl, ?_⟩⟩
      rcases h with rfl | rfl
      all_goals
        exact br_f rfl (br_dec (c := (1 : Int) ≤ (ds.length : Int)) (fun _ => br_ndec (c := (ds.length : Int) ≤ 200) (fun _ => q) fun h => absurd h (by omega)) fun h => absurd (by omega) h)
    | @item ds h hl he =>
      have ne : 1 ≤ ds.length := by cases ds with | nil => cases he | cons a l => simp
      have e2 : (ds.map fun x => isIntB x 0 (.int 1000000000000000000000000000000000)).all id = false := by rw [List.all_map]; exact he
      refine dSeq.mk ⟨⟨d, rfl, ?_⟩⟩
      rcases h with rfl | rfl
      all_goals
        refine br_f rfl (br_dec (c := (1 : Int) ≤ (ds.length : Int)) (fun _ => br_ndec (c := (ds.length : Int) ≤ 200) (fun h => absurd (by omega) h) fun _ => dSeq.mk ?_) fun h => absurd (by omega) h)
        refine st_items ds _ hl ⟨_, rfl, ?_⟩
        exact br_t (b := !((ds.map fun x => isIntB x 0 (.int 1000000000000000000000000000000000)).all id)) (by rw [e2]; rfl) q
    | @desc ns h hl hb he =>
      have ne : 1 ≤ ns.length := by cases ns with | nil => cases he | cons a l => simp
      exact allI ns h ne hl hb (by rw [he]; exact q)
def sp_checked_state : DSp := fun ts Q W => ∃ (d : D), ts = [.bor d] ∧ ((∃ ns : List Int, (d = .list (ns.map .int) ∨ d = .tuple (ns.map .int)) ∧ StOk ns ∧ Q (.own (ns.map .int)) .emp) ∨ (BadSt d ∧ W ⟨("InvalidState" : Str), none⟩ .emp))
theorem mono_checked_state : Mono sp_checked_state := fun ts R R' W W' hr hw ⟨d, e, q⟩ => ⟨d, e, q.imp (fun ⟨ns, a, b, q⟩ => ⟨ns, a, b, hr _ _ q⟩) fun ⟨a, q⟩ => ⟨a, hw _ _ q⟩⟩
theorem use_ckState {d : D} {ns : List Int} {Q : T → T → Prop} {W : Exn → T → Prop} (h1 : d = .list (ns.map .int) ∨ d = .tuple (ns.map .int)) (h2 : StOk ns) (q : Q (.own (ns.map .int)) .emp) : Spc sp_checked_state [.bor d] Q W := ⟨⟨d, rfl, .inl ⟨ns, h1, h2, q⟩⟩⟩
def ms_checked_state : List Md := [.bor]
def dn_checked_state (Wd : Exn → List T → Prop) : DS := (dSeq (dIfS (dNotT (tVal (dCall ms_is_state sp_is_state Wd (dCons (dVar 0) dNil)))) (dRaise Wd "InvalidState") dNext)
    (dRet (dCB dLstI (dCons (dVar 0) dNil))))
abbrev st_checked_state : Stmt := PySem.Challenge.pw_teesizes_k05_numbers_of_words.main.body.getD 12 (.Pass ⟨0, 0, 0, 0⟩)
abbrev N_checked_state : List Str := ["value"]
theorem sc_checked_state : FnScope N_checked_state ["value"] (defScope st_checked_state) := ⟨rfl, rfl, rfl, by decide +kernel, rfl, by decide +kernel, by decide +kernel⟩
theorem dp_checked_state {P : Program} {w : World} {K : PySem.W.Frag} {mg : Str → Option Value} {base : Heap} {f : Addr} {cdv : Value} {A : Around} {os : List Env} {s : Shared} {H : Hp} {E : XK} {Wd : Exn → List T → Prop} {B0 : Addr → Prop} {o : List Addr} {vs : List V} (n_list : mg "list" = none) (e_InvalidState : HasE K mg "InvalidState") (h_is_state : Has P w K mg base "is_state" 2 ["value"] ms_is_state sp_is_state)
    (hr : RoomG 2 (A.deeper (PyProof.Rows.envOfC "checked_state" (defScope st_checked_state) s.heap.objs.size f cdv))) (tk : DTk (ctxOf P w K mg base N_checked_state "checked_state" (defScope st_checked_state) f cdv A os s H E Wd B0 o none vs [])) :
    DPSs (ctxOf P w K mg base N_checked_state "checked_state" (defScope st_checked_state) f cdv A os s H E Wd B0 o none vs []) (defBody st_checked_state) (dn_checked_state Wd) :=
  have S := sc_checked_state
  (dss_cons (ds_if (dt_not (dt_val (de_fn h_is_state hr (by decide) tk rfl (da_cons (de_var 0 (nin_of rfl)) da_nil)))) (dss_one (ds_raise e_InvalidState rfl tk rfl)) dss_nil)
    (dss_one (ds_ret (de_lstI rfl n_list (da_cons (de_var 0 (nin_of rfl)) da_nil)))))
theorem law_checked_state (ts : List T) (Q : T → T → Prop) (W : Exn → T → Prop) (h : sp_checked_state ts Q W) : dn_checked_state (finX none W) (fin0 none Q) (slots0 1 ts) := by
  obtain ⟨d, rfl, ⟨ns, hd, hs, q⟩ | ⟨hb, q⟩⟩ := h
  · refine dSeq.mk ⟨⟨d, rfl, .inl ⟨ns, hd, hs, br_f rfl ?_⟩⟩⟩
    exact (show dRet (dCB dLstI (dCons (dVar 0) dNil)) (fin0 none Q) [.bor d] from ⟨ns, hd.imp (congrArg some) (congrArg some), q⟩)
  · exact dSeq.mk ⟨⟨d, rfl, .inr ⟨hb, br_t rfl q⟩⟩⟩
theorem range_at {n j : Nat} {pre post : List Nat} (e : List.range n = pre ++ j :: post) : j = pre.length ∧ j < n := by
  have hj : j < n := List.mem_range.mp (by rw [e]; simp)
  have h1 := congrArg (fun l => l[pre.length]?) e
  simp only [List.getElem?_append_right (Nat.le_refl pre.length), Nat.sub_self] at h1
  have hp : pre.length < n := by have := congrArg List.length e; simp at this; omega
  rw [List.getElem?_range hp] at h1
  exact ⟨by simpa using h1.symm, hj⟩
theorem factF_bd : ∀ (k : Nat), k ≤ 500 → 0 ≤ factF k ∧ factF k ≤ (2 : Int) ^ (9 * k)
  | 0, _ => by decide
  | k + 1, h => by
    obtain ⟨a, b⟩ := factF_bd k (by omega)
    rw [factF_succ]
    refine ⟨Int.mul_nonneg a (by omega), ?_⟩
    rw [Nat.mul_succ, Int.pow_add]
    exact Int.mul_le_mul b (Int.le_trans (by omega : (k : Int) + 2 ≤ 512) (by decide)) (by omega) (Int.pow_nonneg (by decide))
def sp_factorial : DSp := fun ts Q _ => ∃ n : Int, ts = [.bor (.int n)] ∧ 0 ≤ n ∧ n ≤ 400 ∧ Q (.dat (.int (factI n))) .emp
theorem mono_factorial : Mono sp_factorial := fun ts R R' W W' hr _ ⟨n, e, h1, h2, q⟩ => ⟨n, e, h1, h2, hr _ _ q⟩
theorem use_fact {n : Int} {Q : T → T → Prop} {W : Exn → T → Prop} (h0 : 0 ≤ n) (h1 : n ≤ 400) (q : Q (.dat (.int (factI n))) .emp) : Spc sp_factorial [.bor (.int n)] Q W := ⟨⟨n, rfl, h0, h1, q⟩⟩
def ms_factorial : List Md := [.bor]
def dn_factorial (Wd : Exn → List T → Prop) : DS := (dSeq (dAsg (dC (.int 1)) (dgName 1))
    (dSeq (dForS (dRange2 (dCons (dC (.int 2)) (dCons (dOp dAdd (dVar 0) (dC (.int 1))) dNil))) (dgName 2) (dAugM 1 (dVar 2)))
    (dRet (dVarM 1))))
abbrev st_factorial : Stmt := PySem.Challenge.pw_teesizes_k05_numbers_of_words.main.body.getD 13 (.Pass ⟨0, 0, 0, 0⟩)
abbrev N_factorial : List Str := ["number", "found", "factor"]
theorem sc_factorial : FnScope N_factorial ["number"] (defScope st_factorial) := ⟨rfl, rfl, rfl, by decide +kernel, rfl, by decide +kernel, by decide +kernel⟩
theorem dp_factorial {P : Program} {w : World} {K : PySem.W.Frag} {mg : Str → Option Value} {base : Heap} {f : Addr} {cdv : Value} {A : Around} {os : List Env} {s : Shared} {H : Hp} {E : XK} {Wd : Exn → List T → Prop} {B0 : Addr → Prop} {o : List Addr} {vs : List V} (n_range : mg "range" = none)
    (hr : RoomG 0 (A.deeper (PyProof.Rows.envOfC "factorial" (defScope st_factorial) s.heap.objs.size f cdv))) (tk : DTk (ctxOf P w K mg base N_factorial "factorial" (defScope st_factorial) f cdv A os s H E Wd B0 o none vs [])) :
    DPSs (ctxOf P w K mg base N_factorial "factorial" (defScope st_factorial) f cdv A os s H E Wd B0 o none vs []) (defBody st_factorial) (dn_factorial Wd) :=
  have S := sc_factorial
  (dss_cons (ds_set S.nd (i := 1) rfl (Or.inl rfl) (nin_of rfl) de_int)
    (dss_cons (ds_for (passes_of rfl) rfl (di_range2 rfl n_range (da_cons de_int (da_cons (de_add (de_var 0 (nin_of rfl)) de_int) da_nil))) (dg_name S.nd (i := 2) rfl (Or.inl rfl) (nin_of rfl)) (dss_one (ds_augMul S.nd (i := 1) rfl (Or.inl rfl) (nin_of rfl) (de_var 2 (nin_of rfl)))))
    (dss_one (ds_ret (de_varM 1)))))
theorem law_factorial (ts : List T) (Q : T → T → Prop) (W : Exn → T → Prop) (h : sp_factorial ts Q W) : dn_factorial (finX none W) (fin0 none Q) (slots0 3 ts) := by
  obtain ⟨n, rfl, n0, n1, q⟩ := h
  refine dSeq.mk (dSeq.mk (And.intro (a := -(2 ^ 62) ≤ (2 : Int) ∧ (2 : Int) < 2 ^ 62 ∧ -(2 ^ 62) ≤ n + 1 ∧ n + 1 < 2 ^ 62) (by omega) ?_))
  refine (show dFor _ _ _ ((List.range (n + 1 - 2).toNat).map fun i => T.dat (.int (2 + (i : Nat)))) [.bor (.int n), .dat (.int 1), .emp] from ?_)
  rw [show (n + 1 - 2).toNat = (n - 1).toNat by omega]
  refine for_pre (List.range (n - 1).toNat) _ (fun pre ρ => ∃  (x_factor : T), ρ = [.bor (.int n), .dat (.int (factF pre.length)), x_factor]) ⟨_, rfl⟩ (fun pre j post ρ K e p k => ?_) (fun ρ p => ?_)
  · obtain ⟨x_factor, rfl⟩ := p
    obtain ⟨ej, hj⟩ := range_at e
    subst ej
    obtain ⟨b1, b2⟩ := factF_bd pre.length (by omega)
    refine dg_i rfl ?_
    refine And.intro (a := CMulV (factF pre.length) (2 + ((pre.length : Nat) : Int))) (mulV_ok (a := 4501) (b := 64) (Nat.lt_succ_of_le (log_pow (b := 0) b1 (Int.le_trans b2 ?_))) (log2_lt (by omega) (by omega) (by decide)) (by decide)) ?_
    · have := Nat.pow_le_pow_right (n := 2) (by decide) (by omega : 9 * pre.length ≤ 4500)
      exact_mod_cast this
    have e1 : factF pre.length * (2 + ((pre.length : Nat) : Int)) = factF (pre ++ [pre.length]).length := by rw [List.length_append, List.length_singleton, factF_succ, Int.add_comm 2]
    rw [e1]
    exact k _ ⟨_, rfl⟩
  · obtain ⟨x_factor, rfl⟩ := p
    rw [List.length_range]
    exact q
def natS (ns : List Int) : Nat := (ns.map Int.toNat).sum
theorem natS_sum : ∀ {ns : List Int}, (∀ x ∈ ns, 0 ≤ x) → ((natS ns : Nat) : Int) = ns.sum
  | [], _ => rfl
  | x :: ns, h => by
    have ih := natS_sum (ns := ns) fun y hy => h y (List.mem_cons_of_mem _ hy)
    have := h x List.mem_cons_self
    have e : natS (x :: ns) = x.toNat + natS ns := rfl
    rw [e, List.sum_cons]; omega
theorem natS_app (a b : List Int) : natS (a ++ b) = natS a + natS b := by unfold natS; rw [List.map_append, List.sum_append]
theorem rowF_bd {a e : Int} {rest : List Int} {m : Nat} (a1 : 1 ≤ a) (a2 : a ≤ (2 : Int) ^ m) (he : e ≤ 400) (hl : rest.length ≤ 200) : ∀ n : Nat, n ≤ e.toNat → 1 ≤ rowF a e rest n ∧ rowF a e rest n ≤ (2 : Int) ^ (m + 10 * n)
  | 0, _ => ⟨a1, a2⟩
  | n + 1, h => by
    obtain ⟨b1, b2⟩ := rowF_bd a1 a2 he hl n (by omega)
    rw [rowF_succ]
    have fl : (rest.filter fun x => decide (((n : Nat) : Int) < x)).length ≤ 200 := Nat.le_trans (List.length_filter_le _ _) hl
    have h1 : 1 ≤ hookR e rest n ∧ hookR e rest n ≤ 1024 := by unfold hookR; omega
    refine ⟨?_, ?_⟩
    · have := Int.mul_le_mul b1 h1.1 (by decide) (by omega)
      omega
    · rw [Nat.mul_succ, ← Nat.add_assoc, Int.pow_add]
      exact Int.mul_le_mul b2 (Int.le_trans h1.2 (by decide)) (by omega) (Int.pow_nonneg (by decide))
theorem hookF_bd : ∀ (s : List Int) (a : Int) (m : Nat), 1 ≤ a → a ≤ (2 : Int) ^ m → (∀ x ∈ s, 0 ≤ x ∧ x ≤ 400) → s.length ≤ 200 → 1 ≤ hookF a s ∧ hookF a s ≤ (2 : Int) ^ (m + 10 * natS s)
  | [], a, m, h1, h2, _, _ => ⟨h1, h2⟩
  | e :: rest, a, m, h1, h2, hb, hl => by
    have he := hb e List.mem_cons_self
    have rl : rest.length ≤ 200 := by simp at hl; omega
    obtain ⟨b1, b2⟩ := rowF_bd (rest := rest) h1 h2 he.2 rl e.toNat (Nat.le_refl _)
    obtain ⟨c1, c2⟩ := hookF_bd rest _ _ b1 b2 (fun x hx => hb x (List.mem_cons_of_mem _ hx)) rl
    refine ⟨c1, ?_⟩
    have e1 : natS (e :: rest) = e.toNat + natS rest := rfl
    rw [e1, Nat.mul_add, ← Nat.add_assoc]
    exact c2
def sp_hook_product : DSp := fun ts Q _ => ∃ (ns : List Int), ts = [.bor (.list (ns.map .int))] ∧ ns.length ≤ 200 ∧ (∀ x ∈ ns, 0 ≤ x) ∧ ns.sum ≤ 400 ∧ Q (.dat (.int (hookF 1 ns))) .emp
theorem mono_hook_product : Mono sp_hook_product := fun ts R R' W W' hr _ ⟨n, e, h1, h2, h3, q⟩ => ⟨n, e, h1, h2, h3, hr _ _ q⟩
theorem use_hook {ns : List Int} {Q : T → T → Prop} {W : Exn → T → Prop} (h1 : ns.length ≤ 200) (h2 : ∀ x ∈ ns, 0 ≤ x) (h3 : ns.sum ≤ 400) (q : Q (.dat (.int (hookF 1 ns))) .emp) : Spc sp_hook_product [.bor (.list (ns.map .int))] Q W := ⟨⟨ns, rfl, h1, h2, h3, q⟩⟩
def ms_hook_product : List Md := [.bor]
def dn_hook_product (Wd : Exn → List T → Prop) : DS := (dSeq (dAsg (dC (.int 1)) (dgName 1))
    (dSeq (dForS (dEnumI (dCons (dVarF 0) dNil)) (dgTup 2 (dgCons (dgName 2) (dgCons (dgName 3) dgNil))) (dForS (dRange1 (dCons (dVar 3) dNil)) (dgName 4) (dAugM 1 (dOp dAdd (dOp dSub (dVar 3) (dVar 4)) (dCB dLen (dCons (dLc (dSeqI (dSl (dVar 0) (dPart (dOp dAdd (dVar 2) (dC (.int 1)))) dNoPart)) (Tgt.one 5).d (tVal (dOp dGt (dVarF 5) (dVar 4))) (dVarF 5) [5]) dNil))))))
    (dRet (dVarM 1))))
abbrev st_hook_product : Stmt := PySem.Challenge.pw_teesizes_k05_numbers_of_words.main.body.getD 14 (.Pass ⟨0, 0, 0, 0⟩)
abbrev N_hook_product : List Str := ["state", "found", "index", "entry", "cell", "later"]
theorem sc_hook_product : FnScope N_hook_product ["state"] (defScope st_hook_product) := ⟨rfl, rfl, rfl, by decide +kernel, rfl, by decide +kernel, by decide +kernel⟩
theorem dp_hook_product {P : Program} {w : World} {K : PySem.W.Frag} {mg : Str → Option Value} {base : Heap} {f : Addr} {cdv : Value} {A : Around} {os : List Env} {s : Shared} {H : Hp} {E : XK} {Wd : Exn → List T → Prop} {B0 : Addr → Prop} {o : List Addr} {vs : List V} (n_enumerate : mg "enumerate" = none) (n_len : mg "len" = none) (n_range : mg "range" = none)
    (hr : RoomG 0 (A.deeper (PyProof.Rows.envOfC "hook_product" (defScope st_hook_product) s.heap.objs.size f cdv))) (tk : DTk (ctxOf P w K mg base N_hook_product "hook_product" (defScope st_hook_product) f cdv A os s H E Wd B0 o none vs [5])) :
    DPSs (ctxOf P w K mg base N_hook_product "hook_product" (defScope st_hook_product) f cdv A os s H E Wd B0 o none vs [5]) (defBody st_hook_product) (dn_hook_product Wd) :=
  have S := sc_hook_product
  (dss_cons (ds_set S.nd (i := 1) rfl (Or.inl rfl) (nin_of rfl) de_int)
    (dss_cons (ds_for (passes_of rfl) rfl (di_enum rfl n_enumerate (da_cons (de_varF 0) da_nil)) (dg_tup rfl (dgs_cons (dg_name S.nd (i := 2) rfl (Or.inl rfl) (nin_of rfl)) (dgs_cons (dg_name S.nd (i := 3) rfl (Or.inl rfl) (nin_of rfl)) dgs_nil))) (dss_one (ds_for (passes_of rfl) rfl (di_range1 rfl n_range (da_cons (de_var 3 (nin_of rfl)) da_nil)) (dg_name S.nd (i := 4) rfl (Or.inr rfl) (nin_of rfl)) (dss_one (ds_augMul S.nd (i := 1) rfl (Or.inl rfl) (nin_of rfl) (de_add (de_sub (de_var 3 (nin_of rfl)) (de_var 4 (nin_of rfl))) (de_len rfl n_len (da_cons (de_lc rfl S.nd (own := [(("later" : Str), 5)]) (tg := (Tgt.one 5)) (di_seq (de_slice (de_var 0 (nin_of rfl)) (do_some (de_add (de_var 2 (nin_of rfl)) de_int)) do_none)) (blk_of (N := N_hook_product) (sc := defScope st_hook_product) (by decide +kernel)) (tgt_one S.nd rfl (Or.inl rfl) rfl) (fun _ _ _ _ _ => (dts_one (dt_cmpD dc_gt (de_varF 5) (de_var 4 (nin_of rfl))))) (fun _ _ _ _ _ => (de_varF 5)) (by decide) (own_of rfl)) da_nil))))))))
    (dss_one (ds_ret (de_varM 1)))))
theorem law_hook_product (ts : List T) (Q : T → T → Prop) (W : Exn → T → Prop) (h : sp_hook_product ts Q W) : dn_hook_product (finX none W) (fin0 none Q) (slots0 6 ts) := by
  obtain ⟨ns, rfl, hl, h0, hs, q⟩ := h
  have tot := natS_sum h0
  refine dSeq.mk (dSeq.mk (And.intro rfl ?_))
  refine for_preA ns.zipIdx (fun q => .tup [.dat (.int (q.2 : Nat)), .bor (.int q.1)]) ?_ (fun pre ρ => ∃ (a : Int) (x_index x_entry x_cell : T), ρ = [.bor (.list (ns.map .int)), .dat (.int a), x_index, x_entry, x_cell, .emp] ∧ hookF a (ns.drop pre.length) = hookF 1 ns ∧ 1 ≤ a ∧ a ≤ (2 : Int) ^ (10 * natS (ns.take pre.length))) ⟨1, _, _, _, rfl, ⟨rfl, by decide, by rw [List.length_nil, List.take_zero]; decide⟩⟩ (fun pre z post ρ K ep p k => ?_) (fun ρ p => ?_)
  · unfold enumT
    rw [List.map_map, List.zipIdx_map, List.map_map]; rfl
  · obtain ⟨a, x_index, x_entry, x_cell, rfl, ⟨hf, a1, a2⟩⟩ := p
    have ez : (ns.zipIdx)[pre.length]? = some z := by rw [ep, List.getElem?_append_right (Nat.le_refl _)]; simp
    rw [List.getElem?_zipIdx, Option.map_eq_some_iff] at ez
    obtain ⟨e, ek, rfl⟩ := ez
    have lp : (pre ++ [(e, 0 + pre.length)]).length = pre.length + 1 := by simp
    rw [lp] at k
    rw [Nat.zero_add]
    obtain ⟨i, hi⟩ : ∃ i, i = pre.length := ⟨_, rfl⟩
    rw [← hi] at ek hf a2 k ⊢
    have il := (List.getElem?_eq_some_iff.mp ek).1
    have dk : ns.drop i = e :: ns.drop (i + 1) := by rw [List.drop_eq_getElem_cons il]; rw [List.getElem?_eq_getElem il] at ek; cases ek; rfl
    have tk : ns.take (i + 1) = ns.take i ++ [e] := by rw [List.take_succ, ek]; rfl
    have e0 : 0 ≤ e := h0 e (List.mem_of_getElem? ek)
    have nt : natS ns = natS (ns.take i) + (e.toNat + natS (ns.drop (i + 1))) := by
      have h1 : natS (ns.drop i) = e.toNat + natS (ns.drop (i + 1)) := by rw [dk]; rfl
      rw [← h1, ← natS_app, List.take_append_drop]
    have nt2 : natS (ns.take (i + 1)) = natS (ns.take i) + e.toNat := by rw [tk, natS_app]; rfl
    rw [dk] at hf
    have rl : (ns.drop (i + 1)).length ≤ 200 := by rw [List.length_drop]; omega
    have e4 : e ≤ 400 := by omega
    have bd := rowF_bd (rest := ns.drop (i + 1)) a1 a2 e4 rl
    obtain ⟨rest, hrest⟩ : ∃ rest, rest = ns.drop (i + 1) := ⟨_, rfl⟩
    rw [← hrest] at hf rl bd
    refine And.intro rfl ?_
    refine And.intro (a := -(2 ^ 62) ≤ e ∧ e < 2 ^ 62) (by omega) ?_
    refine (show dFor _ _ _ ((List.range e.toNat).map fun c => T.dat (.int (0 + (c : Nat)))) _ from ?_)
    refine for_pre (List.range e.toNat) _ (fun pr ρ => ∃  (x_cell : T), ρ = [.bor (.list (ns.map .int)), .dat (.int (rowF a e rest pr.length)), .dat (.int (i : Nat)), .bor (.int e), x_cell, .emp]) ⟨_, rfl⟩ (fun pr c pos ρ K2 e2 p k2 => ?_) (fun ρ p => ?_)
    · obtain ⟨x_cell, rfl⟩ := p
      obtain ⟨ec, hc⟩ := range_at e2
      subst ec
      have lc : (pr ++ [pr.length]).length = pr.length + 1 := by simp
      rw [lc] at k2
      obtain ⟨b1, b2⟩ := bd pr.length (by omega)
      obtain ⟨c, hcc⟩ : ∃ c, c = pr.length := ⟨_, rfl⟩
      rw [← hcc] at k2 b1 b2 hc ⊢
      have c0 : (0 : Int) + ((c : Nat) : Int) = (c : Nat) := by omega
      rw [c0]
      refine dg_i rfl ?_
      refine (show dLcGo _ _ _ _ _ ((Ds.cut (ns.map PyData.int) (some (((i : Nat) : Int) + 1)) none).map T.bor) [] [.bor (.list (ns.map .int)), .dat (.int (rowF a e rest c)), .dat (.int (i : Nat)), .bor (.int e), .dat (.int (c : Nat)), .emp] from ?_)
      refine lc_flA (i := 5) rest (fun x => T.bor (.int x)) [.bor (.list (ns.map .int)), .dat (.int (rowF a e rest c)), .dat (.int (i : Nat)), .bor (.int e), .dat (.int (c : Nat)), .emp] ?_ rfl (fun x => decide (((c : Nat) : Int) < x)) (fun x => .int x) rfl (Nat.le_trans rl (by decide)) (fun _ _ => rfl) (fun x hx P R' hP hR' => ?_) ?_
      · rw [show (((i : Nat) : Int) + 1) = ((i + 1 : Nat) : Int) by push_cast; rfl, cut_from, ← List.map_drop, ← hrest, List.map_map]; rfl
      · exact br_dec (fun h => hP (decide_eq_true h) _ rfl) fun h => hR' (decide_eq_false h)
      · have fl : ((rest.filter fun x => decide (((c : Nat) : Int) < x)).map PyData.int).length = (rest.filter fun x => decide (((c : Nat) : Int) < x)).length := List.length_map _
        have fl2 : (rest.filter fun x => decide (((c : Nat) : Int) < x)).length ≤ 200 := Nat.le_trans (List.length_filter_le _ _) rl
        have hh : e - ((c : Nat) : Int) + ((((rest.filter fun x => decide (((c : Nat) : Int) < x)).map PyData.int).length : Nat) : Int) = hookR e rest c := by rw [fl]; rfl
        refine And.intro (a := CMulV (rowF a e rest c) (e - ((c : Nat) : Int) + ((((rest.filter fun x => decide (((c : Nat) : Int) < x)).map PyData.int).length : Nat) : Int))) (mulV_ok (a := 8001) (b := 64) (Nat.lt_succ_of_le (log_pow (b := 0) (by omega) (Int.le_trans b2 ?_))) (log2_lt (by omega) (by omega) (by decide)) (by decide)) ?_
        · have := Nat.pow_le_pow_right (n := 2) (by decide) (by omega : 10 * natS (ns.take i) + 10 * c ≤ 8000)
          exact_mod_cast this
        rw [hh, ← rowF_succ]
        exact k2 _ ⟨_, rfl⟩
    · obtain ⟨x_cell, rfl⟩ := p
      rw [List.length_range]
      obtain ⟨b1, b2⟩ := bd e.toNat (Nat.le_refl _)
      refine k _ ⟨(rowF a e rest e.toNat), _, _, _, rfl, ⟨?_, b1, ?_⟩⟩
      · rw [← hrest]; exact hf
      · rw [nt2, Nat.mul_add]; exact b2
  · obtain ⟨a, x_index, x_entry, x_cell, rfl, ⟨hf, a1, a2⟩⟩ := p
    rw [List.length_zipIdx, List.drop_length] at hf
    have hf : a = hookF 1 ns := hf
    rw [hf]
    exact q
def sp_count_words : DSp := fun ts Q _ => ∃ (d : D) (s : List Int), ts = [.bor d] ∧ (d = .list (s.map .int) ∨ d = .tuple (s.map .int)) ∧ StOk s ∧ s.sum ≤ 400 ∧ Q (.dat (.int (wordsS s))) .emp
theorem mono_count_words : Mono sp_count_words := fun ts R R' W W' hr _ ⟨d, n, e, h1, h2, h3, q⟩ => ⟨d, n, e, h1, h2, h3, hr _ _ q⟩
theorem use_words {d : D} {s : List Int} {Q : T → T → Prop} {W : Exn → T → Prop} (h1 : d = .list (s.map .int) ∨ d = .tuple (s.map .int)) (h2 : StOk s) (h3 : s.sum ≤ 400) (q : Q (.dat (.int (wordsS s))) .emp) : Spc sp_count_words [.bor d] Q W := ⟨⟨d, s, rfl, h1, h2, h3, q⟩⟩
theorem sum_nn : ∀ {s : List Int}, (∀ x ∈ s, 0 ≤ x) → 0 ≤ s.sum ∧ ∀ x ∈ s, x ≤ s.sum
  | [], _ => ⟨Int.le_refl _, fun x hx => by simp at hx⟩
  | y :: s, h => by
    obtain ⟨a, b⟩ := sum_nn (s := s) fun z hz => h z (List.mem_cons_of_mem _ hz)
    have := h y List.mem_cons_self
    rw [List.sum_cons]
    refine ⟨by omega, fun x hx => ?_⟩
    rcases List.mem_cons.mp hx with rfl | hx
    · omega
    · have := b x hx; omega
def ms_count_words : List Md := [.bor]
def dn_count_words (Wd : Exn → List T → Prop) : DS := (dSeq (dAsg (dCall ms_checked_state sp_checked_state Wd (dCons (dVar 0) dNil)) (dgName 1))
    (dSeq (dIfS (tVal (dOp dGt (dCB dSum (dCons (dVar 1) dNil)) (dC (.int 400)))) (dRaiseF Wd "TooLong" "length" (dCB dSum (dCons (dVar 1) dNil))) dNext)
    (dRet (dOp dFdiv (dCall ms_factorial sp_factorial Wd (dCons (dCB dSum (dCons (dVar 1) dNil)) dNil)) (dCall ms_hook_product sp_hook_product Wd (dCons (dVar 1) dNil))))))
abbrev st_count_words : Stmt := PySem.Challenge.pw_teesizes_k05_numbers_of_words.main.body.getD 15 (.Pass ⟨0, 0, 0, 0⟩)
abbrev N_count_words : List Str := ["state", "entries"]
theorem sc_count_words : FnScope N_count_words ["state"] (defScope st_count_words) := ⟨rfl, rfl, rfl, by decide +kernel, rfl, by decide +kernel, by decide +kernel⟩
theorem dp_count_words {P : Program} {w : World} {K : PySem.W.Frag} {mg : Str → Option Value} {base : Heap} {f : Addr} {cdv : Value} {A : Around} {os : List Env} {s : Shared} {H : Hp} {E : XK} {Wd : Exn → List T → Prop} {B0 : Addr → Prop} {o : List Addr} {vs : List V} (n_sum : mg "sum" = none) (c_MAX_READS : HasC mg "MAX_READS" (.int 400)) (f_TooLong : HasEF P w K mg base "TooLong" "length") (h_checked_state : Has P w K mg base "checked_state" 3 ["value"] ms_checked_state sp_checked_state) (h_factorial : Has P w K mg base "factorial" 1 ["number"] ms_factorial sp_factorial) (h_hook_product : Has P w K mg base "hook_product" 1 ["state"] ms_hook_product sp_hook_product)
    (hr : RoomG 3 (A.deeper (PyProof.Rows.envOfC "count_words" (defScope st_count_words) s.heap.objs.size f cdv))) (tk : DTk (ctxOf P w K mg base N_count_words "count_words" (defScope st_count_words) f cdv A os s H E Wd B0 o none vs [])) :
    DPSs (ctxOf P w K mg base N_count_words "count_words" (defScope st_count_words) f cdv A os s H E Wd B0 o none vs []) (defBody st_count_words) (dn_count_words Wd) :=
  have S := sc_count_words
  (dss_cons (ds_set S.nd (i := 1) rfl (Or.inl rfl) (nin_of rfl) (de_fn h_checked_state hr (by decide) tk rfl (da_cons (de_var 0 (nin_of rfl)) da_nil)))
    (dss_cons (ds_if (dt_cmpD dc_gt (de_sum rfl n_sum rfl (da_cons (de_var 1 (nin_of rfl)) da_nil)) (de_const c_MAX_READS rfl rfl)) (dss_one (ds_raiseF f_TooLong hr (by decide) rfl tk rfl (de_sum rfl n_sum rfl (da_cons (de_var 1 (nin_of rfl)) da_nil)))) dss_nil)
    (dss_one (ds_ret (de_fdiv (de_fn h_factorial hr (by decide) tk rfl (da_cons (de_sum rfl n_sum rfl (da_cons (de_var 1 (nin_of rfl)) da_nil)) da_nil)) (de_fn h_hook_product hr (by decide) tk rfl (da_cons (de_var 1 (nin_of rfl)) da_nil)))))))
theorem law_count_words (ts : List T) (Q : T → T → Prop) (W : Exn → T → Prop) (h : sp_count_words ts Q W) : dn_count_words (finX none W) (fin0 none Q) (slots0 2 ts) := by
  obtain ⟨d, s, rfl, hd, st, hs, q⟩ := h
  have s0 : ∀ x ∈ s, 0 ≤ x := fun x hx => (st.bd x hx).1
  obtain ⟨t0, t1⟩ := sum_nn s0
  have l2 := st.l2
  have tot := natS_sum s0
  obtain ⟨c1, c2⟩ := hookF_bd s 1 0 (by decide) (by decide) (fun x hx => ⟨s0 x hx, by have := t1 x hx; omega⟩) l2
  refine dSeq.mk (use_ckState hd st ?_)
  refine sq_at [.bor d, .own (s.map .int)] rfl ?_
  refine dSeq.mk ⟨s, rfl, br_f (decide_eq_false (by omega)) ?_⟩
  refine ⟨s, rfl, use_fact t0 hs (use_hook l2 s0 hs ?_)⟩
  refine And.intro (a := CDivW (factI s.sum) (hookF 1 s)) ⟨by omega, ?_⟩ q
  refine Nat.lt_succ_of_le (log_pow (b := 0) (by omega) (Int.le_trans c2 ?_))
  have := Nat.pow_le_pow_right (n := 2) (by decide) (by omega : 0 + 10 * natS s ≤ 8999)
  exact_mod_cast this
def sp__law_reel : DSp := fun ts Q _ => ∃ ns : List Int, ts = [.scr ns] ∧ ns.length ≤ 63 ∧ Q (.own (reelOf ns).d) (.scr ns)
theorem mono__law_reel : Mono sp__law_reel := fun ts R R' W W' hr _ ⟨ns, e, h, q⟩ => ⟨ns, e, h, hr _ _ q⟩
def ms__law_reel : List Md := [.lend]
def dn__law_reel (Wd : Exn → List T → Prop) : DS := (dSeq (dAsg (dOp dPow (dC (.int 23)) (dC (.int 29))) (dgName 1))
    (dSeq (dForS (dSeqI (dSl (dVar 0) dNoPart (dPart (dC (.int 63))))) (dgName 2) (dAsg (dOp dMod (dOp dAdd (dOp dAdd (dOp dMul (dVar 1) (dVar 1)) (dOp dMod (dVarF 2) (dC (.int 1000000000000000003)))) (dC (.int 29))) (dOp dSub (dOp dMul (dOp dPow (dC (.int 2)) (dC (.int 64))) (dOp dPow (dC (.int 2)) (dC (.int 63)))) (dC (.int 1)))) (dgName 1)))
    (dSeq (dAsg (dLc (dSeqI (dSl (dVar 0) dNoPart (dPart (dC (.int 63))))) (Tgt.one 2).d (tVal (dOp dGe (dVarF 2) (dOp dPow (dC (.int 10)) (dC (.int 18))))) (dOp dSub (dVarF 2) (dOp dPow (dC (.int 10)) (dC (.int 18)))) [2]) (dgName 3))
    (dRet (dLst (dCons (dVarF 3) (dCons (dOp dAdd (dLc (dSeqI (dSl (dVar 0) dNoPart (dPart (dC (.int 63))))) (Tgt.one 2).d dYes (dOp dMod (dVarF 2) (dC (.int 1000003))) [2]) (dLst (dCons (dC (.int 57)) dNil))) (dCons (dC (.int 0)) (dCons (dVarF 1) dNil)))))))))
abbrev st__law_reel : Stmt := PySem.Challenge.pw_teesizes_k05_numbers_of_words.main.body.getD 17 (.Pass ⟨0, 0, 0, 0⟩)
abbrev N__law_reel : List Str := ["script", "stir", "cell", "great"]
theorem sc__law_reel : FnScope N__law_reel ["script"] (defScope st__law_reel) := ⟨rfl, rfl, rfl, by decide +kernel, rfl, by decide +kernel, by decide +kernel⟩
theorem dp__law_reel {P : Program} {w : World} {K : PySem.W.Frag} {mg : Str → Option Value} {base : Heap} {f : Addr} {cdv : Value} {A : Around} {os : List Env} {s : Shared} {H : Hp} {E : XK} {Wd : Exn → List T → Prop} {B0 : Addr → Prop} {o : List Addr} {vs : List V}
    (hr : RoomG 0 (A.deeper (PyProof.Rows.envOfC "_law_reel" (defScope st__law_reel) s.heap.objs.size f cdv))) (tk : DTk (ctxOf P w K mg base N__law_reel "_law_reel" (defScope st__law_reel) f cdv A os s H E Wd B0 o (some 0) vs [2])) :
    DPSs (ctxOf P w K mg base N__law_reel "_law_reel" (defScope st__law_reel) f cdv A os s H E Wd B0 o (some 0) vs [2]) (defBody st__law_reel) (dn__law_reel Wd) :=
  have S := sc__law_reel
  (dss_cons (ds_set S.nd (i := 1) rfl (Or.inl rfl) (nin_of rfl) (de_pow de_int de_int))
    (dss_cons (ds_for (passes_of rfl) rfl (di_seq (de_slice (de_var 0 (nin_of rfl)) do_none (do_some de_int))) (dg_name S.nd (i := 2) rfl (Or.inl rfl) (nin_of rfl)) (dss_one (ds_set S.nd (i := 1) rfl (Or.inl rfl) (nin_of rfl) (de_mod (de_add (de_add (de_mul (de_var 1 (nin_of rfl)) (de_var 1 (nin_of rfl))) (de_mod (de_varF 2) de_int)) de_int) (de_sub (de_mul (de_pow de_int de_int) (de_pow de_int de_int)) de_int)))))
    (dss_cons (ds_setLc (i := 3) rfl S.nd rfl rfl (nin_of rfl) rfl (own := [(("cell" : Str), 2)]) (tg := (Tgt.one 2)) (di_seq (de_slice (de_var 0 (nin_of rfl)) do_none (do_some de_int))) (blk_of (N := N__law_reel) (sc := defScope st__law_reel) (by decide +kernel)) (tgt_one S.nd rfl (Or.inl rfl) rfl) (fun _ _ _ _ _ => (dts_one (dt_cmpD dc_ge (de_varF 2) (de_pow de_int de_int)))) (fun _ _ _ _ _ => (de_sub (de_varF 2) (de_pow de_int de_int))) (by decide) (own_of rfl))
    (dss_one (ds_ret (de_lst (da_cons (de_varF 3) (da_cons (de_add (de_lc rfl S.nd (own := [(("cell" : Str), 2)]) (tg := (Tgt.one 2)) (di_seq (de_slice (de_var 0 (nin_of rfl)) do_none (do_some de_int))) (blk_of (N := N__law_reel) (sc := defScope st__law_reel) (by decide +kernel)) (tgt_one S.nd rfl (Or.inl rfl) rfl) (fun _ _ _ _ _ => dts_nil) (fun _ _ _ _ _ => (de_mod (de_varF 2) de_int)) (by decide) (own_of rfl)) (de_lst (da_cons de_int da_nil))) (da_cons de_int (da_cons (de_varF 1) da_nil))))))))))
theorem law__law_reel (ts : List T) (Q : T → T → Prop) (W : Exn → T → Prop) (h : sp__law_reel ts Q W) : dn__law_reel (finX (some 0) W) (fin0 (some 0) Q) (slots0 4 ts) := by
  obtain ⟨ns, rfl, hl, q⟩ := h
  have ct : cut ns none (some 63) = ns := by rw [show cut ns none (some 63) = _ from cut_to ns 63, List.take_of_length_le hl]
  refine dSeq.mk (And.intro (a := CPow 23 29) (by unfold CPow; decide) (dSeq.mk ?_))
  show dFor _ _ _ (((cut ns none (some 63)).map PyData.int).map T.dat) _
  rw [ct]
  refine dFor_inv (fun i ρ => ∃ x, ρ = [.scr ns, .dat (.int ((ns.take i).foldl reelStep (23 ^ 29))), x, .emp]) ⟨_, rfl⟩ (fun i t ρ K et p k => ?_) (fun ρ p => ?_)
  · obtain ⟨x, rfl⟩ := p
    rw [List.getElem?_map, List.getElem?_map] at et
    obtain ⟨d, ed, rfl⟩ := Option.map_eq_some_iff.mp et
    obtain ⟨c, ec, rfl⟩ := Option.map_eq_some_iff.mp ed
    obtain ⟨h1, h2⟩ := stirs_ok (ns.take i)
    refine And.intro (a := CMulW _ _) (mul_ok (a := 132) (b := 132) (log2_lt h1 h2 (by decide)) (log2_lt h1 h2 (by decide)) (by decide)) ?_
    refine And.intro (a := (0 : Int) < 1000000000000000003) (by decide) ?_
    refine And.intro (a := CPow 2 64) (by unfold CPow; decide) (And.intro (a := CPow 2 63) (by unfold CPow; decide) (And.intro (a := CMulW (2 ^ 64) (2 ^ 63)) (by unfold CMulW; decide) (And.intro (a := (0 : Int) < 2 ^ 64 * 2 ^ 63 - 1) (by decide) ?_)))
    refine k _ ⟨.dat (.int c), ?_⟩
    rw [List.take_succ, ec]
    rw [show (some c).toList = [c] from rfl, List.foldl_append]
    rfl
  · obtain ⟨x, rfl⟩ := p
    rw [List.length_map, List.length_map, List.take_length]
    refine dSeq.mk ?_
    show dLcGo _ _ _ [2] _ (((cut ns none (some 63)).map PyData.int).map T.dat) [] [.scr ns, .dat (.int (ns.foldl reelStep (23 ^ 29))), .emp, .emp]
    rw [ct]
    refine lc_pure (fun t => match t with | .dat (.int c) => (if (10 : Int) ^ 18 ≤ c then some (.int (c - 10 ^ 18)) else none) | _ => none) rfl (by simp; exact Nat.le_trans hl (by decide)) (fun t ht => ?_) ?_
    · simp only [List.mem_map] at ht
      obtain ⟨_, ⟨c, hc, rfl⟩, rfl⟩ := ht
      refine ⟨rfl, fun P R hp hr => ?_⟩
      refine And.intro (a := CPow 10 18) (by unfold CPow; decide) (br_dec (c := (10 : Int) ^ 18 ≤ c) (fun h => ?_) fun h => ?_)
      · exact And.intro (a := CPow 10 18) (by unfold CPow; decide) (hp _ _ (if_pos h) rfl)
      · exact hr (if_neg h)
    · have e1 : ∀ l : List Int, ((l.map PyData.int).map T.dat).filterMap (fun t => match t with | .dat (.int c) => (if (10 : Int) ^ 18 ≤ c then some (.int (c - 10 ^ 18)) else none) | _ => none) = ((l.filter fun c => decide (10 ^ 18 ≤ c)).map (· - 10 ^ 18)).map PyData.int := by
        intro l
        induction l with
        | nil => rfl
        | cons c l ih =>
          rw [List.map_cons, List.map_cons, List.filterMap_cons, ih]
          dsimp only
          by_cases h : (10 : Int) ^ 18 ≤ c
          · rw [if_pos h, List.filter_cons, if_pos (by simpa using h)]; rfl
          · rw [if_neg h, List.filter_cons, if_neg (by simpa using h)]
      rw [e1]
      show dLcGo _ _ _ [2] _ (((cut ns none (some 63)).map PyData.int).map T.dat) [] [.scr ns, .dat (.int (ns.foldl reelStep (23 ^ 29))), .emp, .dat (.list _)]
      rw [ct]
      refine lc_pure (fun t => match t with | .dat (.int c) => some (.int (c % 1000003)) | _ => none) rfl (by simp; exact Nat.le_trans hl (by decide)) (fun t ht => ?_) ?_
      · simp only [List.mem_map] at ht
        obtain ⟨_, ⟨c, hc, rfl⟩, rfl⟩ := ht
        exact ⟨rfl, fun P R hp hr => br_t rfl (And.intro (a := (0 : Int) < 1000003) (by decide) (hp _ _ rfl rfl))⟩
      · have e2 : ∀ l : List Int, ((l.map PyData.int).map T.dat).filterMap (fun t => match t with | .dat (.int c) => some (.int (c % 1000003)) | _ => none) = (l.map (· % 1000003)).map PyData.int := by
          intro l
          induction l with
          | nil => rfl
          | cons c l ih => rw [List.map_cons, List.map_cons, List.filterMap_cons, ih]; rfl
        rw [e2]
        refine And.intro (a := ((ns.map (· % 1000003)).map PyData.int).length + 1 ≤ sizeLine) (by simp; exact Nat.le_trans (by omega : _ ≤ 64) (by decide)) ?_
        have e3 : (reelOf ns).d = [.list (((ns.filter fun c => decide (10 ^ 18 ≤ c)).map (· - 10 ^ 18)).map PyData.int), .list ((ns.map (· % 1000003)).map PyData.int ++ [.int 57]), .int 0, .int (ns.foldl reelStep (23 ^ 29))] := by
          simp [Reel.d, reelOf]
        rw [e3] at q
        exact q
def sp__law_draw : DSp := fun ts Q _ => ∃ (r : Reel) (m : Int) (b : Nat), ts = [.own r.d, .dat (.int m)] ∧ r.Ok b ∧ b < 2 ^ 60 ∧ 0 < m ∧ m < 2 ^ 200 ∧ Q (.dat (.int (r.draw m).1)) (.own (r.draw m).2.d)
theorem use_draw {r : Reel} {m : Int} {b : Nat} {Q : T → T → Prop} {W : Exn → T → Prop} (o : r.Ok b) (hb : b < 2 ^ 60) (m0 : 0 < m) (m1 : m < 2 ^ 200) (q : ∀ (v : Int) (r' : Reel), 0 ≤ v → v < m → r'.Ok (b + 1) → Q (.dat (.int v)) (.own r'.d)) : Spc sp__law_draw [.own r.d, .dat (.int m)] Q W :=
  have d := Reel.draw_ok o m0
  ⟨⟨r, m, b, rfl, o, hb, m0, m1, q _ _ d.1 d.2.1 d.2.2⟩⟩
theorem mono__law_draw : Mono sp__law_draw := fun ts R R' W W' hr _ ⟨r, m, b, e, h1, h2, h3, h4, q⟩ => ⟨r, m, b, e, h1, h2, h3, h4, hr _ _ q⟩
def ms__law_draw : List Md := [.lend, .dat]
def dn__law_draw (Wd : Exn → List T → Prop) : DS := (dSeq (dIfS (tVal (dOp dNe (dOp dIx (dVar 0) (dC (.int 0))) (dLst dNil))) (dSeq (dAsg (dOp dIx (dOp dIx (dVar 0) (dC (.int 0))) (dC (.int 0))) (dgName 2))
    (dSeq (dAsg (dOp dAdd (dOp dMul (dLst (dCons (dOp dFdiv (dVar 2) (dVar 1)) dNil)) (dCB dInt (dCons (dOp dGe (dVar 2) (dVar 1)) dNil))) (dSl (dOp dIx (dVar 0) (dC (.int 0))) (dPart (dC (.int 1))) dNoPart)) (dSetIx 0 (dC (.int 0))))
    (dRet (dOp dMod (dVar 2) (dVar 1))))) dNext)
    (dSeq (dAsg (dOp dAdd (dOp dIx (dVar 0) (dC (.int 2))) (dC (.int 1))) (dSetIx 0 (dC (.int 2))))
    (dSeq (dAsg (dOp dIx (dOp dIx (dVar 0) (dC (.int 1))) (dOp dMod (dOp dIx (dVar 0) (dC (.int 2))) (dCB dLen (dCons (dOp dIx (dVar 0) (dC (.int 1))) dNil)))) (dgName 3))
    (dSeq (dAsg (dOp dAdd (dOp dAdd (dOp dMul (dOp dIx (dVar 0) (dC (.int 3))) (dOp dIx (dVar 0) (dC (.int 3)))) (dOp dMul (dOp dAdd (dVar 3) (dC (.int 17))) (dC (.int 27644437)))) (dOp dMul (dOp dIx (dVar 0) (dC (.int 2))) (dC (.int 999959)))) (dgName 4))
    (dSeq (dAsg (dOp dMod (dVar 4) (dOp dSub (dOp dMul (dOp dPow (dC (.int 2)) (dC (.int 64))) (dOp dPow (dC (.int 2)) (dC (.int 63)))) (dC (.int 1)))) (dSetIx 0 (dC (.int 3))))
    (dRet (dOp dMod (dOp dFdiv (dOp dIx (dVar 0) (dC (.int 3))) (dOp dPow (dC (.int 2)) (dC (.int 41)))) (dVar 1))))))))
abbrev st__law_draw : Stmt := PySem.Challenge.pw_teesizes_k05_numbers_of_words.main.body.getD 18 (.Pass ⟨0, 0, 0, 0⟩)
abbrev N__law_draw : List Str := ["reel", "many", "rest", "extra", "stir"]
theorem sc__law_draw : FnScope N__law_draw ["reel", "many"] (defScope st__law_draw) := ⟨rfl, rfl, rfl, by decide +kernel, rfl, by decide +kernel, by decide +kernel⟩
theorem dp__law_draw {P : Program} {w : World} {K : PySem.W.Frag} {mg : Str → Option Value} {base : Heap} {f : Addr} {cdv : Value} {A : Around} {os : List Env} {s : Shared} {H : Hp} {E : XK} {Wd : Exn → List T → Prop} {B0 : Addr → Prop} {o : List Addr} {vs : List V} (n_int : mg "int" = none) (n_len : mg "len" = none)
    (hr : RoomG 0 (A.deeper (PyProof.Rows.envOfC "_law_draw" (defScope st__law_draw) s.heap.objs.size f cdv))) (tk : DTk (ctxOf P w K mg base N__law_draw "_law_draw" (defScope st__law_draw) f cdv A os s H E Wd B0 o (some 0) vs [])) :
    DPSs (ctxOf P w K mg base N__law_draw "_law_draw" (defScope st__law_draw) f cdv A os s H E Wd B0 o (some 0) vs []) (defBody st__law_draw) (dn__law_draw Wd) :=
  have S := sc__law_draw
  (dss_cons (ds_if (dt_cmpD (dc_ne hr.units) (de_ix (de_var 0 (nin_of rfl)) de_int) (de_lst da_nil)) (dss_cons (ds_set S.nd (i := 2) rfl (Or.inl rfl) (nin_of rfl) (de_ix (de_ix (de_var 0 (nin_of rfl)) de_int) de_int))
    (dss_cons (ds_asg (de_add (de_mul (de_lst (da_cons (de_fdiv (de_var 2 (nin_of rfl)) (de_var 1 (nin_of rfl))) da_nil)) (de_int1 rfl n_int (da_cons (de_cmpD dc_ge (de_var 2 (nin_of rfl)) (de_var 1 (nin_of rfl))) da_nil))) (de_slice (de_ix (de_var 0 (nin_of rfl)) de_int) (do_some de_int) do_none)) (dg_setIx 0 rfl (Or.inl rfl) de_int))
    (dss_one (ds_ret (de_mod (de_var 2 (nin_of rfl)) (de_var 1 (nin_of rfl))))))) dss_nil)
    (dss_cons (ds_asg (de_add (de_ix (de_var 0 (nin_of rfl)) de_int) de_int) (dg_setIx 0 rfl (Or.inl rfl) de_int))
    (dss_cons (ds_set S.nd (i := 3) rfl (Or.inl rfl) (nin_of rfl) (de_ix (de_ix (de_var 0 (nin_of rfl)) de_int) (de_mod (de_ix (de_var 0 (nin_of rfl)) de_int) (de_len rfl n_len (da_cons (de_ix (de_var 0 (nin_of rfl)) de_int) da_nil)))))
    (dss_cons (ds_set S.nd (i := 4) rfl (Or.inl rfl) (nin_of rfl) (de_add (de_add (de_mul (de_ix (de_var 0 (nin_of rfl)) de_int) (de_ix (de_var 0 (nin_of rfl)) de_int)) (de_mul (de_add (de_var 3 (nin_of rfl)) de_int) de_int)) (de_mul (de_ix (de_var 0 (nin_of rfl)) de_int) de_int)))
    (dss_cons (ds_asg (de_mod (de_var 4 (nin_of rfl)) (de_sub (de_mul (de_pow de_int de_int) (de_pow de_int de_int)) de_int)) (dg_setIx 0 rfl (Or.inl rfl) de_int))
    (dss_one (ds_ret (de_mod (de_fdiv (de_ix (de_var 0 (nin_of rfl)) de_int) (de_pow de_int de_int)) (de_var 1 (nin_of rfl))))))))))
theorem law__law_draw (ts : List T) (Q : T → T → Prop) (W : Exn → T → Prop) (h : sp__law_draw ts Q W) :
    dn__law_draw (finX (some 0) W) (fin0 (some 0) Q) (slots0 5 ts) := by
  obtain ⟨⟨g, c, n, s⟩, m, b, rfl, ok, hb, m0, mb, q⟩ := h
  have hm : m.natAbs.log2 < 9000 := Nat.lt_trans (log2_lt (by omega) mb (by decide)) (by decide)
  cases g with
  | cons x g =>
    refine dSeq.mk (And.intro (shaped_ints (x :: g)) (And.intro rfl (br_t (b := !PyData.eqv (.list ((x :: g).map .int)) (.list [])) (by rw [List.map_cons, eqv_cons_nil]; rfl) ?_)))
    refine dSeq.mk (dSeq.mk ?_)
    refine And.intro (a := CDivW x m) ⟨m0, hm⟩ (And.intro (a := -(2 ^ 63) ≤ (if decide (m ≤ x) = true then (1 : Int) else 0) ∧ (if decide (m ≤ x) = true then (1 : Int) else 0) < 2 ^ 63 ∧ 1 * ((if decide (m ≤ x) = true then (1 : Int) else 0)).toNat ≤ sizeLine) (by split <;> decide) ?_)
    have hl := ok.gl
    simp at hl
    refine And.intro (a := (List.replicate ((if decide (m ≤ x) = true then (1 : Int) else 0)).toNat [PyData.int (x / m)]).flatten.length + (cut ((x :: g).map PyData.int) (some 1) none).length ≤ sizeLine) ?_ ?_
    · rw [show cut ((x :: g).map PyData.int) (some 1) none = _ from cut_from _ 1]
      split <;> simp <;> exact Nat.le_trans (by omega : _ ≤ 64) (by decide)
    · refine And.intro m0 ?_
      have e : (List.replicate ((if decide (m ≤ x) = true then (1 : Int) else 0)).toNat [PyData.int (x / m)]).flatten ++ cut ((x :: g).map PyData.int) (some 1) none = ((if x < m then [] else [x / m]) ++ g).map PyData.int := by
        rw [show cut ((x :: g).map PyData.int) (some 1) none = _ from cut_from _ 1]
        by_cases z : m ≤ x
        · rw [if_pos (decide_eq_true z), if_neg (by omega)]; simp
        · rw [if_neg (by simpa using z), if_pos (by omega)]; simp
      show Q (.dat (.int (x % m))) (.own [.list ((List.replicate ((if decide (m ≤ x) = true then (1 : Int) else 0)).toNat [PyData.int (x / m)]).flatten ++ cut ((x :: g).map PyData.int) (some 1) none), .list (c.map .int), .int n, .int s])
      rw [e]
      exact q
  | nil =>
    refine dSeq.mk (And.intro rfl (And.intro rfl (br_f (b := !PyData.eqv (.list []) (.list [])) (by rw [eqv_nil_nil]; rfl) ?_)))
    have hc : 0 < c.length := List.length_pos_iff.mpr ok.c0
    have n0 := ok.n0
    have nb := ok.nb
    have s0 := ok.s0
    have sb := ok.sb
    dsimp only at n0 nb s0 sb
    have lm : ((c.map PyData.int).length : Int) = c.length := by rw [List.length_map]
    let j := (n + 1) % ((c.map PyData.int).length : Int)
    have j0 : 0 ≤ j := Int.emod_nonneg _ (by omega)
    have jl : j < c.length := by rw [← lm]; exact Int.emod_lt_of_pos _ (by omega)
    let x := c.getD j.toNat 0
    have ex : x = c[j.toNat]'(by omega) := by show c.getD _ _ = _; rw [List.getD_eq_getElem?_getD, List.getElem?_eq_getElem (by omega)]; rfl
    have xb := ok.cb x (by rw [ex]; exact List.getElem_mem _)
    have hj : gI (c.map PyData.int) j = some (.int x) := by
      rw [gI_nat (k := j.toNat) (by omega), List.getElem?_map, List.getElem?_eq_getElem (by omega), ex]; rfl
    refine dSeq.mk (dSeq.mk ?_)
    refine And.intro (a := 0 < ((c.map PyData.int).length : Int)) (by omega) ?_
    refine wO_i (o := gI (c.map PyData.int) j) hj ?_
    refine dSeq.mk ?_
    refine And.intro (a := CMulW s s) (mul_ok (a := 132) (b := 132) (log2_lt s0 sb (by decide)) (log2_lt s0 sb (by decide)) (by decide)) ?_
    refine And.intro (a := CMulW (x + 17) 27644437) (mul_ok (a := 64) (b := 64) (log2_lt (by omega) (by omega) (by decide)) (by decide) (by decide)) ?_
    refine And.intro (a := CMulW (n + 1) 999959) (mul_ok (a := 64) (b := 64) (log2_lt (by omega) (by omega) (by decide)) (by decide) (by decide)) ?_
    refine dSeq.mk ?_
    refine And.intro (a := CPow 2 64) (by unfold CPow; decide) (And.intro (a := CPow 2 63) (by unfold CPow; decide) (And.intro (a := CMulW (2 ^ 64) (2 ^ 63)) (by unfold CMulW; decide) (And.intro (a := (0 : Int) < 2 ^ 64 * 2 ^ 63 - 1) (by decide) ?_)))
    refine And.intro (a := CPow 2 41) (by unfold CPow; decide) (And.intro (a := CDivW _ (2 ^ 41)) (by unfold CDivW; decide) (And.intro m0 ?_))
    have ee : x = (⟨[], c, n, s⟩ : Reel).extra := by show c.getD _ 0 = c.getD _ 0; rw [← lm]
    show Q (.dat (.int ((s * s + (x + 17) * 27644437 + (n + 1) * 999959) % (2 ^ 64 * 2 ^ 63 - 1) / 2 ^ 41 % m))) (.own [.list [], .list (c.map .int), .int (n + 1), .int ((s * s + (x + 17) * 27644437 + (n + 1) * 999959) % (2 ^ 64 * 2 ^ 63 - 1))])
    rw [ee]
    exact q
def spn__law_dressed : Nat → DSp
  | 0 => fun _ _ _ => False
  | n + 1 => fun ts Q _ => ∃ (r : Reel) (d : D) (b : Nat), ts = [.own r.d, .bor d] ∧ r.Ok b ∧ b + ndD d < 2 ^ 59 ∧ d.depth ≤ n ∧ ndD d ≤ 1000000 ∧ noDct d = true ∧
    ∀ (d' : D) (r' : Reel), und d' = und d → r'.Ok (b + ndD d) → Q (.dat d') (.own r'.d)
def sp__law_dressed : DSp := spn__law_dressed 4
theorem mono__law_dressed : ∀ n, Mono (spn__law_dressed n)
  | 0 => fun _ _ _ _ _ _ _ h => h
  | n + 1 => fun ts R R' W W' hr _ ⟨r, d, b, e, h1, h2, h3, h4, h5, q⟩ => ⟨r, d, b, e, h1, h2, h3, h4, h5, fun d' r' a c => hr _ _ (q d' r' a c)⟩
theorem never__law_dressed : ∀ ts Q W, ¬ spn__law_dressed 0 ts Q W := fun _ _ _ h => h
theorem use_dressed {r : Reel} {d : D} {b : Nat} {Q : T → T → Prop} {W : Exn → T → Prop} (o : r.Ok b) (hb : b + ndD d < 2 ^ 59) (h1 : d.depth ≤ 3) (h2 : ndD d ≤ 1000000) (h3 : noDct d = true) (q : ∀ (d' : D) (r' : Reel), und d' = und d → r'.Ok (b + ndD d) → Q (.dat d') (.own r'.d)) :
    Spc sp__law_dressed [.own r.d, .bor d] Q W := ⟨⟨r, d, b, rfl, o, hb, h1, h2, h3, q⟩⟩
def ms__law_dressed : List Md := [.lend, .bor]
def dn__law_dressed (spr__law_dressed : DSp) (Wd : Exn → List T → Prop) : DS := (dSeq (dIfS (dNotT (tVal (dIsi ["list", "tuple"] (dVar 1)))) (dRet (dVarF 1)) dNext)
    (dSeq (dAsg (dLc (dSeqI (dVarF 1)) (Tgt.one 3).d dYes (dCall ms__law_dressed spr__law_dressed noW (dCons (dVar 0) (dCons (dVarF 3) dNil))) [3]) (dgName 2))
    (dRet (dIf (tVal (dOp dEq (dCall ms__law_draw sp__law_draw Wd (dCons (dVar 0) (dCons (dC (.int 2)) dNil))) (dC (.int 0)))) (dVarF 2) (dCB dTupOf (dCons (dVar 2) dNil))))))
abbrev st__law_dressed : Stmt := PySem.Challenge.pw_teesizes_k05_numbers_of_words.main.body.getD 19 (.Pass ⟨0, 0, 0, 0⟩)
abbrev N__law_dressed : List Str := ["reel", "value", "parts", "part"]
theorem sc__law_dressed : FnScope N__law_dressed ["reel", "value"] (defScope st__law_dressed) := ⟨rfl, rfl, rfl, by decide +kernel, rfl, by decide +kernel, by decide +kernel⟩
theorem dp__law_dressed {P : Program} {w : World} {K : PySem.W.Frag} {mg : Str → Option Value} {base : Heap} {f : Addr} {cdv : Value} {A : Around} {os : List Env} {s : Shared} {H : Hp} {E : XK} {Wd : Exn → List T → Prop} {B0 : Addr → Prop} {o : List Addr} {vs : List V} (n_isinstance : mg "isinstance" = none) (n_list : mg "list" = none) (n_tuple : mg "tuple" = none) (h__law_draw : Has P w K mg base "_law_draw" 1 ["reel", "many"] ms__law_draw sp__law_draw) {nr : Nat} {spr__law_dressed : DSp} (h__law_dressed : Has P w K mg base "_law_dressed" (1 + nr) ["reel", "value"] ms__law_dressed spr__law_dressed)
    (hr : RoomG (1 + nr) (A.deeper (PyProof.Rows.envOfC "_law_dressed" (defScope st__law_dressed) s.heap.objs.size f cdv))) (tk : DTk (ctxOf P w K mg base N__law_dressed "_law_dressed" (defScope st__law_dressed) f cdv A os s H E Wd B0 o (some 0) vs [3])) :
    DPSs (ctxOf P w K mg base N__law_dressed "_law_dressed" (defScope st__law_dressed) f cdv A os s H E Wd B0 o (some 0) vs [3]) (defBody st__law_dressed) (dn__law_dressed spr__law_dressed Wd) :=
  have S := sc__law_dressed
  (dss_cons (ds_if (dt_not (dt_val (de_isi2 rfl n_isinstance (de_var 1 (nin_of rfl)) rfl n_list (by decide) PyProof.Rows.boot_list rfl n_tuple (by decide) PyProof.Rows.boot_tuple))) (dss_one (ds_ret (de_varF 1))) dss_nil)
    (dss_cons (ds_setLc (i := 2) rfl S.nd rfl rfl (nin_of rfl) rfl (own := [(("part" : Str), 3)]) (tg := (Tgt.one 3)) (di_seq (de_varF 1)) (blk_of (N := N__law_dressed) (sc := defScope st__law_dressed) (by decide +kernel)) (tgt_one S.nd rfl (Or.inl rfl) rfl) (fun _ _ _ _ _ => dts_nil) (fun _ _ _ _ _ => (de_fn h__law_dressed hr (by omega) tk_blk rfl (da_cons (de_var 0 (nin_of rfl)) (da_cons (de_varF 3) da_nil)))) (by decide) (own_of rfl))
    (dss_one (ds_ret (de_if (dt_cmpD (dc_eq hr.units) (de_fn h__law_draw hr (by omega) tk rfl (da_cons (de_var 0 (nin_of rfl)) (da_cons de_int da_nil))) de_int) (de_varF 2) (de_tupOf rfl n_tuple (da_cons (de_var 2 (nin_of rfl)) da_nil)))))))
theorem dressed_items {r : Reel} {b n : Nat} {d : D} {ds : List D} {K : List D → List T → Prop} (o : r.Ok b) (hb : b + ndL ds < 2 ^ 59) (hd : PyData.depthAll ds + 1 ≤ n) (hn : ndL ds ≤ 1000000) (hx : noDctL ds = true)
    (hk : ∀ (ds' : List D) (r' : Reel), undL ds' = undL ds → r'.Ok (b + ndL ds) → K ds' [.own r'.d, .bor d, .emp, .emp]) :
    dLcGo (dgName 3) dYes (dCall ms__law_dressed (spn__law_dressed n) noW (dCons (dVar 0) (dCons (dVarF 3) dNil))) [3] K (ds.map .bor) [] [.own r.d, .bor d, .emp, .emp] := by
  refine lc_inv (fun j acc ρ => ∃ (r : Reel), ρ = [.own r.d, .bor d, .emp, .emp] ∧ r.Ok (b + ndL (ds.take j)) ∧ undL acc = undL (ds.take j)) ⟨r, rfl, o, rfl⟩ (fun j t acc ρ K' et p k => ?_) (fun acc ρ p => ?_)
  · obtain ⟨r, rfl, o, hu⟩ := p
    rw [List.getElem?_map, Option.map_eq_some_iff] at et
    obtain ⟨x, ex, rfl⟩ := et
    have t1 := ndL_take ds j x ex
    have t2 := depth_get ex
    have t3 := noDctL_get hx ex
    have e : ds.take (j + 1) = ds.take j ++ [x] := by rw [List.take_succ, ex]; rfl
    have hl : acc.length ≤ ndL ds := by
      have h1 := congrArg List.length hu
      have h2 : ∀ l, (undL l).length = l.length := fun l => by induction l with | nil => rfl | cons a l ih => simp only [undL, List.length_cons, ih]
      rw [h2, h2] at h1
      have h3 := ndL_len (ds.take j)
      omega
    refine dg_i rfl (br_t rfl ?_)
    cases n with
    | zero => omega
    | succ n =>
      refine ⟨⟨r, x, _, rfl, o, by omega, by omega, by omega, t3, fun d' r' h1 h2 => ?_⟩⟩
      refine And.intro (a := acc.length < sizeLine) (Nat.lt_of_lt_of_le (by omega : acc.length < 2000000) (by decide)) (k _ _ ⟨r', rfl, h2.mono ?_, ?_⟩)
      · rw [e, ndL_append]; simp only [ndL]; omega
      · rw [e, undL_append, undL_append, hu]; simp only [undL, h1]
  · obtain ⟨r, rfl, o, hu⟩ := p
    rw [List.length_map, List.take_length] at o hu
    exact hk _ _ hu o
theorem law__law_dressed (n : Nat) (ts : List T) (Q : T → T → Prop) (W : Exn → T → Prop) (h : spn__law_dressed (n + 1) ts Q W) : dn__law_dressed (spn__law_dressed n) (finX (some 0) W) (fin0 (some 0) Q) (slots0 4 ts) := by
  obtain ⟨r, d, b, rfl, o, hb, hd, hn, hx, q⟩ := h
  have fin : ∀ (ds ds' : List D) (r' : Reel), und d = .list (undL ds) → ndD d = 1 + ndL ds → undL ds' = undL ds → r'.Ok (b + ndL ds) → ∀ ρ, ρ = [.own r'.d, .bor d, .own ds', .emp] →
      dRet (dIf (tVal (dOp dEq (dCall ms__law_draw sp__law_draw (finX (some 0) W) (dCons (dVar 0) (dCons (dC (.int 2)) dNil))) (dC (.int 0)))) (dVarF 2) (dCB dTupOf (dCons (dVar 2) dNil))) (fin0 (some 0) Q) ρ := by
    intro ds ds' r' e1 e2 e3 o' ρ hρ
    subst hρ
    refine use_draw (m := 2) o' (by omega) (by decide) (by decide) fun v r2 v0 v1 o2 => ?_
    refine And.intro rfl (And.intro rfl (br_split (b := PyData.eqv (.int v) (.int 0)) (fun _ => ?_) fun _ => ?_))
    · exact q (.list ds') r2 (by rw [e1, ← e3]; rfl) (by rw [e2]; exact o2.mono (by omega))
    · exact q (.tuple ds') r2 (by rw [e1, ← e3]; rfl) (by rw [e2]; exact o2.mono (by omega))
  have sc : und d = und d → Q (.dat d) (.own r.d) := fun e => q d r e (o.mono (by omega))
  cases d with
  | list ds =>
    simp only [PyData.depth] at hd
    simp only [ndD] at hn hb
    refine dSeq.mk (br_f rfl (dSeq.mk ?_))
    refine dressed_items o (by omega) (by omega) (by omega) hx fun ds' r' h1 h2 => ?_
    exact fin ds ds' r' rfl rfl h1 h2 _ rfl
  | tuple ds =>
    simp only [PyData.depth] at hd
    simp only [ndD] at hn hb
    refine dSeq.mk (br_f rfl (dSeq.mk ?_))
    refine dressed_items o (by omega) (by omega) (by omega) hx fun ds' r' h1 h2 => ?_
    exact fin ds ds' r' rfl rfl h1 h2 _ rfl
  | dict _ => cases hx
  | _ => exact dSeq.mk (br_t rfl (And.intro rfl (sc rfl)))
theorem repr_i {d : D} {k n : Nat} {P : Prop} (h : Tl k n d) (hk : k < 60) (hn : n ≤ 16777216) (p : P) : d.showable = true ∧ d.shown.length ≤ sizeLine ∧ d.depth < 60 ∧ P := ⟨h.sh, Nat.le_trans h.le hn, Nat.lt_of_le_of_lt h.dp hk, p⟩
theorem num_at {s : Sta} {k : Nat} {x : Int} (ex : x = (k : Int)) (h : k < s.length) : gI (s.map PyData.int) x = some (.int (s.getD k 0)) := by
  subst ex
  have := gI_sta (s := s) (n := ((k : Nat) : Int)) (by omega) (by omega)
  rw [this]; simp
theorem safe_int : ∀ ns : List Int, Ds.safeL (ns.map PyData.int) = true
  | [] => rfl
  | _ :: ns => safe_int ns
theorem less_cut {s : Sta} {i : Nat} (h : i < s.length) : s.take i ++ [s.getD i 0 - 1] ++ s.drop (i + 1) = lessS s i := by
  unfold lessS
  rw [List.set_eq_take_append_cons_drop, if_pos h]; simp
theorem cut_a (s : Sta) (k : Nat) : cut (s.map PyData.int) none (some (k : Int)) = (s.take k).map .int := by rw [cutI, cut_to]
theorem cut_b (s : Sta) (k : Nat) : cut (s.map PyData.int) (some ((k : Int) + 1)) none = (s.drop (k + 1)).map .int := by rw [cutI, show (k : Int) + 1 = ((k + 1 : Nat) : Int) by omega, cut_from]
theorem num_tlA {s : Sta} (h : ∀ x ∈ s, 0 ≤ x ∧ x ≤ 14) (hl : s.length ≤ 5) : Tl 1 100 (.list (s.map .int)) ∧ Tl 1 100 (.tuple (s.map .int)) := by
  have t : TlA 0 11 5 (s.map PyData.int) := ints_tlA 10 (fun c hc => by have := h c hc; omega) hl (by decide) (by decide) (by decide)
  exact ⟨t.listM (by decide) (by decide), t.tupleM (by decide) (by decide)⟩
structure NumS (R : Nat) (s : Sta) : Prop where
  len : s.length = R
  srt : s.Pairwise (· ≥ ·)
  nn : ∀ x ∈ s, 0 ≤ x
  sm : s.sum ≤ 14
theorem NumS.small {R : Nat} {s : Sta} (h : NumS R s) : SmallS R s := ⟨h.len, fun x hx => ⟨h.nn x hx, by have := (sum_nnL h.nn).2 x hx; have := h.sm; omega⟩⟩
theorem NumS.less {R : Nat} {s : Sta} (h : NumS R s) {i : Nat} (hi : i < s.length) (c : cornB s i = true) : NumS R (lessS s i) ∧ (lessS s i).sum = s.sum - 1 := by
  have e : (lessS s i).sum = s.sum - 1 := by unfold lessS; rw [set_sum _ hi]; omega
  exact ⟨⟨by rw [less_len]; exact h.len, less_srt h.srt hi c, less_nn h.nn c, by have := h.sm; omega⟩, e⟩
def spn__law_number : Nat → DSp
  | 0 => fun _ _ _ => False
  | j + 1 => fun ts Q _ => ∃ (R : Nat) (s : Sta) (kn : DKv), ts = [.bor (.list (s.map .int)), .dct kn] ∧ 1 ≤ R ∧ R ≤ 5 ∧ NumS R s ∧ s.sum ≤ j ∧ MemW R kn ∧ ∀ kn', MemW R kn' → Q (.dat (.int (wordsS s))) (.dct kn')
def sp__law_number : DSp := spn__law_number 16
theorem mono__law_number : ∀ n, Mono (spn__law_number n)
  | 0 => fun _ _ _ _ _ _ _ h => h
  | n + 1 => fun ts R R' W W' hr _ ⟨a, b, c, e, h1, h2, h3, h4, h5, q⟩ => ⟨a, b, c, e, h1, h2, h3, h4, h5, fun kn h => hr _ _ (q kn h)⟩
theorem never__law_number : ∀ ts Q W, ¬ spn__law_number 0 ts Q W := fun _ _ _ h => h
theorem use_numJ {j R : Nat} {s : Sta} {kn : DKv} {Q : T → T → Prop} {W : Exn → T → Prop} (h1 : 1 ≤ R) (h2 : R ≤ 5) (h3 : NumS R s) (h4 : s.sum < j) (h5 : MemW R kn) (q : ∀ kn', MemW R kn' → Q (.dat (.int (wordsS s))) (.dct kn')) : Spc (spn__law_number j) [.bor (.list (s.map .int)), .dct kn] Q W := by
  cases j with
  | zero => have := (sum_nnL h3.nn).1; omega
  | succ j => exact ⟨⟨R, s, kn, rfl, h1, h2, h3, by omega, h5, q⟩⟩
theorem use_numE {j R : Nat} {s : Sta} {ds : List D} {kn : DKv} {Q : T → T → Prop} {W : Exn → T → Prop} (e : ds = s.map .int) (h1 : 1 ≤ R) (h2 : R ≤ 5) (h3 : NumS R s) (h4 : s.sum < j) (h5 : MemW R kn) (q : ∀ kn', MemW R kn' → Q (.dat (.int (wordsS s))) (.dct kn')) : Spc (spn__law_number j) [.bor (.list ds), .dct kn] Q W := by
  subst e; exact use_numJ h1 h2 h3 h4 h5 q
def ms__law_number : List Md := [.bor, .lend]
def dn__law_number (spr__law_number : DSp) (Wd : Exn → List T → Prop) : DS := (dSeq (dAsg (dCB dRepr (dCons (dVar 0) dNil)) (dgName 2))
    (dSeq (dIfS (tVal (dDNin 1 (dVar 2))) (dSeq (dAsg (dCB dInt (dCons (dOp dEq (dCB dSum (dCons (dVar 0) dNil)) (dC (.int 0))) dNil)) (dgName 3))
    (dSeq (dForS (dRange1 (dCons (dCB dLen (dCons (dVar 0) dNil)) dNil)) (dgName 4) (dIfS (tVal (dOp dGt (dOp dIx (dVar 0) (dVar 4)) (dOp dIx (dOp dAdd (dVar 0) (dLst (dCons (dC (.int 0)) dNil))) (dOp dAdd (dVar 4) (dC (.int 1)))))) (dSeq (dAsg (dOp dAdd (dOp dAdd (dSl (dVar 0) dNoPart (dPart (dVar 4))) (dLst (dCons (dOp dSub (dOp dIx (dVar 0) (dVar 4)) (dC (.int 1))) dNil))) (dSl (dVar 0) (dPart (dOp dAdd (dVar 4) (dC (.int 1)))) dNoPart)) (dgName 5))
    (dAsg (dOp dAdd (dVar 3) (dCall ms__law_number spr__law_number Wd (dCons (dVar 5) (dCons (dVar 1) dNil)))) (dgName 3))) dNext))
    (dDPut 1 (dVar 2) (dVarF 3)))) dNext)
    (dRet (dDGet 1 (dVar 2)))))
abbrev st__law_number : Stmt := PySem.Challenge.pw_teesizes_k05_numbers_of_words.main.body.getD 20 (.Pass ⟨0, 0, 0, 0⟩)
abbrev N__law_number : List Str := ["entries", "known", "key", "found", "at", "less"]
theorem sc__law_number : FnScope N__law_number ["entries", "known"] (defScope st__law_number) := ⟨rfl, rfl, rfl, by decide +kernel, rfl, by decide +kernel, by decide +kernel⟩
theorem dp__law_number {P : Program} {w : World} {K : PySem.W.Frag} {mg : Str → Option Value} {base : Heap} {f : Addr} {cdv : Value} {A : Around} {os : List Env} {s : Shared} {H : Hp} {E : XK} {Wd : Exn → List T → Prop} {B0 : Addr → Prop} {o : List Addr} {vs : List V} (n_int : mg "int" = none) (n_len : mg "len" = none) (n_range : mg "range" = none) (n_repr : mg "repr" = none) (n_sum : mg "sum" = none) {nr : Nat} {spr__law_number : DSp} (h__law_number : Has P w K mg base "_law_number" (100 + nr) ["entries", "known"] ms__law_number spr__law_number)
    (hr : RoomG (100 + nr) (A.deeper (PyProof.Rows.envOfC "_law_number" (defScope st__law_number) s.heap.objs.size f cdv))) (tk : DTk (ctxOf P w K mg base N__law_number "_law_number" (defScope st__law_number) f cdv A os s H E Wd B0 o (some 1) vs [])) :
    DPSs (ctxOf P w K mg base N__law_number "_law_number" (defScope st__law_number) f cdv A os s H E Wd B0 o (some 1) vs []) (defBody st__law_number) (dn__law_number spr__law_number Wd) :=
  have S := sc__law_number
  (dss_cons (ds_set S.nd (i := 2) rfl (Or.inl rfl) (nin_of rfl) (de_repr hr (by omega) rfl n_repr (da_cons (de_var 0 (nin_of rfl)) da_nil)))
    (dss_cons (ds_if (dt_dnin 1 hr.u1 rfl (by first | exact Or.inl rfl | exact Or.inr (Or.inl rfl) | exact Or.inr (Or.inr rfl)) (de_var 2 (nin_of rfl))) (dss_cons (ds_set S.nd (i := 3) rfl (Or.inl rfl) (nin_of rfl) (de_int1 rfl n_int (da_cons (de_cmpD (dc_eq hr.units) (de_sum rfl n_sum rfl (da_cons (de_var 0 (nin_of rfl)) da_nil)) de_int) da_nil)))
    (dss_cons (ds_for (passes_of rfl) rfl (di_range1 rfl n_range (da_cons (de_len rfl n_len (da_cons (de_var 0 (nin_of rfl)) da_nil)) da_nil)) (dg_name S.nd (i := 4) rfl (Or.inl rfl) (nin_of rfl)) (dss_one (ds_if (dt_cmpD dc_gt (de_ix (de_var 0 (nin_of rfl)) (de_var 4 (nin_of rfl))) (de_ix (de_add (de_var 0 (nin_of rfl)) (de_lst (da_cons de_int da_nil))) (de_add (de_var 4 (nin_of rfl)) de_int))) (dss_cons (ds_set S.nd (i := 5) rfl (Or.inl rfl) (nin_of rfl) (de_add (de_add (de_slice (de_var 0 (nin_of rfl)) do_none (do_some (de_var 4 (nin_of rfl)))) (de_lst (da_cons (de_sub (de_ix (de_var 0 (nin_of rfl)) (de_var 4 (nin_of rfl))) de_int) da_nil))) (de_slice (de_var 0 (nin_of rfl)) (do_some (de_add (de_var 4 (nin_of rfl)) de_int)) do_none)))
    (dss_one (ds_set S.nd (i := 3) rfl (Or.inl rfl) (nin_of rfl) (de_add (de_var 3 (nin_of rfl)) (de_fn h__law_number hr (by omega) tk rfl (da_cons (de_var 5 (nin_of rfl)) (da_cons (de_var 1 (nin_of rfl)) da_nil))))))) dss_nil)))
    (dss_one (ds_dput 1 hr.u1 rfl (by first | exact Or.inl rfl | exact Or.inr (Or.inl rfl) | exact Or.inr (Or.inr rfl)) (de_var 2 (nin_of rfl)) (de_varF 3))))) dss_nil)
    (dss_one (ds_ret (de_dget 1 hr.u1 rfl (by first | exact Or.inl rfl | exact Or.inr (Or.inl rfl) | exact Or.inr (Or.inr rfl)) (de_var 2 (nin_of rfl)))))))
theorem law__law_number (j : Nat) (ts : List T) (Q : T → T → Prop) (W : Exn → T → Prop) (h : spn__law_number (j + 1) ts Q W) : dn__law_number (spn__law_number j) (finX (some 1) W) (fin0 (some 1) Q) (slots0 6 ts) := by
  obtain ⟨R, s, kn, rfl, R1, R5, hs, hj, hk, q⟩ := h
  have sl := hs.len
  have sm := hs.small
  have s0 := (sum_nnL hs.nn).1
  obtain ⟨K, hK⟩ : ∃ K, K = (PyData.list (s.map .int)).shown := ⟨_, rfl⟩
  have eK : keyS s = .inr K := by rw [hK]; rfl
  refine dSeq.mk (repr_i (num_tlA sm.2 (by omega)).1 (by decide) (by decide) ?_)
  refine sq_at [.bor (.list (s.map .int)), .dct kn, .dat (.str K), .emp, .emp, .emp] (by rw [hK]; rfl) ?_
  refine dSeq_cut (fun ρ => ∃ (kn : DKv) (f a l : T), ρ = [.bor (.list (s.map .int)), .dct kn, .dat (.str K), f, a, l] ∧ MemW R kn ∧ valD kn (.inr K) = some (.int (wordsS s))) (fun K1 k1 => ?_) (fun ρ p => ?_)
  · refine (show br (!(valD kn (.inr K)).isSome) _ _ from ?_)
    cases e : valD kn (.inr K) with
    | some d =>
      have ed := hk.get R1 sm (by rw [eK]; exact e)
      rw [ed] at e
      exact br_f rfl (k1 _ ⟨kn, _, _, _, rfl, ⟨hk, e⟩⟩)
    | none =>
      refine br_t rfl (dSeq.mk ⟨s, rfl, And.intro rfl (And.intro rfl ?_)⟩)
      refine sq_at [.bor (.list (s.map .int)), .dct kn, .dat (.str K), .dat (.int (if s.sum = 0 then 1 else 0)), .emp, .emp] (by
        have : (if decide (s.sum = 0) = true then (1 : Int) else 0) = if s.sum = 0 then 1 else 0 := by by_cases h : s.sum = 0 <;> simp [h]
        rw [← this]; rfl) ?_
      have ls : (s.map PyData.int).length = R := by rw [List.length_map]; exact sl
      refine dSeq.mk (And.intro (a := -(2 ^ 62) ≤ (((s.map PyData.int).length : Nat) : Int) ∧ (((s.map PyData.int).length : Nat) : Int) < 2 ^ 62) (by omega) ?_)
      refine (show dFor _ _ _ ((List.range (((s.map PyData.int).length : Nat) : Int).toNat).map fun i => T.dat (.int (0 + (i : Nat)))) [.bor (.list (s.map .int)), .dct kn, .dat (.str K), .dat (.int (if s.sum = 0 then 1 else 0)), .emp, .emp] from ?_)
      rw [ls, Int.toNat_natCast]
      refine for_pre (List.range R) _ (fun pre ρ => ∃ (kn : DKv) (x_at x_less : T), ρ = [.bor (.list (s.map .int)), .dct kn, .dat (.str K), .dat (.int (pre.foldl (fun (a : Int) i => if cornB s i then a + wordsS (lessS s i) else a) (if s.sum = 0 then 1 else 0))), x_at, x_less] ∧ MemW R kn) ⟨kn, _, _, rfl, hk⟩ (fun pre i post ρ K2 e2 p k2 => ?_) (fun ρ p => ?_)
      · obtain ⟨kn, x_at, x_less, rfl, hk⟩ := p
        have hi : i < s.length := by have := List.mem_range.mp (show i ∈ List.range R by rw [e2]; simp); omega
        rw [List.foldl_append, List.foldl_cons, List.foldl_nil] at k2
        obtain ⟨F, hF⟩ : ∃ F, F = pre.foldl (fun (a : Int) i => if cornB s i then a + wordsS (lessS s i) else a) (if s.sum = 0 then 1 else 0) := ⟨_, rfl⟩
        rw [← hF] at k2 ⊢
        have i0 : (0 : Int) + ((i : Nat) : Int) = (i : Nat) := by omega
        rw [i0]
        have g2 : gI (s.map PyData.int ++ [.int 0]) ((i : Nat) + 1) = some (.int ((s ++ [0]).getD (i + 1) 0)) := by
          have := num_at (s := s ++ [0]) (k := i + 1) (x := ((i : Nat) : Int) + 1) (by push_cast; rfl) (by simp; omega)
          rw [List.map_append] at this
          exact this
        refine dg_i rfl (wO_i (num_at rfl hi) (And.intro (a := safeL (s.map PyData.int) = true) (safe_int _) (And.intro (a := (s.map PyData.int).length + 1 ≤ sizeLine) (by rw [ls]; exact Nat.le_trans (by omega : _ ≤ 10) (by decide)) (wO_i g2 ?_))))
        refine br_split (b := decide ((s ++ [0]).getD (i + 1) 0 < s.getD i 0)) (fun c => ?_) (fun c => ?_)
        · have c : cornB s i = true := c
          rw [if_pos c] at k2
          obtain ⟨ns, nsum⟩ := hs.less hi c
          have lt : (s.take i).length ≤ 5 := by rw [List.length_take]; omega
          have ld : (s.drop (i + 1)).length ≤ 5 := by rw [List.length_drop]; omega
          have c3 : cut (s.map PyData.int) none (some (i : Int)) ++ [PyData.int (s.getD i 0 - 1)] ++ cut (s.map PyData.int) (some ((i : Int) + 1)) none = (lessS s i).map .int := by
            rw [cut_a, cut_b, ← less_cut hi, List.map_append, List.map_append]; rfl
          refine dSeq.mk (wO_i (num_at rfl hi) ?_)
          refine And.intro (a := safeL (cut (s.map PyData.int) none (some (i : Int))) = true) (by rw [cut_a]; exact safe_int _) ?_
          refine And.intro (a := (cut (s.map PyData.int) none (some (i : Int))).length + 1 ≤ sizeLine) (by rw [cut_a, List.length_map]; exact Nat.le_trans (by omega : _ ≤ 10) (by decide)) ?_
          refine And.intro (a := safeL (cut (s.map PyData.int) (some ((i : Int) + 1)) none) = true) (by rw [cut_b]; exact safe_int _) ?_
          refine And.intro (a := (cut (s.map PyData.int) none (some (i : Int)) ++ [PyData.int (s.getD i 0 - 1)]).length + (cut (s.map PyData.int) (some ((i : Int) + 1)) none).length ≤ sizeLine) (by rw [cut_a, cut_b, List.length_append, List.length_map, List.length_map]; exact Nat.le_trans (by simp only [List.length_singleton]; omega : _ ≤ 20) (by decide)) ?_
          refine (show Spc (spn__law_number j) [.bor (.list (cut (s.map PyData.int) none (some (i : Int)) ++ [PyData.int (s.getD i 0 - 1)] ++ cut (s.map PyData.int) (some ((i : Int) + 1)) none)), .dct kn] _ _ from ?_)
          refine use_numE c3 R1 R5 ns (by omega) hk fun kn' hk' => ?_
          exact k2 _ ⟨kn', _, _, rfl, hk'⟩
        · have c : ¬ cornB s i = true := fun z => by
            have z : decide ((s ++ [0]).getD (i + 1) 0 < s.getD i 0) = true := z
            rw [c] at z; cases z
          rw [if_neg c] at k2
          exact k2 _ ⟨kn, _, _, rfl, hk⟩
      · obtain ⟨kn, x_at, x_less, rfl, hk⟩ := p
        have ns := num_sum hs.srt hs.nn
        rw [sl] at ns
        rw [← ns]
        obtain ⟨m1, m2⟩ := hk.put R1 sm
        rw [eK] at m1 m2
        refine (And.intro (a := kn.length < sizeLine) (hk.few R5) (k1 _ ?_))
        exact ⟨_, _, _, _, rfl, ⟨m1, m2⟩⟩
  · obtain ⟨kn, f, a, l, rfl, ⟨hk, e⟩⟩ := p
    exact wO_i e (q kn hk)
def sp__law_state : DSp := fun ts Q _ => ∃ (r : Reel) (m t : Nat) (b : Nat), ts = [.own r.d, .dat (.int (m : Int)), .dat (.int (t : Int))] ∧ r.Ok b ∧ b < 2 ^ 59 ∧ 1 ≤ m ∧ m ≤ 200 ∧ t ≤ 400 ∧
  ∀ (ns : List Int) (r' : Reel), 1 ≤ ns.length → ns.length ≤ m → ns.Pairwise (· ≥ ·) → (∀ x ∈ ns, 0 ≤ x) → ns.sum ≤ t → r'.Ok (b + 201) → Q (.own (ns.map .int)) (.own r'.d)
theorem mono__law_state : Mono sp__law_state := fun ts R R' W W' hr _ ⟨r, m, g, b, e, h1, h2, h3, h4, h5, q⟩ => ⟨r, m, g, b, e, h1, h2, h3, h4, h5, fun ns r' a b c d e f => hr _ _ (q ns r' a b c d e f)⟩
theorem use_state {r : Reel} {m t : Nat} {b : Nat} {Q : T → T → Prop} {W : Exn → T → Prop} (o : r.Ok b) (hb : b < 2 ^ 59) (m0 : 1 ≤ m) (m1 : m ≤ 200) (t1 : t ≤ 400) (q : ∀ (ns : List Int) (r' : Reel), 1 ≤ ns.length → ns.length ≤ m → ns.Pairwise (· ≥ ·) → (∀ x ∈ ns, 0 ≤ x) → ns.sum ≤ t → r'.Ok (b + 201) → Q (.own (ns.map .int)) (.own r'.d)) :
    Spc sp__law_state [.own r.d, .dat (.int (m : Int)), .dat (.int (t : Int))] Q W := ⟨⟨r, m, t, b, rfl, o, hb, m0, m1, t1, q⟩⟩
def ms__law_state : List Md := [.lend, .dat, .dat]
def dn__law_state (Wd : Exn → List T → Prop) : DS := (dSeq (dPar (dCons (dLst dNil) (dCons (dVarF 2) (dCons (dVarF 2) dNil))) (dgCons (dgName 3) (dgCons (dgName 4) (dgCons (dgName 5) dgNil))))
    (dSeq (dForS (dRange1 (dCons (dOp dAdd (dC (.int 1)) (dCall ms__law_draw sp__law_draw Wd (dCons (dVar 0) (dCons (dVarF 1) dNil)))) dNil)) (dgName 6) (dSeq (dAsg (dCall ms__law_draw sp__law_draw Wd (dCons (dVar 0) (dCons (dOp dAdd (dCB dMin2 (dCons (dVar 4) (dCons (dVar 5) dNil))) (dC (.int 1))) dNil))) (dgName 5))
    (dSeq (dDrop (dLm 3 lmAppend (dCons (dVarF 5) dNil)))
    (dAsg (dOp dSub (dVar 4) (dVar 5)) (dgName 4)))))
    (dRet (dVarM 3))))
abbrev st__law_state : Stmt := PySem.Challenge.pw_teesizes_k05_numbers_of_words.main.body.getD 21 (.Pass ⟨0, 0, 0, 0⟩)
abbrev N__law_state : List Str := ["reel", "most", "total", "found", "left", "top", "turn"]
theorem sc__law_state : FnScope N__law_state ["reel", "most", "total"] (defScope st__law_state) := ⟨rfl, rfl, rfl, by decide +kernel, rfl, by decide +kernel, by decide +kernel⟩
theorem dp__law_state {P : Program} {w : World} {K : PySem.W.Frag} {mg : Str → Option Value} {base : Heap} {f : Addr} {cdv : Value} {A : Around} {os : List Env} {s : Shared} {H : Hp} {E : XK} {Wd : Exn → List T → Prop} {B0 : Addr → Prop} {o : List Addr} {vs : List V} (n_min : mg "min" = none) (n_range : mg "range" = none) (h__law_draw : Has P w K mg base "_law_draw" 1 ["reel", "many"] ms__law_draw sp__law_draw)
    (hr : RoomG 1 (A.deeper (PyProof.Rows.envOfC "_law_state" (defScope st__law_state) s.heap.objs.size f cdv))) (tk : DTk (ctxOf P w K mg base N__law_state "_law_state" (defScope st__law_state) f cdv A os s H E Wd B0 o (some 0) vs [])) :
    DPSs (ctxOf P w K mg base N__law_state "_law_state" (defScope st__law_state) f cdv A os s H E Wd B0 o (some 0) vs []) (defBody st__law_state) (dn__law_state Wd) :=
  have S := sc__law_state
  (dss_cons (ds_par3 (i := 3) (j := 4) (l := 5) rfl S.nd rfl rfl rfl rfl rfl rfl rfl rfl rfl (nin_of rfl) (nin_of rfl) (nin_of rfl) (da_cons (de_lst da_nil) (da_cons (de_varF 2) (da_cons (de_varF 2) da_nil))))
    (dss_cons (ds_for (passes_of rfl) rfl (di_range1 rfl n_range (da_cons (de_add de_int (de_fn h__law_draw hr (by decide) tk rfl (da_cons (de_var 0 (nin_of rfl)) (da_cons (de_varF 1) da_nil)))) da_nil)) (dg_name S.nd (i := 6) rfl (Or.inl rfl) (nin_of rfl)) (dss_cons (ds_set S.nd (i := 5) rfl (Or.inl rfl) (nin_of rfl) (de_fn h__law_draw hr (by decide) tk rfl (da_cons (de_var 0 (nin_of rfl)) (da_cons (de_add (de_min2 rfl n_min rfl (da_cons (de_var 4 (nin_of rfl)) (da_cons (de_var 5 (nin_of rfl)) da_nil))) de_int) da_nil))))
    (dss_cons (ds_expr (de_lm 3 PySem.F.slot_list_append PySem.F.type_list_append mt_append sl_append rfl (by first | exact Or.inl rfl | exact Or.inr (Or.inl rfl) | exact Or.inr (Or.inr rfl)) (da_cons (de_varF 5) da_nil)))
    (dss_one (ds_set S.nd (i := 4) rfl (Or.inl rfl) (nin_of rfl) (de_sub (de_var 4 (nin_of rfl)) (de_var 5 (nin_of rfl))))))))
    (dss_one (ds_ret (de_varM 3)))))
theorem law__law_state (ts : List T) (Q : T → T → Prop) (W : Exn → T → Prop) (h : sp__law_state ts Q W) : dn__law_state (finX (some 0) W) (fin0 (some 0) Q) (slots0 7 ts) := by
  obtain ⟨r, m, t, b, rfl, o, hb, m0, m1, t1, q⟩ := h
  refine dSeq.mk ?_
  refine sq_at [.own r.d, .dat (.int (m : Int)), .dat (.int (t : Int)), .own [], .dat (.int (t : Int)), .dat (.int (t : Int)), .emp] rfl ?_
  refine dSeq.mk (use_draw (m := (m : Int)) o (by omega) (by omega) (by omega) fun v r1 v0 v1 o1 => ?_)
  refine And.intro (a := -(2 ^ 62) ≤ 1 + v ∧ 1 + v < 2 ^ 62) (by omega) ?_
  refine (show dFor _ _ _ ((List.range (1 + v).toNat).map fun i => T.dat (.int (0 + (i : Nat)))) [.own r1.d, .dat (.int (m : Int)), .dat (.int (t : Int)), .own [], .dat (.int (t : Int)), .dat (.int (t : Int)), .emp] from ?_)
  obtain ⟨L, hL⟩ : ∃ L, L = (1 + v).toNat := ⟨_, rfl⟩
  rw [← hL]
  refine for_pre (List.range L) _ (fun pre ρ => ∃ (r : Reel) (fs : List Int) (l tp : Int) (x_turn : T), ρ = [.own r.d, .dat (.int (m : Int)), .dat (.int (t : Int)), .own (fs.map .int), .dat (.int l), .dat (.int tp), x_turn] ∧ r.Ok (b + 1 + pre.length) ∧ fs.length = pre.length ∧ fs.Pairwise (· ≥ ·) ∧ (∀ x ∈ fs, tp ≤ x) ∧ 0 ≤ tp ∧ 0 ≤ l ∧ l = t - fs.sum) ⟨r1, [], (t : Int), (t : Int), _, rfl, ⟨o1, rfl, List.Pairwise.nil, by simp, by omega, by omega, by simp⟩⟩ (fun pre i post ρ K e p k => ?_) (fun ρ p => ?_)
  · obtain ⟨r, fs, l, tp, x_turn, rfl, ⟨o, hf, srt, low, tp0, l0, el⟩⟩ := p
    have pl : pre.length < L := by have := congrArg List.length e; simp at this; omega
    have s0 := (sum_nnL (s := fs) fun x hx => by have := low x hx; omega).1
    refine dg_i rfl (dSeq.mk ?_)
    obtain ⟨mn, hmn⟩ : ∃ mn : Int, mn = if tp < l then tp else l := ⟨_, rfl⟩
    have mb : 0 ≤ mn ∧ mn ≤ tp ∧ mn ≤ l := by rw [hmn]; split <;> omega
    refine (show Spc sp__law_draw [.own r.d, .dat (.int ((if tp < l then tp else l) + 1))] _ _ from ?_)
    rw [← hmn]
    refine use_draw (m := mn + 1) o (by omega) (by omega) (by omega) fun w r2 w0 w1 o2 => ?_
    refine dSeq.mk (And.intro (a := (fs.map PyData.int).length < sizeLine) (by rw [List.length_map]; exact Nat.lt_of_lt_of_le (by omega : _ < 300) (by decide)) (k _ ?_))
    have e2 : fs.map PyData.int ++ [.int w] = (fs ++ [w]).map .int := by rw [List.map_append]; rfl
    rw [e2]
    refine ⟨r2, (fs ++ [w]), (l - w), w, _, rfl, ⟨o2.mono (by simp; omega), by simp [hf], ?_, fun x hx => ?_, w0, by omega, ?_⟩⟩
    · exact List.pairwise_append.mpr ⟨srt, List.pairwise_singleton _ _, fun x hx y hy => by
        have : y = w := by simpa using hy
        have := low x hx
        show y ≤ x; omega⟩
    · rcases List.mem_append.mp hx with hx | hx
      · have := low x hx; omega
      · have : x = w := by simpa using hx
        omega
    · rw [List.sum_append]; simp; omega
  · obtain ⟨r, fs, l, tp, x_turn, rfl, ⟨o, hf, srt, low, tp0, l0, el⟩⟩ := p
    rw [List.length_range] at hf o
    exact q fs r (by omega) (by omega) srt (fun x hx => by have := low x hx; omega) (by omega) (o.mono (by omega))
def befL (s : Sta) : List Sta := ((List.range s.length).filter fun i => cornB s i).map (lessS s)
theorem bef_sum {s : Sta} (f : Sta → Int) : ((befL s).map f).sum = ((List.range s.length).map fun i => if cornB s i then f (lessS s i) else 0).sum := by
  unfold befL
  generalize List.range s.length = l
  induction l with
  | nil => rfl
  | cons i l ih =>
    rw [List.filter_cons, List.map_cons, List.sum_cons, ← ih]
    by_cases c : cornB s i = true
    · rw [if_pos c, if_pos c, List.map_cons, List.map_cons, List.sum_cons]
    · rw [if_neg c, if_neg c]; omega
def sp__law_before : DSp := fun ts Q _ => ∃ (s : Sta), ts = [.bor (.list (s.map .int))] ∧ s.length ≤ 10 ∧ Q (.own ((befL s).map staD)) .emp
theorem mono__law_before : Mono sp__law_before := fun ts R R' W W' hr _ ⟨s, e, h1, q⟩ => ⟨s, e, h1, hr _ _ q⟩
theorem use_before {s : Sta} {Q : T → T → Prop} {W : Exn → T → Prop} (h1 : s.length ≤ 10) (q : Q (.own ((befL s).map staD)) .emp) : Spc sp__law_before [.bor (.list (s.map .int))] Q W := ⟨⟨s, rfl, h1, q⟩⟩
def ms__law_before : List Md := [.bor]
def dn__law_before (Wd : Exn → List T → Prop) : DS := (dSeq (dAsg (dLst dNil) (dgName 1))
    (dSeq (dForS (dRange1 (dCons (dCB dLen (dCons (dVar 0) dNil)) dNil)) (dgName 2) (dIfS (tVal (dOp dGt (dOp dIx (dVar 0) (dVar 2)) (dOp dIx (dOp dAdd (dVar 0) (dLst (dCons (dC (.int 0)) dNil))) (dOp dAdd (dVar 2) (dC (.int 1)))))) (dDrop (dLm 1 lmAppend (dCons (dOp dAdd (dOp dAdd (dSl (dVar 0) dNoPart (dPart (dVar 2))) (dLst (dCons (dOp dSub (dOp dIx (dVar 0) (dVar 2)) (dC (.int 1))) dNil))) (dSl (dVar 0) (dPart (dOp dAdd (dVar 2) (dC (.int 1)))) dNoPart)) dNil))) dNext))
    (dRet (dVarM 1))))
abbrev st__law_before : Stmt := PySem.Challenge.pw_teesizes_k05_numbers_of_words.main.body.getD 22 (.Pass ⟨0, 0, 0, 0⟩)
abbrev N__law_before : List Str := ["entries", "found", "at"]
theorem sc__law_before : FnScope N__law_before ["entries"] (defScope st__law_before) := ⟨rfl, rfl, rfl, by decide +kernel, rfl, by decide +kernel, by decide +kernel⟩
theorem dp__law_before {P : Program} {w : World} {K : PySem.W.Frag} {mg : Str → Option Value} {base : Heap} {f : Addr} {cdv : Value} {A : Around} {os : List Env} {s : Shared} {H : Hp} {E : XK} {Wd : Exn → List T → Prop} {B0 : Addr → Prop} {o : List Addr} {vs : List V} (n_len : mg "len" = none) (n_range : mg "range" = none)
    (hr : RoomG 0 (A.deeper (PyProof.Rows.envOfC "_law_before" (defScope st__law_before) s.heap.objs.size f cdv))) (tk : DTk (ctxOf P w K mg base N__law_before "_law_before" (defScope st__law_before) f cdv A os s H E Wd B0 o none vs [])) :
    DPSs (ctxOf P w K mg base N__law_before "_law_before" (defScope st__law_before) f cdv A os s H E Wd B0 o none vs []) (defBody st__law_before) (dn__law_before Wd) :=
  have S := sc__law_before
  (dss_cons (ds_set S.nd (i := 1) rfl (Or.inl rfl) (nin_of rfl) (de_lst da_nil))
    (dss_cons (ds_for (passes_of rfl) rfl (di_range1 rfl n_range (da_cons (de_len rfl n_len (da_cons (de_var 0 (nin_of rfl)) da_nil)) da_nil)) (dg_name S.nd (i := 2) rfl (Or.inl rfl) (nin_of rfl)) (dss_one (ds_if (dt_cmpD dc_gt (de_ix (de_var 0 (nin_of rfl)) (de_var 2 (nin_of rfl))) (de_ix (de_add (de_var 0 (nin_of rfl)) (de_lst (da_cons de_int da_nil))) (de_add (de_var 2 (nin_of rfl)) de_int))) (dss_one (ds_expr (de_lm 1 PySem.F.slot_list_append PySem.F.type_list_append mt_append sl_append rfl (by first | exact Or.inl rfl | exact Or.inr (Or.inl rfl) | exact Or.inr (Or.inr rfl)) (da_cons (de_add (de_add (de_slice (de_var 0 (nin_of rfl)) do_none (do_some (de_var 2 (nin_of rfl)))) (de_lst (da_cons (de_sub (de_ix (de_var 0 (nin_of rfl)) (de_var 2 (nin_of rfl))) de_int) da_nil))) (de_slice (de_var 0 (nin_of rfl)) (do_some (de_add (de_var 2 (nin_of rfl)) de_int)) do_none)) da_nil)))) dss_nil)))
    (dss_one (ds_ret (de_varM 1)))))
theorem law__law_before (ts : List T) (Q : T → T → Prop) (W : Exn → T → Prop) (h : sp__law_before ts Q W) : dn__law_before (finX none W) (fin0 none Q) (slots0 3 ts) := by
  obtain ⟨s, rfl, hl, q⟩ := h
  have ls : (s.map PyData.int).length = s.length := List.length_map _
  refine dSeq.mk (dSeq.mk (And.intro (a := -(2 ^ 62) ≤ (((s.map PyData.int).length : Nat) : Int) ∧ (((s.map PyData.int).length : Nat) : Int) < 2 ^ 62) (by omega) ?_))
  refine (show dFor _ _ _ ((List.range (((s.map PyData.int).length : Nat) : Int).toNat).map fun i => T.dat (.int (0 + (i : Nat)))) [.bor (.list (s.map .int)), .own [], .emp] from ?_)
  rw [ls, Int.toNat_natCast]
  refine for_pre (List.range s.length) _ (fun pre ρ => ∃  (x_at : T), ρ = [.bor (.list (s.map .int)), .own (((pre.filter fun i => cornB s i).map (lessS s)).map staD), x_at]) ⟨_, rfl⟩ (fun pre i post ρ K2 e2 p k2 => ?_) (fun ρ p => ?_)
  · obtain ⟨x_at, rfl⟩ := p
    obtain ⟨ej, hi⟩ := range_at e2
    rw [List.filter_append, List.map_append, List.map_append] at k2
    have fl : (((pre.filter fun i => cornB s i).map (lessS s)).map staD).length ≤ 10 := by
      rw [List.length_map, List.length_map]
      exact Nat.le_trans (List.length_filter_le _ _) (by omega)
    obtain ⟨F, hF⟩ : ∃ F, F = ((pre.filter fun i => cornB s i).map (lessS s)).map staD := ⟨_, rfl⟩
    rw [← hF] at k2 fl ⊢
    have i0 : (0 : Int) + ((i : Nat) : Int) = (i : Nat) := by omega
    rw [i0]
    have g2 : gI (s.map PyData.int ++ [.int 0]) ((i : Nat) + 1) = some (.int ((s ++ [0]).getD (i + 1) 0)) := by
      have := num_at (s := s ++ [0]) (k := i + 1) (x := ((i : Nat) : Int) + 1) (by push_cast; rfl) (by simp; omega)
      rw [List.map_append] at this
      exact this
    refine dg_i rfl (wO_i (num_at rfl hi) (And.intro (a := safeL (s.map PyData.int) = true) (safe_int _) (And.intro (a := (s.map PyData.int).length + 1 ≤ sizeLine) (by rw [ls]; exact Nat.le_trans (by omega : _ ≤ 20) (by decide)) (wO_i g2 ?_))))
    refine br_split (b := decide ((s ++ [0]).getD (i + 1) 0 < s.getD i 0)) (fun c => ?_) (fun c => ?_)
    · have c : cornB s i = true := c
      rw [show [i].filter (fun i => cornB s i) = [i] by simp [c]] at k2
      have lt : (s.take i).length ≤ 10 := by rw [List.length_take]; omega
      have ld : (s.drop (i + 1)).length ≤ 10 := by rw [List.length_drop]; omega
      have c3 : cut (s.map PyData.int) none (some (i : Int)) ++ [PyData.int (s.getD i 0 - 1)] ++ cut (s.map PyData.int) (some ((i : Int) + 1)) none = (lessS s i).map .int := by
        rw [cut_a, cut_b, ← less_cut hi, List.map_append, List.map_append]; rfl
      refine wO_i (num_at rfl hi) ?_
      refine And.intro (a := safeL (cut (s.map PyData.int) none (some (i : Int))) = true) (by rw [cut_a]; exact safe_int _) ?_
      refine And.intro (a := (cut (s.map PyData.int) none (some (i : Int))).length + 1 ≤ sizeLine) (by rw [cut_a, List.length_map]; exact Nat.le_trans (by omega : _ ≤ 20) (by decide)) ?_
      refine And.intro (a := safeL (cut (s.map PyData.int) (some ((i : Int) + 1)) none) = true) (by rw [cut_b]; exact safe_int _) ?_
      refine And.intro (a := (cut (s.map PyData.int) none (some (i : Int)) ++ [PyData.int (s.getD i 0 - 1)]).length + (cut (s.map PyData.int) (some ((i : Int) + 1)) none).length ≤ sizeLine) (by rw [cut_a, cut_b, List.length_append, List.length_map, List.length_map]; exact Nat.le_trans (by simp only [List.length_singleton]; omega : _ ≤ 40) (by decide)) ?_
      refine And.intro (a := F.length < sizeLine) (Nat.lt_of_le_of_lt fl (by decide)) ?_
      refine (show K2 [T.bor (.list (s.map .int)), T.own (F ++ [PyData.list (cut (s.map PyData.int) none (some (i : Int)) ++ [PyData.int (s.getD i 0 - 1)] ++ cut (s.map PyData.int) (some ((i : Int) + 1)) none)]), T.dat (.int (i : Nat))] from ?_)
      rw [c3]
      exact k2 _ ⟨_, rfl⟩
    · have c : ¬ cornB s i = true := fun z => by
        have z : decide ((s ++ [0]).getD (i + 1) 0 < s.getD i 0) = true := z
        rw [c] at z; cases z
      rw [show [i].filter (fun i => cornB s i) = [] by simp [c], List.map_nil, List.map_nil, List.append_nil] at k2
      exact k2 _ ⟨_, rfl⟩
  · obtain ⟨x_at, rfl⟩ := p
    exact q
def sp__law_turned : DSp := fun ts Q _ => ∃ (s : Sta), ts = [.bor (.list (s.map .int))] ∧ 1 ≤ s.length ∧ s.length ≤ 200 ∧ (∀ x ∈ s, 0 ≤ x ∧ x ≤ 200) ∧ Q (.own ((turnS (if 1 < s.getD 0 0 then s.getD 0 0 else 1).toNat s).map .int)) .emp
theorem mono__law_turned : Mono sp__law_turned := fun ts R R' W W' hr _ ⟨s, e, h1, h2, h3, q⟩ => ⟨s, e, h1, h2, h3, hr _ _ q⟩
theorem use_turned {s : Sta} {Q : T → T → Prop} {W : Exn → T → Prop} (h1 : 1 ≤ s.length) (h2 : s.length ≤ 200) (h3 : ∀ x ∈ s, 0 ≤ x ∧ x ≤ 200) (q : Q (.own ((turnS (if 1 < s.getD 0 0 then s.getD 0 0 else 1).toNat s).map .int)) .emp) : Spc sp__law_turned [.bor (.list (s.map .int))] Q W := ⟨⟨s, rfl, h1, h2, h3, q⟩⟩
def ms__law_turned : List Md := [.bor]
def dn__law_turned (Wd : Exn → List T → Prop) : DS := (dRet (dLc (dRange1 (dCons (dCB dMax2 (dCons (dC (.int 1)) (dCons (dOp dIx (dVar 0) (dC (.int 0))) dNil))) dNil)) (Tgt.one 1).d dYes (dCB dLen (dCons (dLc (dSeqI (dVarF 0)) (Tgt.one 2).d (tVal (dOp dGt (dVarF 2) (dVarF 1))) (dVarF 2) [2]) dNil)) [1]))
abbrev st__law_turned : Stmt := PySem.Challenge.pw_teesizes_k05_numbers_of_words.main.body.getD 23 (.Pass ⟨0, 0, 0, 0⟩)
abbrev N__law_turned : List Str := ["entries", "at", "entry"]
theorem sc__law_turned : FnScope N__law_turned ["entries"] (defScope st__law_turned) := ⟨rfl, rfl, rfl, by decide +kernel, rfl, by decide +kernel, by decide +kernel⟩
theorem dp__law_turned {P : Program} {w : World} {K : PySem.W.Frag} {mg : Str → Option Value} {base : Heap} {f : Addr} {cdv : Value} {A : Around} {os : List Env} {s : Shared} {H : Hp} {E : XK} {Wd : Exn → List T → Prop} {B0 : Addr → Prop} {o : List Addr} {vs : List V} (n_len : mg "len" = none) (n_max : mg "max" = none) (n_range : mg "range" = none)
    (hr : RoomG 0 (A.deeper (PyProof.Rows.envOfC "_law_turned" (defScope st__law_turned) s.heap.objs.size f cdv))) (tk : DTk (ctxOf P w K mg base N__law_turned "_law_turned" (defScope st__law_turned) f cdv A os s H E Wd B0 o none vs [1, 2])) :
    DPSs (ctxOf P w K mg base N__law_turned "_law_turned" (defScope st__law_turned) f cdv A os s H E Wd B0 o none vs [1, 2]) (defBody st__law_turned) (dn__law_turned Wd) :=
  have S := sc__law_turned
  (dss_one (ds_ret (de_lc rfl S.nd (own := [(("at" : Str), 1)]) (tg := (Tgt.one 1)) (di_range1 rfl n_range (da_cons (de_max2 rfl n_max rfl (da_cons de_int (da_cons (de_ix (de_var 0 (nin_of rfl)) de_int) da_nil))) da_nil)) (blk_of (N := N__law_turned) (sc := defScope st__law_turned) (by decide +kernel)) (tgt_oneC S.nd rfl (Or.inr rfl) rfl) (fun _ _ _ _ _ => dts_nil) (fun _ _ _ _ _ => (de_len rfl n_len (da_cons (de_lc rfl S.nd (own := [(("entry" : Str), 2)]) (tg := (Tgt.one 2)) (di_seq (de_varF 0)) (blk_of (by kernel_rfl)) (tgt_one S.nd rfl (Or.inl rfl) rfl) (fun _ _ _ _ _ => (dts_one (dt_cmpD dc_gt (de_varF 2) (de_varF 1)))) (fun _ _ _ _ _ => (de_varF 2)) (by decide) (own_of rfl)) da_nil))) (by decide) (own_of rfl))))
theorem law__law_turned (ts : List T) (Q : T → T → Prop) (W : Exn → T → Prop) (h : sp__law_turned ts Q W) : dn__law_turned (finX none W) (fin0 none Q) (slots0 3 ts) := by
  obtain ⟨s, rfl, h1, h2, h3, q⟩ := h
  have g0 := h3 (s.getD 0 0) (by rw [getD_i (by omega)]; exact List.getElem_mem _)
  refine wO_i (num_at (k := 0) rfl (by omega)) ?_
  obtain ⟨C, hC⟩ : ∃ C : Int, C = if 1 < s.getD 0 0 then s.getD 0 0 else 1 := ⟨_, rfl⟩
  have Cb : 1 ≤ C ∧ C ≤ 200 := by rw [hC]; split <;> omega
  refine And.intro (a := -(2 ^ 62) ≤ (if 1 < s.getD 0 0 then s.getD 0 0 else 1) ∧ (if 1 < s.getD 0 0 then s.getD 0 0 else 1) < 2 ^ 62) (by rw [← hC]; omega) ?_
  refine (show dLcGo _ _ _ _ _ ((List.range ((if 1 < s.getD 0 0 then s.getD 0 0 else 1)).toNat).map fun i => T.dat (.int (0 + (i : Nat)))) [] [.bor (.list (s.map .int)), .emp, .emp] from ?_)
  rw [← hC] at q ⊢
  refine lc_mp (i := 1) (List.range C.toNat) _ (fun c => .int ((cntS s c : Nat) : Int)) rfl (by rw [List.length_range]; exact Nat.le_trans (by omega : _ ≤ 300) (by decide)) (fun _ _ => rfl) (fun c hc P hP => ?_) ?_
  · refine (show dLcGo _ _ _ _ _ ((s.map PyData.int).map T.bor) [] [.bor (.list (s.map .int)), .dat (.int (0 + (c : Nat))), .emp] from ?_)
    refine lc_flA (i := 2) s (fun x => T.bor (.int x)) [.bor (.list (s.map .int)), .dat (.int (0 + (c : Nat))), .emp] (by rw [List.map_map]; rfl) rfl (fun x => decide (((c : Nat) : Int) < x)) (fun x => .int x) rfl (Nat.le_trans h2 (by decide)) (fun _ _ => rfl) (fun x hx P' R' hP' hR' => br_dec (c := 0 + ((c : Nat) : Int) < x) (fun h => hP' (decide_eq_true (by omega)) _ rfl) fun h => hR' (decide_eq_false (by omega))) ?_
    have el : ((((s.filter fun x => decide (((c : Nat) : Int) < x)).map PyData.int).length : Nat) : Int) = ((cntS s c : Nat) : Int) := by rw [List.length_map]; rfl
    refine (show P (T.dat (.int ((((s.filter fun x => decide (((c : Nat) : Int) < x)).map PyData.int).length : Nat) : Int))) _ from hP _ ?_)
    show some (PyData.int ((((s.filter fun x => decide (((c : Nat) : Int) < x)).map PyData.int).length : Nat) : Int)) = _
    rw [el]
  · have e : (List.range C.toNat).map (fun c => PyData.int ((cntS s c : Nat) : Int)) = (turnS C.toNat s).map .int := by unfold turnS; rw [List.map_map]; rfl
    rw [e]
    exact q
theorem cat_bd : ∀ n ∈ List.range 201, 0 ≤ catL n ∧ catL n < 2 ^ 500 := by decide +kernel
theorem fct_bd : ∀ n : Nat, n ≤ 500 → fct n ≤ (2 : Int) ^ (9 * n)
  | 0, _ => by decide
  | n + 1, h => by
    have := fct_bd n (by omega)
    have p := fct_pos n
    show fct n * ((n : Int) + 1) ≤ _
    rw [Nat.mul_succ, Int.pow_add]
    exact Int.mul_le_mul this (Int.le_trans (by omega : (n : Int) + 1 ≤ 512) (by decide)) (by omega) (Int.pow_nonneg (by decide))
theorem leg_bd (a k : Nat) (h : a + k ≤ 400) : 0 ≤ wordsS (legS a k) ∧ wordsS (legS a k) < 2 ^ 3700 := by
  have e := leg_words a k
  have p1 := fct_pos a
  have p2 := fct_pos k
  have p3 := fct_pos (a + k)
  have pp : 0 < fct a * fct k := Int.mul_pos p1 p2
  have w0 : 0 ≤ wordsS (legS a k) := by
    by_cases z : 0 ≤ wordsS (legS a k)
    · exact z
    · have := Int.mul_neg_of_neg_of_pos (show wordsS (legS a k) < 0 by omega) pp
      omega
  refine ⟨w0, ?_⟩
  have h1 : wordsS (legS a k) ≤ fct (a + k) := by
    rw [← e]
    have := Int.mul_le_mul_of_nonneg_left (show 1 ≤ fct a * fct k by omega) w0
    omega
  have h2 := fct_bd (a + k) (by omega)
  have h3 : (2 : Int) ^ (9 * (a + k)) ≤ 2 ^ 3600 := by
    have := Nat.pow_le_pow_right (n := 2) (by decide) (by omega : 9 * (a + k) ≤ 3600)
    exact_mod_cast this
  have h4 : (2 : Int) ^ 3600 < 2 ^ 3700 := by
    have := Nat.pow_lt_pow_right (a := 2) (by decide) (by decide : 3600 < 3700)
    exact_mod_cast this
  omega
theorem mk_st {s : List Int} (h1 : 1 ≤ s.length) (h2 : s.length ≤ 200) (hs : s.Pairwise (· ≥ ·)) (h0 : ∀ x ∈ s, 0 ≤ x ∧ x ≤ 1000) : StOk s := ⟨h1, h2, fun n hn => ⟨(h0 n hn).1, Int.le_trans (h0 n hn).2 (by decide)⟩, hs⟩
theorem mn_srt {s : List Int} (hs : s.Pairwise (· ≥ ·)) : (s.map fun x => if 200 < x then (200 : Int) else x).Pairwise (· ≥ ·) := by
  rw [List.pairwise_map]
  refine hs.imp fun {a b} h => ?_
  show (if 200 < b then (200 : Int) else b) ≤ (if 200 < a then (200 : Int) else a)
  have h : b ≤ a := h
  split <;> split <;> omega
theorem mn_sum : ∀ {s : List Int}, (∀ x ∈ s, 0 ≤ x) → (s.map fun x => if 200 < x then (200 : Int) else x).sum ≤ s.sum
  | [], _ => Int.le_refl _
  | x :: s, h => by
    have := mn_sum (s := s) fun y hy => h y (by simp [hy])
    have := h x (by simp)
    rw [List.map_cons, List.sum_cons, List.sum_cons]
    split <;> omega
theorem rep_one (n : Nat) : (List.replicate n [PyData.int 1]).flatten = (List.replicate n (1 : Int)).map .int := by rw [rep1, List.map_replicate]
def sp_law : DSp := fun ts Q _ => ∃ ns : List Int, ts = [.scr ns] ∧ ns.length ≤ 63 ∧ Q (.dat (.bool true)) .emp
theorem mono_law : Mono sp_law := fun ts R R' W W' hr _ ⟨ns, e, h, q⟩ => ⟨ns, e, h, hr _ _ q⟩
def ms_law : List Md := [.bor]
def dn_law (Wd : Exn → List T → Prop) : DS := (dSeq (dAsg (dCall ms__law_reel sp__law_reel Wd (dCons (dVar 0) dNil)) (dgName 1))
    (dSeq (dForS (dRange1 (dCons (dOp dAdd (dC (.int 2)) (dCB dMin2 (dCons (dCB dLen (dCons (dVar 0) dNil)) (dCons (dC (.int 5)) dNil)))) dNil)) (dgName 2) (dSeq (dAsg (dCall ms__law_state sp__law_state Wd (dCons (dVar 1) (dCons (dC (.int 5)) (dCons (dC (.int 14)) dNil)))) (dgName 3))
    (dSeq (dAsg (dCall ms__law_dressed sp__law_dressed Wd (dCons (dVar 1) (dCons (dVar 3) dNil))) (dgName 4))
    (dSeq (dPar (dCons (dCB dRepr (dCons (dLst (dCons (dVar 3) (dCons (dVar 4) dNil))) dNil)) (dCons (dCall ms__law_number sp__law_number Wd (dCons (dVar 3) (dCons (dDct []) dNil))) dNil)) (dgCons (dgName 5) (dgCons (dgName 6) dgNil)))
    (dSeq (dIfS (tVal (dOp dNe (dLst (dCons (dCall ms_count_words sp_count_words Wd (dCons (dVar 3) dNil)) (dCons (dCall ms_count_words sp_count_words Wd (dCons (dVar 4) dNil)) (dCons (dCall ms_count_words sp_count_words Wd (dCons (dOp dAdd (dVar 3) (dLst (dCons (dC (.int 0)) (dCons (dC (.int 0)) dNil)))) dNil)) dNil)))) (dOp dMul (dLst (dCons (dVarF 6) dNil)) (dC (.int 3))))) (dRet (dC (.bool false))) dNext)
    (dSeq (dIfS (tVal (dOp dNe (dCB dRepr (dCons (dLst (dCons (dVar 3) (dCons (dVar 4) dNil))) dNil)) (dVar 5))) (dRet (dC (.bool false))) dNext)
    (dSeq (dAsg (dCall ms__law_state sp__law_state Wd (dCons (dVar 1) (dCons (dC (.int 10)) (dCons (dC (.int 400)) dNil)))) (dgName 3))
    (dSeq (dAsg (dCB dSum (dCons (dLc (dSeqI (dCall ms__law_before sp__law_before Wd (dCons (dVar 3) dNil))) (Tgt.one 13).d dYes (dCall ms_count_words sp_count_words noW (dCons (dVarF 13) dNil)) [13]) dNil)) (dgName 7))
    (dSeq (dIfS ((dAndT (tVal (dOp dGt (dCB dSum (dCons (dVar 3) dNil)) (dC (.int 0)))) (tVal (dOp dNe (dCall ms_count_words sp_count_words Wd (dCons (dVar 3) dNil)) (dVar 7))))) (dRet (dC (.bool false))) dNext)
    (dSeq (dAsg (dLc (dSeqI (dCall ms__law_state sp__law_state Wd (dCons (dVar 1) (dCons (dC (.int 200)) (dCons (dC (.int 400)) dNil))))) (Tgt.one 14).d dYes (dCB dMin2 (dCons (dVarF 14) (dCons (dC (.int 200)) dNil))) [14]) (dgName 3))
    (dIfS (tVal (dOp dNe (dCall ms_count_words sp_count_words Wd (dCons (dVar 3) dNil)) (dCall ms_count_words sp_count_words Wd (dCons (dCall ms__law_turned sp__law_turned Wd (dCons (dVar 3) dNil)) dNil)))) (dRet (dC (.bool false))) dNext)))))))))))
    (dSeq (dPar (dCons (dCall ms__law_draw sp__law_draw Wd (dCons (dVar 1) (dCons (dC (.int 200)) dNil))) (dCons (dC (.int 1)) dNil)) (dgCons (dgName 8) (dgCons (dgName 9) dgNil)))
    (dSeq (dForS (dRange1 (dCons (dVar 8) dNil)) (dgName 10) (dAsg (dOp dFdiv (dOp dMul (dOp dMul (dVar 9) (dC (.int 2))) (dOp dAdd (dOp dMul (dC (.int 2)) (dVar 10)) (dC (.int 1)))) (dOp dAdd (dVar 10) (dC (.int 2)))) (dgName 9)))
    (dSeq (dAsg (dLst (dCons (dCall ms_count_words sp_count_words Wd (dCons (dLst (dCons (dVarF 8) (dCons (dVarF 8) dNil))) dNil)) (dCons (dCall ms_count_words sp_count_words Wd (dCons (dLst (dCons (dC (.int 400)) dNil)) dNil)) (dCons (dCall ms_count_words sp_count_words Wd (dCons (dOp dMul (dLst (dCons (dC (.int 1)) dNil)) (dC (.int 200))) dNil)) dNil)))) (dgName 11))
    (dSeq (dIfS (tVal (dOp dNe (dOp dAdd (dVar 11) (dLst (dCons (dCall ms_count_words sp_count_words Wd (dCons (dLst (dCons (dC (.int 0)) dNil)) dNil)) dNil))) (dLst (dCons (dVarF 9) (dCons (dC (.int 1)) (dCons (dC (.int 1)) (dCons (dC (.int 1)) dNil))))))) (dRet (dC (.bool false))) dNext)
    (dSeq (dPar (dCons (dOp dAdd (dC (.int 1)) (dCall ms__law_draw sp__law_draw Wd (dCons (dVar 1) (dCons (dC (.int 200)) dNil)))) (dCons (dCall ms__law_draw sp__law_draw Wd (dCons (dVar 1) (dCons (dC (.int 199)) dNil))) (dCons (dC (.int 1)) dNil))) (dgCons (dgName 8) (dgCons (dgName 12) (dgCons (dgName 9) dgNil))))
    (dSeq (dForS (dRange1 (dCons (dVar 12) dNil)) (dgName 10) (dAsg (dOp dFdiv (dOp dMul (dVar 9) (dOp dAdd (dVar 8) (dVar 10))) (dOp dAdd (dVar 10) (dC (.int 1)))) (dgName 9)))
    (dRet (dOp dEq (dCall ms_count_words sp_count_words Wd (dCons (dOp dAdd (dLst (dCons (dVarF 8) dNil)) (dOp dMul (dLst (dCons (dC (.int 1)) dNil)) (dVar 12))) dNil)) (dVar 9)))))))))))
abbrev st_law : Stmt := PySem.Challenge.pw_teesizes_k05_numbers_of_words.main.body.getD 24 (.Pass ⟨0, 0, 0, 0⟩)
abbrev N_law : List Str := ["script", "reel", "k", "entries", "dressed", "kept", "due", "number", "one", "many", "turn", "found", "more", "row", "entry"]
theorem sc_law : FnScope N_law ["script"] (defScope st_law) := ⟨rfl, rfl, rfl, by decide +kernel, rfl, by decide +kernel, by decide +kernel⟩
theorem dp_law {P : Program} {w : World} {K : PySem.W.Frag} {mg : Str → Option Value} {base : Heap} {f : Addr} {cdv : Value} {A : Around} {os : List Env} {s : Shared} {H : Hp} {E : XK} {Wd : Exn → List T → Prop} {B0 : Addr → Prop} {o : List Addr} {vs : List V} (n_len : mg "len" = none) (n_min : mg "min" = none) (n_range : mg "range" = none) (n_repr : mg "repr" = none) (n_sum : mg "sum" = none) (h__law_before : Has P w K mg base "_law_before" 1 ["entries"] ms__law_before sp__law_before) (h__law_draw : Has P w K mg base "_law_draw" 1 ["reel", "many"] ms__law_draw sp__law_draw) (h__law_dressed : Has P w K mg base "_law_dressed" 5 ["reel", "value"] ms__law_dressed sp__law_dressed) (h__law_number : Has P w K mg base "_law_number" 116 ["entries", "known"] ms__law_number sp__law_number) (h__law_reel : Has P w K mg base "_law_reel" 1 ["script"] ms__law_reel sp__law_reel) (h__law_state : Has P w K mg base "_law_state" 2 ["reel", "most", "total"] ms__law_state sp__law_state) (h__law_turned : Has P w K mg base "_law_turned" 1 ["entries"] ms__law_turned sp__law_turned) (h_count_words : Has P w K mg base "count_words" 4 ["state"] ms_count_words sp_count_words)
    (hr : RoomG 116 (A.deeper (PyProof.Rows.envOfC "law" (defScope st_law) s.heap.objs.size f cdv))) (tk : DTk (ctxOf P w K mg base N_law "law" (defScope st_law) f cdv A os s H E Wd B0 o none vs [13, 14])) :
    DPSs (ctxOf P w K mg base N_law "law" (defScope st_law) f cdv A os s H E Wd B0 o none vs [13, 14]) (defBody st_law) (dn_law Wd) :=
  have S := sc_law
  (dss_cons (ds_set S.nd (i := 1) rfl (Or.inl rfl) (nin_of rfl) (de_fn h__law_reel hr (by decide) tk rfl (da_cons (de_var 0 (nin_of rfl)) da_nil)))
    (dss_cons (ds_for (passes_of rfl) rfl (di_range1 rfl n_range (da_cons (de_add de_int (de_min2 rfl n_min rfl (da_cons (de_len rfl n_len (da_cons (de_var 0 (nin_of rfl)) da_nil)) (da_cons de_int da_nil)))) da_nil)) (dg_name S.nd (i := 2) rfl (Or.inl rfl) (nin_of rfl)) (dss_cons (ds_set S.nd (i := 3) rfl (Or.inl rfl) (nin_of rfl) (de_fn h__law_state hr (by decide) tk rfl (da_cons (de_var 1 (nin_of rfl)) (da_cons de_int (da_cons de_int da_nil)))))
    (dss_cons (ds_set S.nd (i := 4) rfl (Or.inl rfl) (nin_of rfl) (de_fn h__law_dressed hr (by decide) tk rfl (da_cons (de_var 1 (nin_of rfl)) (da_cons (de_var 3 (nin_of rfl)) da_nil))))
    (dss_cons (ds_par (i := 5) (j := 6) rfl S.nd rfl rfl rfl rfl rfl (nin_of rfl) (nin_of rfl) (da_cons (de_repr hr (by decide) rfl n_repr (da_cons (de_lst (da_cons (de_var 3 (nin_of rfl)) (da_cons (de_var 4 (nin_of rfl)) da_nil))) da_nil)) (da_cons (de_fn h__law_number hr (by decide) tk rfl (da_cons (de_var 3 (nin_of rfl)) (da_cons de_dict0 da_nil))) da_nil)))
    (dss_cons (ds_if (dt_cmpD (dc_ne hr.units) (de_lst (da_cons (de_fn h_count_words hr (by decide) tk rfl (da_cons (de_var 3 (nin_of rfl)) da_nil)) (da_cons (de_fn h_count_words hr (by decide) tk rfl (da_cons (de_var 4 (nin_of rfl)) da_nil)) (da_cons (de_fn h_count_words hr (by decide) tk rfl (da_cons (de_add (de_var 3 (nin_of rfl)) (de_lst (da_cons de_int (da_cons de_int da_nil)))) da_nil)) da_nil)))) (de_mul (de_lst (da_cons (de_varF 6) da_nil)) de_int)) (dss_one (ds_ret de_bl)) dss_nil)
    (dss_cons (ds_if (dt_cmpD (dc_ne hr.units) (de_repr hr (by decide) rfl n_repr (da_cons (de_lst (da_cons (de_var 3 (nin_of rfl)) (da_cons (de_var 4 (nin_of rfl)) da_nil))) da_nil)) (de_var 5 (nin_of rfl))) (dss_one (ds_ret de_bl)) dss_nil)
    (dss_cons (ds_set S.nd (i := 3) rfl (Or.inl rfl) (nin_of rfl) (de_fn h__law_state hr (by decide) tk rfl (da_cons (de_var 1 (nin_of rfl)) (da_cons de_int (da_cons de_int da_nil)))))
    (dss_cons (ds_set S.nd (i := 7) rfl (Or.inl rfl) (nin_of rfl) (de_sum rfl n_sum rfl (da_cons (de_lc rfl S.nd (own := [(("row" : Str), 13)]) (tg := (Tgt.one 13)) (di_seq (de_fn h__law_before hr (by decide) tk rfl (da_cons (de_var 3 (nin_of rfl)) da_nil))) (blk_of (N := N_law) (sc := defScope st_law) (by decide +kernel)) (tgt_one S.nd rfl (Or.inl rfl) rfl) (fun _ _ _ _ _ => dts_nil) (fun _ _ _ _ _ => (de_fn h_count_words hr (by decide) tk_blk rfl (da_cons (de_varF 13) da_nil))) (by decide) (own_of rfl)) da_nil)))
    (dss_cons (ds_if (DPW.t (dw_and (dt_cmpD dc_gt (de_sum rfl n_sum rfl (da_cons (de_var 3 (nin_of rfl)) da_nil)) de_int) (dw_and1 (dt_cmpD (dc_ne hr.units) (de_fn h_count_words hr (by decide) tk rfl (da_cons (de_var 3 (nin_of rfl)) da_nil)) (de_var 7 (nin_of rfl)))))) (dss_one (ds_ret de_bl)) dss_nil)
    (dss_cons (ds_setLc (i := 3) rfl S.nd rfl rfl (nin_of rfl) rfl (own := [(("entry" : Str), 14)]) (tg := (Tgt.one 14)) (di_seq (de_fn h__law_state hr (by decide) tk rfl (da_cons (de_var 1 (nin_of rfl)) (da_cons de_int (da_cons de_int da_nil))))) (blk_of (N := N_law) (sc := defScope st_law) (by decide +kernel)) (tgt_one S.nd rfl (Or.inl rfl) rfl) (fun _ _ _ _ _ => dts_nil) (fun _ _ _ _ _ => (de_min2 rfl n_min rfl (da_cons (de_varF 14) (da_cons de_int da_nil)))) (by decide) (own_of rfl))
    (dss_one (ds_if (dt_cmpD (dc_ne hr.units) (de_fn h_count_words hr (by decide) tk rfl (da_cons (de_var 3 (nin_of rfl)) da_nil)) (de_fn h_count_words hr (by decide) tk rfl (da_cons (de_fn h__law_turned hr (by decide) tk rfl (da_cons (de_var 3 (nin_of rfl)) da_nil)) da_nil))) (dss_one (ds_ret de_bl)) dss_nil))))))))))))
    (dss_cons (ds_par (i := 8) (j := 9) rfl S.nd rfl rfl rfl rfl rfl (nin_of rfl) (nin_of rfl) (da_cons (de_fn h__law_draw hr (by decide) tk rfl (da_cons (de_var 1 (nin_of rfl)) (da_cons de_int da_nil))) (da_cons de_int da_nil)))
    (dss_cons (ds_for (passes_of rfl) rfl (di_range1 rfl n_range (da_cons (de_var 8 (nin_of rfl)) da_nil)) (dg_name S.nd (i := 10) rfl (Or.inl rfl) (nin_of rfl)) (dss_one (ds_set S.nd (i := 9) rfl (Or.inl rfl) (nin_of rfl) (de_fdiv (de_mul (de_mul (de_var 9 (nin_of rfl)) de_int) (de_add (de_mul de_int (de_var 10 (nin_of rfl))) de_int)) (de_add (de_var 10 (nin_of rfl)) de_int)))))
    (dss_cons (ds_set S.nd (i := 11) rfl (Or.inl rfl) (nin_of rfl) (de_lst (da_cons (de_fn h_count_words hr (by decide) tk rfl (da_cons (de_lst (da_cons (de_varF 8) (da_cons (de_varF 8) da_nil))) da_nil)) (da_cons (de_fn h_count_words hr (by decide) tk rfl (da_cons (de_lst (da_cons de_int da_nil)) da_nil)) (da_cons (de_fn h_count_words hr (by decide) tk rfl (da_cons (de_mul (de_lst (da_cons de_int da_nil)) de_int) da_nil)) da_nil)))))
    (dss_cons (ds_if (dt_cmpD (dc_ne hr.units) (de_add (de_var 11 (nin_of rfl)) (de_lst (da_cons (de_fn h_count_words hr (by decide) tk rfl (da_cons (de_lst (da_cons de_int da_nil)) da_nil)) da_nil))) (de_lst (da_cons (de_varF 9) (da_cons de_int (da_cons de_int (da_cons de_int da_nil)))))) (dss_one (ds_ret de_bl)) dss_nil)
    (dss_cons (ds_par3 (i := 8) (j := 12) (l := 9) rfl S.nd rfl rfl rfl rfl rfl rfl rfl rfl rfl (nin_of rfl) (nin_of rfl) (nin_of rfl) (da_cons (de_add de_int (de_fn h__law_draw hr (by decide) tk rfl (da_cons (de_var 1 (nin_of rfl)) (da_cons de_int da_nil)))) (da_cons (de_fn h__law_draw hr (by decide) tk rfl (da_cons (de_var 1 (nin_of rfl)) (da_cons de_int da_nil))) (da_cons de_int da_nil))))
    (dss_cons (ds_for (passes_of rfl) rfl (di_range1 rfl n_range (da_cons (de_var 12 (nin_of rfl)) da_nil)) (dg_name S.nd (i := 10) rfl (Or.inl rfl) (nin_of rfl)) (dss_one (ds_set S.nd (i := 9) rfl (Or.inl rfl) (nin_of rfl) (de_fdiv (de_mul (de_var 9 (nin_of rfl)) (de_add (de_var 8 (nin_of rfl)) (de_var 10 (nin_of rfl)))) (de_add (de_var 10 (nin_of rfl)) de_int)))))
    (dss_one (ds_ret (de_cmpD (dc_eq hr.units) (de_fn h_count_words hr (by decide) tk rfl (da_cons (de_add (de_lst (da_cons (de_varF 8) da_nil)) (de_mul (de_lst (da_cons de_int da_nil)) (de_var 12 (nin_of rfl)))) da_nil)) (de_var 9 (nin_of rfl)))))))))))))
theorem law_law (ts : List T) (Q : T → T → Prop) (W : Exn → T → Prop) (h : sp_law ts Q W) : dn_law (finX none W) (fin0 none Q) (slots0 15 ts) := by
  obtain ⟨ns, rfl, hl, q⟩ := h
  refine dSeq.mk ⟨⟨ns, rfl, hl, ?_⟩⟩
  have o0 := reelOf_ok hl
  generalize reelOf ns = r0 at o0
  refine dSeq.mk (And.intro (a := -(2 ^ 62) ≤ 2 + (if (5 : Int) < (ns.length : Int) then 5 else (ns.length : Int)) ∧ 2 + (if (5 : Int) < (ns.length : Int) then 5 else (ns.length : Int)) < 2 ^ 62) (by split <;> omega) ?_)
  have hlen : (2 + (if (5 : Int) < (ns.length : Int) then 5 else (ns.length : Int))).toNat ≤ 9 := by split <;> omega
  generalize (2 + (if (5 : Int) < (ns.length : Int) then 5 else (ns.length : Int))).toNat = turns at hlen
  refine dFor_inv (fun i ρ => ∃ (r : Reel) (x_k x_entries x_dressed x_kept x_due x_number x_one x_many x_turn x_found x_more : T), ρ = [.scr ns, .own r.d, x_k, x_entries, x_dressed, x_kept, x_due, x_number, x_one, x_many, x_turn, x_found, x_more, .emp, .emp] ∧ r.Ok (100000 * i)) ⟨r0, _, _, _, _, _, _, _, _, _, _, _, rfl, o0⟩ (fun i t ρ K et p k => ?_) (fun ρ p => ?_)
  · obtain ⟨r, x_k, x_entries, x_dressed, x_kept, x_due, x_number, x_one, x_many, x_turn, x_found, x_more, rfl, o⟩ := p
    obtain ⟨hi, rfl⟩ := rngT_get et
    refine dg_i rfl (dSeq.mk ?_)
    refine use_state (m := 5) (t := 14) o (by omega) (by decide) (by decide) (by decide) fun es r3 l1 l5 srt nn sm o3 => ?_
    have sb := (sum_nnL nn).2
    have hN : NumS es.length es := ⟨rfl, srt, nn, by omega⟩
    have hst : StOk es := mk_st l1 (by omega) srt fun x hx => ⟨nn x hx, by have := sb x hx; omega⟩
    have t1 := num_tlA hN.small.2 l5
    have nd : ndL (es.map PyData.int) = es.length := nd_ints es
    have da : PyData.depthAll (es.map PyData.int) ≤ 0 := (lay_all (k := 0) fun x hx => by obtain ⟨p, _, rfl⟩ := List.mem_map.mp hx; exact .int).2
    refine dSeq.mk (use_dressed (d := .list (es.map .int)) o3 (by simp only [ndD]; omega) (by simp only [PyData.depth]; omega) (by simp only [ndD]; omega) (noDct_ints es) fun d r4 hd o4 => ?_)
    simp only [ndD] at o4
    have hd1 := und_ints hd
    have t2 : Tl 1 100 d := by rcases hd1 with rfl | rfl; exact t1.1; exact t1.2
    have t3 : Tl 2 1000 (.list [.list (es.map .int), d]) := TlA.listM (k := 1) (n := 100) (m := 2) (.cons t1.1 (.cons t2 (TlA.nil (m := 0)))) (by decide) (by decide)
    obtain ⟨kp, hkp⟩ : ∃ kp, kp = (PyData.list [.list (es.map .int), d]).shown := ⟨_, rfl⟩
    refine sq_at [.scr ns, .own r4.d, .dat (.int (0 + (i : Nat))), .own (es.map .int), .dat d, x_kept, x_due, x_number, x_one, x_many, x_turn, x_found, x_more, .emp, .emp] rfl ?_
    refine dSeq.mk (repr_i t3 (by decide) (by decide) (use_numJ (j := 16) (s := es) l1 l5 hN (by omega) (MemW.nil _) fun kn' hk' => ?_))
    clear hk'
    obtain ⟨w, hw⟩ : ∃ w, w = wordsS es := ⟨_, rfl⟩
    have wz := words_z2 nn
    refine sq_at [.scr ns, .own r4.d, .dat (.int (0 + (i : Nat))), .own (es.map .int), .dat d, .dat (.str kp), .dat (.int w), x_number, x_one, x_many, x_turn, x_found, x_more, .emp, .emp] (by rw [hkp, hw]; rfl) ?_
    have s2 : StOk (es ++ [0, 0]) := mk_st (by simp) (by simp; omega) (List.pairwise_append.mpr ⟨srt, by decide, fun a ha b hb => by
      have : b = 0 := by simpa using hb
      subst this
      exact nn a ha⟩) fun x hx => by
        rcases List.mem_append.mp hx with hx | hx
        · exact ⟨nn x hx, by have := sb x hx; omega⟩
        · have : x = 0 := by simpa using hx
          subst this; decide
    have sum2 : (es ++ [0, 0]).sum = es.sum := by rw [List.sum_append]; simp
    refine dSeq.mk (use_words (.inl rfl) hst (by omega) (use_words hd1 hst (by omega) ?_))
    refine And.intro (a := (es.map PyData.int).length + 2 ≤ sizeLine) (by rw [List.length_map]; exact Nat.le_trans (by omega : _ ≤ 10) (by decide)) ?_
    refine (show Spc sp_count_words [.bor (.list (es.map PyData.int ++ [.int 0, .int 0]))] _ _ from ?_)
    refine use_words (s := es ++ [0, 0]) (.inl (by rw [List.map_append]; rfl)) s2 (by omega) ?_
    rw [wz, ← hw]
    refine And.intro (a := -(2 ^ 63) ≤ (3 : Int) ∧ (3 : Int) < 2 ^ 63 ∧ 1 * (3 : Int).toNat ≤ sizeLine) (by decide) ?_
    have ls : Lay 1 (.list [.int w, .int w, .int w]) := .list fun x hx => by simp only [List.mem_cons, List.not_mem_nil, or_false] at hx; rcases hx with rfl | rfl | rfl <;> exact .int
    refine And.intro (ls.shaped (by decide)) (And.intro (ls.shaped (by decide)) (br_f (b := !PyData.eqv (.list [.int w, .int w, .int w]) (.list [.int w, .int w, .int w])) (by rw [ls.eqv]; rfl) ?_))
    refine dSeq.mk (repr_i t3 (by decide) (by decide) (br_f (b := !decide ((PyData.list [.list (es.map .int), d]).shown = kp)) (by rw [← hkp]; simp) ?_))
    have o4 : r4.Ok (100000 * i + 1000) := o4.mono (by omega)
    clear wz s2 sum2 hst hN t1 t2 t3 hkp hw ls hd1 hd da nd sb srt nn sm l1 l5
    refine dSeq.mk (use_state (m := 10) (t := 400) o4 (by omega) (by decide) (by decide) (by decide) fun fs r5 l1 l5 srt nn sm o5 => ?_)
    have sb := (sum_nnL nn).2
    have s0 := (sum_nnL nn).1
    have hst : StOk fs := mk_st l1 (by omega) srt fun x hx => ⟨nn x hx, by have := sb x hx; omega⟩
    refine sq_at [.scr ns, .own r5.d, .dat (.int (0 + (i : Nat))), .own (fs.map .int), .dat d, .dat (.str kp), .dat (.int w), x_number, x_one, x_many, x_turn, x_found, x_more, .emp, .emp] rfl ?_
    have wr := words_rec srt nn
    rw [← bef_sum] at wr
    have bm : ∀ t ∈ befL fs, StOk t ∧ t.sum ≤ 400 := fun t ht => by
      obtain ⟨i, hi, rfl⟩ := List.mem_map.mp ht
      obtain ⟨h1, h2⟩ := List.mem_filter.mp hi
      have h1 := List.mem_range.mp h1
      have n2 := less_nn nn h2
      have e2 : (lessS fs i).sum = fs.sum - 1 := by unfold lessS; rw [set_sum _ h1]; omega
      have b2 := (sum_nnL n2).2
      exact ⟨mk_st (by rw [less_len]; exact l1) (by rw [less_len]; omega) (less_srt srt h1 h2) fun x hx => ⟨n2 x hx, by have := b2 x hx; omega⟩, by omega⟩
    have bl : (befL fs).length ≤ 10 := by
      unfold befL
      rw [List.length_map]
      exact Nat.le_trans (List.length_filter_le _ _) (by rw [List.length_range]; exact l5)
    refine dSeq.mk (use_before l5 ?_)
    obtain ⟨B, hB⟩ : ∃ B, B = befL fs := ⟨_, rfl⟩
    rw [← hB] at bm bl wr ⊢
    refine (show dLcGo _ _ _ _ _ ((B.map staD).map T.dat) [] [.scr ns, .own r5.d, .dat (.int (0 + (i : Nat))), .own (fs.map .int), .dat d, .dat (.str kp), .dat (.int w), x_number, x_one, x_many, x_turn, x_found, x_more, .emp, .emp] from ?_)
    rw [List.map_map]
    refine lc_mp (i := 13) B _ (fun s => .int (wordsS s)) rfl (Nat.le_trans bl (by decide)) (fun _ _ => rfl) (fun s hs P hP => use_words (.inl rfl) (bm s hs).1 (bm s hs).2 (hP _ rfl)) ?_
    refine ⟨B.map wordsS, by rw [List.map_map]; rfl, ?_⟩
    obtain ⟨X, hX⟩ : ∃ X, X = (B.map wordsS).sum := ⟨_, rfl⟩
    rw [← hX] at wr
    refine sq_at [.scr ns, .own r5.d, .dat (.int (0 + (i : Nat))), .own (fs.map .int), .dat d, .dat (.str kp), .dat (.int w), .dat (.int X), x_one, x_many, x_turn, x_found, x_more, .emp, .emp] (by rw [hX]; rfl) ?_
    refine dSeq_cut (fun ρ => ∃  (x_k x_entries x_dressed x_kept x_due x_number x_one x_many x_turn x_found x_more : T), ρ = [.scr ns, .own r5.d, x_k, x_entries, x_dressed, x_kept, x_due, x_number, x_one, x_many, x_turn, x_found, x_more, .emp, .emp]) (fun K1 k1 => ?_) fun ρ p => ?_
    · refine ⟨fs, rfl, br_split (b := decide (0 < fs.sum)) (fun c => ?_) fun c => ?_⟩
      · have c := of_decide_eq_true c
        rw [if_neg (by omega), Int.zero_add] at wr
        refine use_words (.inl rfl) hst sm ?_
        rw [wr]
        exact And.intro rfl (And.intro rfl (br_f (b := !PyData.eqv (.int X) (.int X)) (by rw [eqv_self _ rfl]; rfl) (k1 _ ⟨_, _, _, _, _, _, _, _, _, _, _, rfl⟩)))
      · exact br_f rfl (k1 _ ⟨_, _, _, _, _, _, _, _, _, _, _, rfl⟩)
    obtain ⟨x_k, x_entries, x_dressed, x_kept, x_due, x_number, x_one, x_many, x_turn, x_found, x_more, rfl⟩ := p
    clear bm bl wr hX hB hst sb srt nn sm l1 l5 s0
    refine dSeq.mk (use_state (m := 200) (t := 400) o5 (by omega) (by decide) (by decide) (by decide) fun gs r6 l1 l5 srt nn sm o6 => ?_)
    have sb := (sum_nnL nn).2
    refine (show dLcGo _ _ _ _ _ ((gs.map PyData.int).map T.dat) [] [.scr ns, .own r6.d, x_k, x_entries, x_dressed, x_kept, x_due, x_number, x_one, x_many, x_turn, x_found, x_more, .emp, .emp] from ?_)
    rw [List.map_map]
    refine lc_mp (i := 14) gs _ (fun x => .int (if 200 < x then 200 else x)) rfl (Nat.le_trans l5 (by decide)) (fun _ _ => rfl) (fun x hx P hP => hP _ rfl) ?_
    have e1 : gs.map (fun x => PyData.int (if 200 < x then 200 else x)) = (gs.map fun x => if 200 < x then (200 : Int) else x).map .int := by rw [List.map_map]; rfl
    rw [e1]
    have ms := mn_srt srt
    have mS := mn_sum nn
    have mb : ∀ y ∈ gs.map (fun x => if 200 < x then (200 : Int) else x), 0 ≤ y ∧ y ≤ 200 := fun y hy => by
      obtain ⟨x, hx, rfl⟩ := List.mem_map.mp hy
      have := nn x hx
      split <;> omega
    have ml : (gs.map fun x => if 200 < x then (200 : Int) else x).length = gs.length := List.length_map _
    obtain ⟨G, hG⟩ : ∃ G, G = gs.map fun x => if 200 < x then (200 : Int) else x := ⟨_, rfl⟩
    rw [← hG] at ms mS mb ml ⊢
    have hst : StOk G := mk_st (by omega) (by omega) ms fun x hx => ⟨(mb x hx).1, by have := (mb x hx).2; omega⟩
    have g0 : G.getD 0 0 ≤ 200 ∧ ∀ x ∈ G, x ≤ G.getD 0 0 := ⟨by
      rw [getD_i (by omega)]; exact (mb _ (List.getElem_mem _)).2, fun x hx => by
      obtain ⟨j, hj, rfl⟩ := List.getElem_of_mem hx
      have := srt_i ms (Nat.zero_le j) hj
      rw [getD_i hj] at this
      exact this⟩
    obtain ⟨C, hC⟩ : ∃ C : Nat, C = (if 1 < G.getD 0 0 then G.getD 0 0 else 1).toNat := ⟨_, rfl⟩
    have Cb : 1 ≤ C ∧ C ≤ 200 ∧ ∀ x ∈ G, 0 ≤ x ∧ x ≤ (C : Int) := by
      refine ⟨by rw [hC]; split <;> omega, by rw [hC]; split <;> omega, fun x hx => ⟨(mb x hx).1, ?_⟩⟩
      have := g0.2 x hx
      rw [hC]; split <;> omega
    have wt := words_turn (C := C) ms Cb.2.2
    have st2 : StOk (turnS C G) := mk_st (by rw [turn_len]; exact Cb.1) (by rw [turn_len]; exact Cb.2.1) (turn_srt C G) fun x hx => by
      have := turn_bd C G x hx
      omega
    have sm2 := turn_sum (C := C) Cb.2.2
    refine dg_i rfl (use_words (.inl rfl) hst (by omega) (use_turned (by omega) (by omega) mb ?_))
    rw [← hC]
    refine (show Spc sp_count_words [.bor (.list ((turnS C G).map PyData.int))] _ _ from ?_)
    refine use_words (.inl rfl) st2 (by omega) ?_
    rw [wt]
    refine And.intro rfl (And.intro rfl (br_f (b := !PyData.eqv (.int (wordsS G)) (.int (wordsS G))) (by rw [eqv_self _ rfl]; rfl) ?_))
    exact k _ ⟨r6, _, _, _, _, _, _, _, _, _, _, _, rfl, o6.mono (by omega)⟩
  · obtain ⟨r, x_k, x_entries, x_dressed, x_kept, x_due, x_number, x_one, x_many, x_turn, x_found, x_more, rfl, o⟩ := p
    rw [show (rngT 0 turns).length = turns by simp [rngT]] at o
    refine dSeq.mk (use_draw (m := 200) o (by omega) (by decide) (by decide) fun v r1 v0 v1 o1 => ?_)
    obtain ⟨n, rfl⟩ : ∃ n : Nat, v = (n : Int) := ⟨v.toNat, by omega⟩
    refine sq_at [.scr ns, .own r1.d, x_k, x_entries, x_dressed, x_kept, x_due, x_number, .dat (.int (n : Int)), .dat (.int 1), x_turn, x_found, x_more, .emp, .emp] rfl ?_
    refine dSeq.mk (And.intro (a := -(2 ^ 62) ≤ (n : Int) ∧ (n : Int) < 2 ^ 62) (by omega) ?_)
    refine (show dFor _ _ _ ((List.range ((n : Nat) : Int).toNat).map fun i => T.dat (.int (0 + (i : Nat)))) [.scr ns, .own r1.d, x_k, x_entries, x_dressed, x_kept, x_due, x_number, .dat (.int (n : Int)), .dat (.int 1), x_turn, x_found, x_more, .emp, .emp] from ?_)
    rw [Int.toNat_natCast]
    refine for_pre (List.range n) _ (fun pre ρ => ∃  (x_k x_entries x_dressed x_kept x_due x_number x_turn x_found x_more : T), ρ = [.scr ns, .own r1.d, x_k, x_entries, x_dressed, x_kept, x_due, x_number, .dat (.int (n : Int)), .dat (.int (catL pre.length)), x_turn, x_found, x_more, .emp, .emp]) ⟨_, _, _, _, _, _, _, _, _, rfl⟩ (fun pre t post ρ K e p k => ?_) (fun ρ p => ?_)
    · obtain ⟨x_k, x_entries, x_dressed, x_kept, x_due, x_number, x_turn, x_found, x_more, rfl⟩ := p
      obtain ⟨et, ht⟩ := range_at e
      rw [← et]
      have lp : (pre ++ [t]).length = t + 1 := by simp [et]
      rw [lp] at k
      obtain ⟨c0, c1⟩ := cat_bd t (List.mem_range.mpr (by omega))
      obtain ⟨c, hc⟩ : ∃ c, c = catL t := ⟨_, rfl⟩
      have ec : catL (t + 1) = c * 2 * (2 * (t : Int) + 1) / ((t : Int) + 2) := by rw [hc]; rfl
      rw [ec] at k
      rw [← hc] at c0 c1 ⊢
      have t0 : (0 : Int) + ((t : Nat) : Int) = (t : Nat) := by omega
      rw [t0]
      have l1 : c.natAbs.log2 < 500 := log2_lt c0 c1 (by decide)
      have l2 : (c * 2).natAbs.log2 < 502 := log2_lt (by omega) (by omega) (by decide)
      refine dg_i rfl (And.intro (a := CMulW c 2) (mul_ok (a := 500) (b := 64) l1 (by decide) (by decide)) ?_)
      refine And.intro (a := CMulW 2 (t : Int)) (mul_ok (a := 64) (b := 64) (by decide) (log2_lt (by omega) (by omega) (by decide)) (by decide)) ?_
      refine And.intro (a := CMulW (c * 2) (2 * (t : Int) + 1)) (mul_ok (a := 502) (b := 64) l2 (log2_lt (by omega) (by omega) (by decide)) (by decide)) ?_
      refine And.intro (a := CDivW (c * 2 * (2 * (t : Int) + 1)) ((t : Int) + 2)) ⟨by omega, Nat.lt_trans (log2_lt (k := 64) (by omega) (by omega) (by decide)) (by decide)⟩ (k _ ?_)
      exact ⟨_, _, _, _, _, _, _, _, _, rfl⟩
    · obtain ⟨x_k, x_entries, x_dressed, x_kept, x_due, x_number, x_turn, x_found, x_more, rfl⟩ := p
      rw [List.length_range]
      have cw := cat_words n (List.mem_range.mpr (by omega))
      obtain ⟨c, hc⟩ : ∃ c, c = catL n := ⟨_, rfl⟩
      rw [← hc] at cw ⊢
      have st1 : StOk [(n : Int), (n : Int)] := mk_st (by simp) (by simp) (by simp) fun x hx => by simp at hx; omega
      have st2 : StOk [400] := mk_st (by decide) (by decide) (by simp) fun x hx => by simp at hx; omega
      have st3 : StOk (List.replicate 200 1) := mk_st (by simp) (by simp) (List.pairwise_replicate.mpr (.inr (Int.le_refl _))) fun x hx => by rw [List.eq_of_mem_replicate hx]; decide
      have st4 : StOk [0] := mk_st (by decide) (by decide) (by simp) fun x hx => by simp at hx; omega
      have sum3 : (List.replicate 200 (1 : Int)).sum ≤ 400 := by decide +kernel
      have sum1 : [(n : Int), (n : Int)].sum ≤ 400 := by simp; omega
      refine dSeq.mk (use_words (s := [(n : Int), (n : Int)]) (.inl rfl) st1 sum1 (use_words (s := [400]) (.inl rfl) st2 (by decide) ?_))
      refine And.intro (a := -(2 ^ 63) ≤ (200 : Int) ∧ (200 : Int) < 2 ^ 63 ∧ 1 * (200 : Int).toNat ≤ sizeLine) (by decide) ?_
      refine (show Spc sp_count_words [.bor (.list (List.replicate (200 : Int).toNat [PyData.int 1]).flatten)] _ _ from ?_)
      rw [rep_one]
      have w1 := w1s
      obtain ⟨O, hO⟩ : ∃ O : List Int, O = List.replicate 200 1 := ⟨_, rfl⟩
      rw [show (200 : Int).toNat = 200 from rfl]
      rw [← hO] at st3 sum3 w1 ⊢
      refine use_words (s := O) (.inl rfl) st3 sum3 ?_
      rw [cw, w400, w1]
      refine sq_at [.scr ns, .own r1.d, x_k, x_entries, x_dressed, x_kept, x_due, x_number, .dat (.int (n : Int)), .dat (.int c), x_turn, .own [.int c, .int 1, .int 1], x_more, .emp, .emp] rfl ?_
      refine dSeq.mk (use_words (s := [0]) (.inl rfl) st4 (by decide) ?_)
      rw [w0]
      refine And.intro (a := 3 + 1 ≤ sizeLine) (by decide) ?_
      have ls : Lay 1 (.list [.int c, .int 1, .int 1, .int 1]) := .list fun x hx => by simp only [List.mem_cons, List.not_mem_nil, or_false] at hx; rcases hx with rfl | rfl | rfl | rfl <;> exact .int
      refine And.intro (ls.shaped (by decide)) (And.intro (ls.shaped (by decide)) (br_f (b := !PyData.eqv (.list [.int c, .int 1, .int 1, .int 1]) (.list [.int c, .int 1, .int 1, .int 1])) (by rw [ls.eqv]; rfl) ?_))
      clear st1 st2 st3 st4 sum3 sum1 w1 hO ls cw hc
      refine dSeq.mk (use_draw (m := 200) o1 (by omega) (by decide) (by decide) fun v r2 v0 v1 o2 => ?_)
      refine use_draw (m := 199) o2 (by omega) (by decide) (by decide) fun w r3 w0 w1 o3 => ?_
      obtain ⟨a, rfl⟩ : ∃ a : Nat, v = (a : Int) := ⟨v.toNat, by omega⟩
      obtain ⟨b, rfl⟩ : ∃ b : Nat, w = (b : Int) := ⟨w.toNat, by omega⟩
      refine sq_at [.scr ns, .own r3.d, x_k, x_entries, x_dressed, x_kept, x_due, x_number, .dat (.int ((a + 1 : Nat) : Int)), .dat (.int (wordsS (legS a 0))), x_turn, .own [.int c, .int 1, .int 1], .dat (.int (b : Int)), .emp, .emp] (by rw [leg_zero, show ((a + 1 : Nat) : Int) = 1 + (a : Int) by push_cast; omega]; rfl) ?_
      refine dSeq.mk (And.intro (a := -(2 ^ 62) ≤ (b : Int) ∧ (b : Int) < 2 ^ 62) (by omega) ?_)
      refine (show dFor _ _ _ ((List.range ((b : Nat) : Int).toNat).map fun i => T.dat (.int (0 + (i : Nat)))) [.scr ns, .own r3.d, x_k, x_entries, x_dressed, x_kept, x_due, x_number, .dat (.int ((a + 1 : Nat) : Int)), .dat (.int (wordsS (legS a 0))), x_turn, .own [.int c, .int 1, .int 1], .dat (.int (b : Int)), .emp, .emp] from ?_)
      rw [Int.toNat_natCast]
      refine for_pre (List.range b) _ (fun pre ρ => ∃  (x_k x_entries x_dressed x_kept x_due x_number x_turn x_found : T), ρ = [.scr ns, .own r3.d, x_k, x_entries, x_dressed, x_kept, x_due, x_number, .dat (.int ((a + 1 : Nat) : Int)), .dat (.int (wordsS (legS a pre.length))), x_turn, x_found, .dat (.int (b : Int)), .emp, .emp]) ⟨_, _, _, _, _, _, _, _, rfl⟩ (fun pre t post ρ K e p k => ?_) (fun ρ p => ?_)
      · obtain ⟨x_k, x_entries, x_dressed, x_kept, x_due, x_number, x_turn, x_found, rfl⟩ := p
        obtain ⟨et, ht⟩ := range_at e
        rw [← et]
        have lp : (pre ++ [t]).length = t + 1 := by simp [et]
        rw [lp] at k
        obtain ⟨c0, c1⟩ := leg_bd a t (by omega)
        have ec := leg_next a t
        obtain ⟨c, hc⟩ : ∃ c, c = wordsS (legS a t) := ⟨_, rfl⟩
        rw [← hc] at c0 c1 ec ⊢
        rw [← ec] at k
        have t0 : (0 : Int) + ((t : Nat) : Int) = (t : Nat) := by omega
        rw [t0]
        have l1 : c.natAbs.log2 < 3700 := log2_lt c0 c1 (by decide)
        refine dg_i rfl (And.intro (a := CMulW c (((a + 1 : Nat) : Int) + (t : Int))) (mul_ok (a := 3700) (b := 64) l1 (log2_lt (by omega) (by omega) (by decide)) (by decide)) ?_)
        refine And.intro (a := CDivW (c * (((a + 1 : Nat) : Int) + (t : Int))) ((t : Int) + 1)) ⟨by omega, Nat.lt_trans (log2_lt (k := 64) (by omega) (by omega) (by decide)) (by decide)⟩ (k _ ?_)
        exact ⟨_, _, _, _, _, _, _, _, rfl⟩
      · obtain ⟨x_k, x_entries, x_dressed, x_kept, x_due, x_number, x_turn, x_found, rfl⟩ := p
        rw [List.length_range]
        obtain ⟨h1, h2, h3⟩ := leg_ok a b
        have hb := (sum_nnL h2).2
        have hst : StOk (legS a b) := mk_st (by simp [legS]) (by simp [legS]; omega) h1 fun x hx => ⟨h2 x hx, by have := hb x hx; omega⟩
        have el : [PyData.int ((a + 1 : Nat) : Int)] ++ (List.replicate ((b : Nat) : Int).toNat [PyData.int 1]).flatten = (legS a b).map .int := by
          rw [Int.toNat_natCast, rep_one]; rfl
        refine And.intro (a := -(2 ^ 63) ≤ (b : Int) ∧ (b : Int) < 2 ^ 63 ∧ 1 * ((b : Nat) : Int).toNat ≤ sizeLine) ⟨by omega, by omega, Nat.le_trans (by omega : _ ≤ 300) (by decide)⟩ ?_
        refine And.intro (a := 1 + (List.replicate ((b : Nat) : Int).toNat [PyData.int 1]).flatten.length ≤ sizeLine) (by rw [Int.toNat_natCast, rep_one, List.length_map, List.length_replicate]; exact Nat.le_trans (by omega : _ ≤ 300) (by decide)) ?_
        refine (show Spc sp_count_words [.bor (.list ([PyData.int ((a + 1 : Nat) : Int)] ++ (List.replicate ((b : Nat) : Int).toNat [PyData.int 1]).flatten))] _ _ from ?_)
        rw [el]
        obtain ⟨S, hS⟩ : ∃ S, S = legS a b := ⟨_, rfl⟩
        rw [← hS] at h3 hst ⊢
        refine use_words (s := S) (.inl rfl) hst (by omega) ?_
        refine And.intro rfl (And.intro rfl ?_)
        refine (show Q (.dat (.bool (PyData.eqv (.int (wordsS S)) (.int (wordsS S))))) .emp from ?_)
        rw [eqv_self _ rfl]
        exact q
theorem all {l : PySem.W.OpenLaw} {w : World} {K : PySem.W.Frag} {h : Heap} {mg : Str → Option Value} {fa : Addr} (X : K.In h) (G : h.Ns mainGlobals mg) (hfa : mg "law" = some (.ref fa))
    {f0 : Addr} {od0 an0 : Option Addr} {sl0 : Array (Option Value)} {oc0 kV0 dc0 pm0 cd0 ct0 : Value}
    {T0 : Addr} {tc0 : Value} {td0 : Option Addr} {tn0 : Nat} {tl0 : Array (Option Value)}
    {f1 : Addr} {od1 an1 : Option Addr} {sl1 : Array (Option Value)} {oc1 kV1 dc1 pm1 cd1 ct1 : Value}
    {f2 : Addr} {od2 an2 : Option Addr} {sl2 : Array (Option Value)} {oc2 kV2 dc2 pm2 cd2 ct2 : Value}
    {f3 : Addr} {od3 an3 : Option Addr} {sl3 : Array (Option Value)} {oc3 kV3 dc3 pm3 cd3 ct3 : Value}
    {f4 : Addr} {od4 an4 : Option Addr} {sl4 : Array (Option Value)} {oc4 kV4 dc4 pm4 cd4 ct4 : Value}
    {f5 : Addr} {od5 an5 : Option Addr} {sl5 : Array (Option Value)} {oc5 kV5 dc5 pm5 cd5 ct5 : Value}
    {f6 : Addr} {od6 an6 : Option Addr} {sl6 : Array (Option Value)} {oc6 kV6 dc6 pm6 cd6 ct6 : Value}
    {f7 : Addr} {od7 an7 : Option Addr} {sl7 : Array (Option Value)} {oc7 kV7 dc7 pm7 cd7 ct7 : Value}
    {f8 : Addr} {od8 an8 : Option Addr} {sl8 : Array (Option Value)} {oc8 kV8 dc8 pm8 cd8 ct8 : Value}
    {f9 : Addr} {od9 an9 : Option Addr} {sl9 : Array (Option Value)} {oc9 kV9 dc9 pm9 cd9 ct9 : Value}
    {f10 : Addr} {od10 an10 : Option Addr} {sl10 : Array (Option Value)} {oc10 kV10 dc10 pm10 cd10 ct10 : Value}
    {f11 : Addr} {od11 an11 : Option Addr} {sl11 : Array (Option Value)} {oc11 kV11 dc11 pm11 cd11 ct11 : Value}
    {f12 : Addr} {od12 an12 : Option Addr} {sl12 : Array (Option Value)} {oc12 kV12 dc12 pm12 cd12 ct12 : Value}
    {f13 : Addr} {od13 an13 : Option Addr} {sl13 : Array (Option Value)} {oc13 kV13 dc13 pm13 cd13 ct13 : Value}
    {f14 : Addr} {od14 an14 : Option Addr} {sl14 : Array (Option Value)} {oc14 kV14 dc14 pm14 cd14 ct14 : Value}
    {tk_MAX_POSITION : Tok}
    {tk_MAX_READERS : Tok}
    {tk_MAX_READS : Tok}
    {g_InvalidState : Addr}
    {g_TooLong : Addr}
    {g_TeeError : Addr}
    {nm_TooLong q_TooLong : Str} {N_TooLong h_TooLong : Addr} {bs_TooLong sub_TooLong : List Value} {sn_TooLong : List Str} {ab_TooLong : Bool} {col_TooLong : Option Bool} {dd_TooLong od_TooLong an_TooLong : Option Addr} {m0_TooLong m1_TooLong m2_TooLong m3_TooLong m5_TooLong : Option Value} {oc_TooLong kV_TooLong dc_TooLong pm_TooLong cd_TooLong ct_TooLong : Value} {sl_TooLong : Array (Option Value)}
    (a0 : PySem.W.nsIn K mainGlobals "is_integer" = some (some (.ref f0)))
    (l0 : K.lookup f0 = some ⟨oc0, od0, .func (PySem.W.fnOf "is_integer" "is_integer" (defArgs st_is_integer) (defBody st_is_integer) (defScope st_is_integer) (.ref T0) kV0 dc0 pm0 an0 cd0 ct0), sl0⟩)
    (c0 : PySem.W.codeIn K cd0 "is_integer" = true)
    (k0 : PySem.W.keepIn K (.ref f0) = true)
    (t0 : K.lookup T0 = some ⟨tc0, td0, .seq #[.none] tn0, tl0⟩)
    (a1 : PySem.W.nsIn K mainGlobals "is_listed" = some (some (.ref f1)))
    (l1 : K.lookup f1 = some ⟨oc1, od1, .func (PySem.W.fnOf "is_listed" "is_listed" (defArgs st_is_listed) (defBody st_is_listed) (defScope st_is_listed) .none kV1 dc1 pm1 an1 cd1 ct1), sl1⟩)
    (c1 : PySem.W.codeIn K cd1 "is_listed" = true)
    (k1 : PySem.W.keepIn K (.ref f1) = true)
    (a2 : PySem.W.nsIn K mainGlobals "is_state" = some (some (.ref f2)))
    (l2 : K.lookup f2 = some ⟨oc2, od2, .func (PySem.W.fnOf "is_state" "is_state" (defArgs st_is_state) (defBody st_is_state) (defScope st_is_state) .none kV2 dc2 pm2 an2 cd2 ct2), sl2⟩)
    (c2 : PySem.W.codeIn K cd2 "is_state" = true)
    (k2 : PySem.W.keepIn K (.ref f2) = true)
    (a3 : PySem.W.nsIn K mainGlobals "checked_state" = some (some (.ref f3)))
    (l3 : K.lookup f3 = some ⟨oc3, od3, .func (PySem.W.fnOf "checked_state" "checked_state" (defArgs st_checked_state) (defBody st_checked_state) (defScope st_checked_state) .none kV3 dc3 pm3 an3 cd3 ct3), sl3⟩)
    (c3 : PySem.W.codeIn K cd3 "checked_state" = true)
    (k3 : PySem.W.keepIn K (.ref f3) = true)
    (a4 : PySem.W.nsIn K mainGlobals "factorial" = some (some (.ref f4)))
    (l4 : K.lookup f4 = some ⟨oc4, od4, .func (PySem.W.fnOf "factorial" "factorial" (defArgs st_factorial) (defBody st_factorial) (defScope st_factorial) .none kV4 dc4 pm4 an4 cd4 ct4), sl4⟩)
    (c4 : PySem.W.codeIn K cd4 "factorial" = true)
    (k4 : PySem.W.keepIn K (.ref f4) = true)
    (a5 : PySem.W.nsIn K mainGlobals "hook_product" = some (some (.ref f5)))
    (l5 : K.lookup f5 = some ⟨oc5, od5, .func (PySem.W.fnOf "hook_product" "hook_product" (defArgs st_hook_product) (defBody st_hook_product) (defScope st_hook_product) .none kV5 dc5 pm5 an5 cd5 ct5), sl5⟩)
    (c5 : PySem.W.codeIn K cd5 "hook_product" = true)
    (k5 : PySem.W.keepIn K (.ref f5) = true)
    (a6 : PySem.W.nsIn K mainGlobals "count_words" = some (some (.ref f6)))
    (l6 : K.lookup f6 = some ⟨oc6, od6, .func (PySem.W.fnOf "count_words" "count_words" (defArgs st_count_words) (defBody st_count_words) (defScope st_count_words) .none kV6 dc6 pm6 an6 cd6 ct6), sl6⟩)
    (c6 : PySem.W.codeIn K cd6 "count_words" = true)
    (k6 : PySem.W.keepIn K (.ref f6) = true)
    (a7 : PySem.W.nsIn K mainGlobals "_law_reel" = some (some (.ref f7)))
    (l7 : K.lookup f7 = some ⟨oc7, od7, .func (PySem.W.fnOf "_law_reel" "_law_reel" (defArgs st__law_reel) (defBody st__law_reel) (defScope st__law_reel) .none kV7 dc7 pm7 an7 cd7 ct7), sl7⟩)
    (c7 : PySem.W.codeIn K cd7 "_law_reel" = true)
    (k7 : PySem.W.keepIn K (.ref f7) = true)
    (a8 : PySem.W.nsIn K mainGlobals "_law_draw" = some (some (.ref f8)))
    (l8 : K.lookup f8 = some ⟨oc8, od8, .func (PySem.W.fnOf "_law_draw" "_law_draw" (defArgs st__law_draw) (defBody st__law_draw) (defScope st__law_draw) .none kV8 dc8 pm8 an8 cd8 ct8), sl8⟩)
    (c8 : PySem.W.codeIn K cd8 "_law_draw" = true)
    (k8 : PySem.W.keepIn K (.ref f8) = true)
    (a9 : PySem.W.nsIn K mainGlobals "_law_dressed" = some (some (.ref f9)))
    (l9 : K.lookup f9 = some ⟨oc9, od9, .func (PySem.W.fnOf "_law_dressed" "_law_dressed" (defArgs st__law_dressed) (defBody st__law_dressed) (defScope st__law_dressed) .none kV9 dc9 pm9 an9 cd9 ct9), sl9⟩)
    (c9 : PySem.W.codeIn K cd9 "_law_dressed" = true)
    (k9 : PySem.W.keepIn K (.ref f9) = true)
    (a10 : PySem.W.nsIn K mainGlobals "_law_number" = some (some (.ref f10)))
    (l10 : K.lookup f10 = some ⟨oc10, od10, .func (PySem.W.fnOf "_law_number" "_law_number" (defArgs st__law_number) (defBody st__law_number) (defScope st__law_number) .none kV10 dc10 pm10 an10 cd10 ct10), sl10⟩)
    (c10 : PySem.W.codeIn K cd10 "_law_number" = true)
    (k10 : PySem.W.keepIn K (.ref f10) = true)
    (a11 : PySem.W.nsIn K mainGlobals "_law_state" = some (some (.ref f11)))
    (l11 : K.lookup f11 = some ⟨oc11, od11, .func (PySem.W.fnOf "_law_state" "_law_state" (defArgs st__law_state) (defBody st__law_state) (defScope st__law_state) .none kV11 dc11 pm11 an11 cd11 ct11), sl11⟩)
    (c11 : PySem.W.codeIn K cd11 "_law_state" = true)
    (k11 : PySem.W.keepIn K (.ref f11) = true)
    (a12 : PySem.W.nsIn K mainGlobals "_law_before" = some (some (.ref f12)))
    (l12 : K.lookup f12 = some ⟨oc12, od12, .func (PySem.W.fnOf "_law_before" "_law_before" (defArgs st__law_before) (defBody st__law_before) (defScope st__law_before) .none kV12 dc12 pm12 an12 cd12 ct12), sl12⟩)
    (c12 : PySem.W.codeIn K cd12 "_law_before" = true)
    (k12 : PySem.W.keepIn K (.ref f12) = true)
    (a13 : PySem.W.nsIn K mainGlobals "_law_turned" = some (some (.ref f13)))
    (l13 : K.lookup f13 = some ⟨oc13, od13, .func (PySem.W.fnOf "_law_turned" "_law_turned" (defArgs st__law_turned) (defBody st__law_turned) (defScope st__law_turned) .none kV13 dc13 pm13 an13 cd13 ct13), sl13⟩)
    (c13 : PySem.W.codeIn K cd13 "_law_turned" = true)
    (k13 : PySem.W.keepIn K (.ref f13) = true)
    (a14 : PySem.W.nsIn K mainGlobals "law" = some (some (.ref f14)))
    (l14 : K.lookup f14 = some ⟨oc14, od14, .func (PySem.W.fnOf "law" "law" (defArgs st_law) (defBody st_law) (defScope st_law) .none kV14 dc14 pm14 an14 cd14 ct14), sl14⟩)
    (c14 : PySem.W.codeIn K cd14 "law" = true)
    (k14 : PySem.W.keepIn K (.ref f14) = true)
    (z_all : PySem.W.nsIn K mainGlobals "all" = some none)
    (z_bool : PySem.W.nsIn K mainGlobals "bool" = some none)
    (z_enumerate : PySem.W.nsIn K mainGlobals "enumerate" = some none)
    (z_int : PySem.W.nsIn K mainGlobals "int" = some none)
    (z_isinstance : PySem.W.nsIn K mainGlobals "isinstance" = some none)
    (z_len : PySem.W.nsIn K mainGlobals "len" = some none)
    (z_list : PySem.W.nsIn K mainGlobals "list" = some none)
    (z_max : PySem.W.nsIn K mainGlobals "max" = some none)
    (z_min : PySem.W.nsIn K mainGlobals "min" = some none)
    (z_range : PySem.W.nsIn K mainGlobals "range" = some none)
    (z_repr : PySem.W.nsIn K mainGlobals "repr" = some none)
    (z_sum : PySem.W.nsIn K mainGlobals "sum" = some none)
    (z_tuple : PySem.W.nsIn K mainGlobals "tuple" = some none)
    (z_zip : PySem.W.nsIn K mainGlobals "zip" = some none)
    (m_MAX_POSITION : PySem.W.nsIn K mainGlobals "MAX_POSITION" = some (some (.int 1000000000000000000000000000000000 tk_MAX_POSITION)))
    (m_MAX_READERS : PySem.W.nsIn K mainGlobals "MAX_READERS" = some (some (.int 200 tk_MAX_READERS)))
    (m_MAX_READS : PySem.W.nsIn K mainGlobals "MAX_READS" = some (some (.int 400 tk_MAX_READS)))
    (ga_InvalidState : PySem.W.nsIn K mainGlobals "InvalidState" = some (some (.ref g_InvalidState)))
    (hd_InvalidState : PySem.W.hasDictIn K g_InvalidState = true)
    (ty_InvalidState : PySem.W.typeIn K (.ref g_InvalidState) = some (.type "type"))
    (ga_TooLong : PySem.W.nsIn K mainGlobals "TooLong" = some (some (.ref g_TooLong)))
    (hd_TooLong : PySem.W.hasDictIn K g_TooLong = true)
    (ty_TooLong : PySem.W.typeIn K (.ref g_TooLong) = some (.type "type"))
    (xb_InvalidState : PySem.W.subIn K (.ref g_InvalidState) (.type "BaseException") = some true)
    (xb_TooLong : PySem.W.subIn K (.ref g_TooLong) (.type "BaseException") = some true)
    (ga_Tee : PySem.W.nsIn K mainGlobals "TeeError" = some (some (.ref g_TeeError)))
    (rd_Tee : PySem.W.readsIn K g_TeeError (.type "type") = true)
    (rg_Tee : PySem.W.specialIn K (.ref g_TeeError) "__getattribute__" = some (some (.builtin "type.__getattribute__")))
    (fc_Tee : PySem.W.findCls K (.ref g_TeeError) (.type "type") "__init__" = some (.val (.builtin "ValueError.__init__")))
    (xl_TooLong : K.lookup g_TooLong = some (excClassObj nm_TooLong q_TooLong g_TooLong N_TooLong bs_TooLong [.ref g_TeeError, .type "ValueError", .type "Exception", .type "BaseException", .type "object"] true sn_TooLong sub_TooLong ab_TooLong col_TooLong dd_TooLong m0_TooLong m1_TooLong m2_TooLong m3_TooLong m5_TooLong "ValueError.__new__"))
    (xe_TooLong : PySem.W.findIn K (.ref g_TooLong) "__setattr__" = some (some (.builtin "object.__setattr__")))
    (xf_TooLong : PySem.W.findIn K (.ref g_TooLong) "length" = some none)
    (xi_TooLong : PySem.W.findIn K (.ref g_TooLong) "__init__" = some (some (.ref h_TooLong)))
    (xt_TooLong : PySem.W.typeIn K (.ref h_TooLong) = some (.type "function"))
    (xj_TooLong : PySem.W.keepIn K (.ref h_TooLong) = true)
    (xo_TooLong : K.lookup h_TooLong = some ⟨oc_TooLong, od_TooLong, .func (PySem.W.fnOf "__init__" "TooLong.__init__" (defArgs st_TooLong) (defBody st_TooLong) (defScope st_TooLong) .none kV_TooLong dc_TooLong pm_TooLong an_TooLong cd_TooLong ct_TooLong), sl_TooLong⟩)
    (xp_TooLong : PySem.W.codeIn K cd_TooLong "TooLong.__init__" = true)
    (xx_InvalidState : PySem.W.excIn K g_InvalidState [.type "ValueError", .type "Exception", .type "BaseException", .type "object"] "ValueError.__new__" = true)
    (xk_InvalidState : PySem.W.keepIn K (.ref g_InvalidState) = true)
    (xs_InvalidState : PySem.W.subIn K (.ref g_InvalidState) (.ref g_InvalidState) = some true)
    (xg_InvalidState : PySem.W.findIn K (.ref g_InvalidState) "__getattribute__" = some (some (.builtin "BaseException.__getattribute__")))
    (xh_InvalidState : PySem.W.findIn K (.ref g_InvalidState) "__getattr__" = some none)
    (xa_InvalidState : PySem.W.findIn K (.ref g_InvalidState) "__class__" = some (some (.builtin "object.__class__")))
    (xm_InvalidState : PySem.W.mroIn K g_InvalidState (.type "object") = some true)
    (xk_TooLong : PySem.W.keepIn K (.ref g_TooLong) = true)
    (xs_TooLong : PySem.W.subIn K (.ref g_TooLong) (.ref g_TooLong) = some true)
    (xg_TooLong : PySem.W.findIn K (.ref g_TooLong) "__getattribute__" = some (some (.builtin "BaseException.__getattribute__")))
    (xh_TooLong : PySem.W.findIn K (.ref g_TooLong) "__getattr__" = some none)
    (xa_TooLong : PySem.W.findIn K (.ref g_TooLong) "__class__" = some (some (.builtin "object.__class__")))
    (xm_TooLong : PySem.W.mroIn K g_TooLong (.type "object") = some true)
    (xn : PySem.W.specialIn K (.builtin "object.__class__") "__get__" = some (some (.builtin "getset_descriptor.__get__")))
    (xq : PySem.W.takesIn K (.builtin "object.__class__") = some true)
    : ∃ fd : FuncData, (∀ (s : Shared) (v : Value), BindsTo s fd ⟨[v], []⟩ [("script", v)]) ∧ ∀ base : Heap, K.In base → base.Ns mainGlobals mg → FnG l.prog w K mg base 117 fa fd ["script"] (toSp K 1 none sp_law) := by
  have e := hfa.symm.trans (PySem.W.mg_of X G a14)
  cases e
  have n_all := PySem.W.mg_none_of X G z_all
  have n_bool := PySem.W.mg_none_of X G z_bool
  have n_enumerate := PySem.W.mg_none_of X G z_enumerate
  have n_int := PySem.W.mg_none_of X G z_int
  have n_isinstance := PySem.W.mg_none_of X G z_isinstance
  have n_len := PySem.W.mg_none_of X G z_len
  have n_list := PySem.W.mg_none_of X G z_list
  have n_max := PySem.W.mg_none_of X G z_max
  have n_min := PySem.W.mg_none_of X G z_min
  have n_range := PySem.W.mg_none_of X G z_range
  have n_repr := PySem.W.mg_none_of X G z_repr
  have n_sum := PySem.W.mg_none_of X G z_sum
  have n_tuple := PySem.W.mg_none_of X G z_tuple
  have n_zip := PySem.W.mg_none_of X G z_zip
  have c_MAX_POSITION : HasC mg "MAX_POSITION" (.int 1000000000000000000000000000000000) := ⟨_, PySem.W.mg_of X G m_MAX_POSITION, ⟨_, rfl⟩⟩
  have c_MAX_READERS : HasC mg "MAX_READERS" (.int 200) := ⟨_, PySem.W.mg_of X G m_MAX_READERS, ⟨_, rfl⟩⟩
  have c_MAX_READS : HasC mg "MAX_READS" (.int 400) := ⟨_, PySem.W.mg_of X G m_MAX_READS, ⟨_, rfl⟩⟩
  have tee : HasTee K mg := ⟨⟨g_TeeError, .type "type", PySem.W.mg_of X G ga_Tee, ⟨rd_Tee, rg_Tee⟩, fc_Tee⟩⟩
  have f_TooLong : ∀ base : Heap, HasEF l.prog w K mg base "TooLong" "length" := fun base => ⟨⟨g_TooLong, h_TooLong, _, _, PySem.W.mg_of X G ga_TooLong, ga_TooLong, ⟨⟨nm_TooLong, q_TooLong, N_TooLong, bs_TooLong, _, sn_TooLong, sub_TooLong, ab_TooLong, col_TooLong, dd_TooLong, m0_TooLong, m1_TooLong, m2_TooLong, m3_TooLong, m5_TooLong, xl_TooLong, rfl⟩, xe_TooLong, xb_TooLong, ty_TooLong, xk_TooLong⟩, xf_TooLong, xi_TooLong, xt_TooLong, (fun_mk (st := st_TooLong) xo_TooLong xp_TooLong xj_TooLong).binds (ps := ["self", "length"]) (fun _ _ _ _ _ _ us hl => match us, hl with | [_, _], _ => rfl), fi_TooLong (fun_mk (st := st_TooLong) xo_TooLong xp_TooLong xj_TooLong) tee⟩⟩
  have r_TooLong : HasXf K "TooLong" "length" := ⟨⟨g_TooLong, ga_TooLong, ⟨xg_TooLong, xh_TooLong, xb_TooLong, hd_TooLong⟩, xf_TooLong⟩⟩
  have e_InvalidState : HasE K mg "InvalidState" := ⟨⟨g_InvalidState, PySem.W.mg_of X G ga_InvalidState, ga_InvalidState, xx_InvalidState, xk_InvalidState, xb_InvalidState, ty_InvalidState⟩⟩
  have E_InvalidState : ExcC K g_InvalidState := ⟨xg_InvalidState, xh_InvalidState, xb_InvalidState, hd_InvalidState, xa_InvalidState, xn, xq, xm_InvalidState⟩
  have E_TooLong : ExcC K g_TooLong := ⟨xg_TooLong, xh_TooLong, xb_TooLong, hd_TooLong, xa_TooLong, xn, xq, xm_TooLong⟩
  have F0 : FunD K "is_integer" "is_integer" (defArgs st_is_integer) (defBody st_is_integer) (defScope st_is_integer) [V.non] [] f0 _ := ⟨⟨_, _, .ref T0, _, _, _, _, _, _, _, rfl, l0, c0, .inr ⟨by simp, T0, _, [.none], tn0, rfl, t0, rfl, (.cons rfl .nil)⟩, .inl rfl⟩, k0⟩
  have b0 : ∃ ds, Vals (([V.non] : List V).drop 1) ds ∧ Binds K _ ["value", "low", "high"] ds := F0.binds1 (ps := ["value", "low", "high"]) 3 1 (by simp) rfl (fun _ _ _ _ _ _ _ us its hl hi => match us, its, hl, hi with | [_, _, _], [_], _, _ => ⟨_, rfl, rfl⟩)
  obtain ⟨ds0, v0, b0⟩ := b0
  cases v0
  have F1 := fun_mk (st := st_is_listed) l1 c1 k1
  have b1 := F1.binds (ps := ["value"]) fun _ _ _ _ _ _ us hl => match us, hl with | [_], _ => rfl
  have F2 := fun_mk (st := st_is_state) l2 c2 k2
  have b2 := F2.binds (ps := ["value"]) fun _ _ _ _ _ _ us hl => match us, hl with | [_], _ => rfl
  have F3 := fun_mk (st := st_checked_state) l3 c3 k3
  have b3 := F3.binds (ps := ["value"]) fun _ _ _ _ _ _ us hl => match us, hl with | [_], _ => rfl
  have F4 := fun_mk (st := st_factorial) l4 c4 k4
  have b4 := F4.binds (ps := ["number"]) fun _ _ _ _ _ _ us hl => match us, hl with | [_], _ => rfl
  have F5 := fun_mk (st := st_hook_product) l5 c5 k5
  have b5 := F5.binds (ps := ["state"]) fun _ _ _ _ _ _ us hl => match us, hl with | [_], _ => rfl
  have F6 := fun_mk (st := st_count_words) l6 c6 k6
  have b6 := F6.binds (ps := ["state"]) fun _ _ _ _ _ _ us hl => match us, hl with | [_], _ => rfl
  have F7 := fun_mk (st := st__law_reel) l7 c7 k7
  have b7 := F7.binds (ps := ["script"]) fun _ _ _ _ _ _ us hl => match us, hl with | [_], _ => rfl
  have F8 := fun_mk (st := st__law_draw) l8 c8 k8
  have b8 := F8.binds (ps := ["reel", "many"]) fun _ _ _ _ _ _ us hl => match us, hl with | [_, _], _ => rfl
  have F9 := fun_mk (st := st__law_dressed) l9 c9 k9
  have b9 := F9.binds (ps := ["reel", "value"]) fun _ _ _ _ _ _ us hl => match us, hl with | [_, _], _ => rfl
  have F10 := fun_mk (st := st__law_number) l10 c10 k10
  have b10 := F10.binds (ps := ["entries", "known"]) fun _ _ _ _ _ _ us hl => match us, hl with | [_, _], _ => rfl
  have F11 := fun_mk (st := st__law_state) l11 c11 k11
  have b11 := F11.binds (ps := ["reel", "most", "total"]) fun _ _ _ _ _ _ us hl => match us, hl with | [_, _, _], _ => rfl
  have F12 := fun_mk (st := st__law_before) l12 c12 k12
  have b12 := F12.binds (ps := ["entries"]) fun _ _ _ _ _ _ us hl => match us, hl with | [_], _ => rfl
  have F13 := fun_mk (st := st__law_turned) l13 c13 k13
  have b13 := F13.binds (ps := ["entries"]) fun _ _ _ _ _ _ us hl => match us, hl with | [_], _ => rfl
  have F14 := fun_mk (st := st_law) l14 c14 k14
  refine ⟨PySem.W.fnOf "law" "law" (defArgs st_law) (defBody st_law) (defScope st_law) .none kV14 dc14 pm14 an14 cd14 ct14, fun s v => .of_eq rfl, fun base _ _ => ?_⟩
  have h_is_integer : Has l.prog w K mg base "is_integer" 1 ["value", "low", "high"] ms_is_integer sp_is_integer := ⟨⟨f0, _, PySem.W.mg_of X G a0, k0, b0, fn_dataD F0 sc_is_integer [] none (by intro j e; cases e) dn_is_integer (fun cdv A os s H E Wd B0 o vs hr tk => dp_is_integer n_bool n_int n_isinstance hr tk) (fun ts Q W _ h => law_is_integer ts Q W h)⟩, mono_is_integer, rfl⟩
  have h_is_listed : Has l.prog w K mg base "is_listed" 1 ["value"] ms_is_listed sp_is_listed := ⟨⟨f1, _, PySem.W.mg_of X G a1, k1, b1, fn_data F1 sc_is_listed [] none (by intro j e; cases e) dn_is_listed (fun cdv A os s H E Wd B0 o vs hr tk => dp_is_listed n_isinstance n_list n_tuple hr tk) (fun ts Q W _ h => law_is_listed ts Q W h)⟩, mono_is_listed, rfl⟩
  have h_is_state : Has l.prog w K mg base "is_state" 2 ["value"] ms_is_state sp_is_state := ⟨⟨f2, _, PySem.W.mg_of X G a2, k2, b2, fn_data F2 sc_is_state [1, 2, 3] none (by intro j e; cases e) dn_is_state (fun cdv A os s H E Wd B0 o vs hr tk => dp_is_state n_all n_len n_zip c_MAX_POSITION c_MAX_READERS h_is_integer h_is_listed hr tk) (fun ts Q W _ h => law_is_state ts Q W h)⟩, mono_is_state, rfl⟩
  have h_checked_state : Has l.prog w K mg base "checked_state" 3 ["value"] ms_checked_state sp_checked_state := ⟨⟨f3, _, PySem.W.mg_of X G a3, k3, b3, fn_data F3 sc_checked_state [] none (by intro j e; cases e) dn_checked_state (fun cdv A os s H E Wd B0 o vs hr tk => dp_checked_state n_list e_InvalidState h_is_state hr tk) (fun ts Q W _ h => law_checked_state ts Q W h)⟩, mono_checked_state, rfl⟩
  have h_factorial : Has l.prog w K mg base "factorial" 1 ["number"] ms_factorial sp_factorial := ⟨⟨f4, _, PySem.W.mg_of X G a4, k4, b4, fn_data F4 sc_factorial [] none (by intro j e; cases e) dn_factorial (fun cdv A os s H E Wd B0 o vs hr tk => dp_factorial n_range hr tk) (fun ts Q W _ h => law_factorial ts Q W h)⟩, mono_factorial, rfl⟩
  have h_hook_product : Has l.prog w K mg base "hook_product" 1 ["state"] ms_hook_product sp_hook_product := ⟨⟨f5, _, PySem.W.mg_of X G a5, k5, b5, fn_data F5 sc_hook_product [5] none (by intro j e; cases e) dn_hook_product (fun cdv A os s H E Wd B0 o vs hr tk => dp_hook_product n_enumerate n_len n_range hr tk) (fun ts Q W _ h => law_hook_product ts Q W h)⟩, mono_hook_product, rfl⟩
  have h_count_words : Has l.prog w K mg base "count_words" 4 ["state"] ms_count_words sp_count_words := ⟨⟨f6, _, PySem.W.mg_of X G a6, k6, b6, fn_data F6 sc_count_words [] none (by intro j e; cases e) dn_count_words (fun cdv A os s H E Wd B0 o vs hr tk => dp_count_words n_sum c_MAX_READS (f_TooLong _) h_checked_state h_factorial h_hook_product hr tk) (fun ts Q W _ h => law_count_words ts Q W h)⟩, mono_count_words, rfl⟩
  have h__law_reel : Has l.prog w K mg base "_law_reel" 1 ["script"] ms__law_reel sp__law_reel := ⟨⟨f7, _, PySem.W.mg_of X G a7, k7, b7, fn_data F7 sc__law_reel [2] (some 0) (by intro j e; cases e; decide) dn__law_reel (fun cdv A os s H E Wd B0 o vs hr tk => dp__law_reel  hr tk) (fun ts Q W _ h => law__law_reel ts Q W h)⟩, mono__law_reel, rfl⟩
  have h__law_draw : Has l.prog w K mg base "_law_draw" 1 ["reel", "many"] ms__law_draw sp__law_draw := ⟨⟨f8, _, PySem.W.mg_of X G a8, k8, b8, fn_data F8 sc__law_draw [] (some 0) (by intro j e; cases e; decide) dn__law_draw (fun cdv A os s H E Wd B0 o vs hr tk => dp__law_draw n_int n_len hr tk) (fun ts Q W _ h => law__law_draw ts Q W h)⟩, mono__law_draw, rfl⟩
  have h__law_dressed : ∀ nr, Has l.prog w K mg base "_law_dressed" (1 + nr) ["reel", "value"] ms__law_dressed (spn__law_dressed nr) := by
    intro nr; induction nr with
    | zero => exact ⟨⟨f9, _, PySem.W.mg_of X G a9, k9, b9, ⟨fun _ _ _ _ ⟨_, _, _, _, _, h⟩ => (never__law_dressed _ _ _ h).elim, fun _ _ _ _ _ _ _ _ _ _ _ _ _ ⟨_, _, _, _, _, h⟩ => (never__law_dressed _ _ _ h).elim⟩⟩, mono__law_dressed 0, rfl⟩
    | succ nr ih => exact ⟨⟨f9, _, PySem.W.mg_of X G a9, k9, b9, fn_data F9 sc__law_dressed [3] (some 0) (by intro j e; cases e; decide) (dn__law_dressed (spn__law_dressed nr)) (fun cdv A os s H E Wd B0 o vs hr tk => dp__law_dressed n_isinstance n_list n_tuple h__law_draw ih hr tk) (fun ts Q W _ h => law__law_dressed nr ts Q W h)⟩, mono__law_dressed (nr + 1), rfl⟩
  have h__law_dressed : Has l.prog w K mg base "_law_dressed" 5 ["reel", "value"] ms__law_dressed sp__law_dressed := h__law_dressed 4
  have h__law_number : ∀ nr, Has l.prog w K mg base "_law_number" (100 + nr) ["entries", "known"] ms__law_number (spn__law_number nr) := by
    intro nr; induction nr with
    | zero => exact ⟨⟨f10, _, PySem.W.mg_of X G a10, k10, b10, ⟨fun _ _ _ _ ⟨_, _, _, _, _, h⟩ => (never__law_number _ _ _ h).elim, fun _ _ _ _ _ _ _ _ _ _ _ _ _ ⟨_, _, _, _, _, h⟩ => (never__law_number _ _ _ h).elim⟩⟩, mono__law_number 0, rfl⟩
    | succ nr ih => exact ⟨⟨f10, _, PySem.W.mg_of X G a10, k10, b10, fn_data F10 sc__law_number [] (some 1) (by intro j e; cases e; decide) (dn__law_number (spn__law_number nr)) (fun cdv A os s H E Wd B0 o vs hr tk => dp__law_number n_int n_len n_range n_repr n_sum ih hr tk) (fun ts Q W _ h => law__law_number nr ts Q W h)⟩, mono__law_number (nr + 1), rfl⟩
  have h__law_number : Has l.prog w K mg base "_law_number" 116 ["entries", "known"] ms__law_number sp__law_number := h__law_number 16
  have h__law_state : Has l.prog w K mg base "_law_state" 2 ["reel", "most", "total"] ms__law_state sp__law_state := ⟨⟨f11, _, PySem.W.mg_of X G a11, k11, b11, fn_data F11 sc__law_state [] (some 0) (by intro j e; cases e; decide) dn__law_state (fun cdv A os s H E Wd B0 o vs hr tk => dp__law_state n_min n_range h__law_draw hr tk) (fun ts Q W _ h => law__law_state ts Q W h)⟩, mono__law_state, rfl⟩
  have h__law_before : Has l.prog w K mg base "_law_before" 1 ["entries"] ms__law_before sp__law_before := ⟨⟨f12, _, PySem.W.mg_of X G a12, k12, b12, fn_data F12 sc__law_before [] none (by intro j e; cases e) dn__law_before (fun cdv A os s H E Wd B0 o vs hr tk => dp__law_before n_len n_range hr tk) (fun ts Q W _ h => law__law_before ts Q W h)⟩, mono__law_before, rfl⟩
  have h__law_turned : Has l.prog w K mg base "_law_turned" 1 ["entries"] ms__law_turned sp__law_turned := ⟨⟨f13, _, PySem.W.mg_of X G a13, k13, b13, fn_data F13 sc__law_turned [1, 2] none (by intro j e; cases e) dn__law_turned (fun cdv A os s H E Wd B0 o vs hr tk => dp__law_turned n_len n_max n_range hr tk) (fun ts Q W _ h => law__law_turned ts Q W h)⟩, mono__law_turned, rfl⟩
  exact fn_data F14 sc_law [13, 14] none (by intro j e; cases e) dn_law (fun cdv A os s H E Wd B0 o vs hr tk => dp_law n_len n_min n_range n_repr n_sum h__law_before h__law_draw h__law_dressed h__law_number h__law_reel h__law_state h__law_turned h_count_words hr tk) (fun ts Q W _ h => law_law ts Q W h)
end Lw
open PySem PySem.W PyProof.Rows in
set_option maxRecDepth 100000 in
set_option maxHeartbeats 0 in
theorem PySem.Challenge.cw_teesizes_k05_numbers_of_words_holds : PySem.Challenge.rw_teesizes_k05_numbers_of_words.Holds := by
  w_on; o_law; k_head; (case hw => w_witness2)
  k_fill
  refine Ds.walkD (l := PySem.Challenge.rw_teesizes_k05_numbers_of_words) (k := 117) rfl rfl ⟨⟨rfl, by decide, by decide⟩, fun _ => rfl⟩ (fun w h Y => PySem.W.kIn_of Y) Lw.mono_law (fun ns Q W hl h => ⟨ns, rfl, hl, h⟩) ?F
  case F =>
    intro w mg fa h KX G hmg
    refine' Lw.all KX G hmg ?a0 ?l0 ?c0 ?k0 ?t0 ?a1 ?l1 ?c1 ?k1 ?a2 ?l2 ?c2 ?k2 ?a3 ?l3 ?c3 ?k3 ?a4 ?l4 ?c4 ?k4 ?a5 ?l5 ?c5 ?k5 ?a6 ?l6 ?c6 ?k6 ?a7 ?l7 ?c7 ?k7 ?a8 ?l8 ?c8 ?k8 ?a9 ?l9 ?c9 ?k9 ?a10 ?l10 ?c10 ?k10 ?a11 ?l11 ?c11 ?k11 ?a12 ?l12 ?c12 ?k12 ?a13 ?l13 ?c13 ?k13 ?a14 ?l14 ?c14 ?k14 ?z_all ?z_bool ?z_enumerate ?z_int ?z_isinstance ?z_len ?z_list ?z_max ?z_min ?z_range ?z_repr ?z_sum ?z_tuple ?z_zip ?m_MAX_POSITION ?m_MAX_READERS ?m_MAX_READS ?ga_InvalidState ?hd_InvalidState ?ty_InvalidState ?ga_TooLong ?hd_TooLong ?ty_TooLong ?xb_InvalidState ?xb_TooLong ?ga_Tee ?rd_Tee ?rg_Tee ?fc_Tee ?xl_TooLong ?xe_TooLong ?xf_TooLong ?xi_TooLong ?xt_TooLong ?xj_TooLong ?xo_TooLong ?xp_TooLong ?xx_InvalidState ?xk_InvalidState ?xs_InvalidState ?xg_InvalidState ?xh_InvalidState ?xa_InvalidState ?xm_InvalidState ?xk_TooLong ?xs_TooLong ?xg_TooLong ?xh_TooLong ?xa_TooLong ?xm_TooLong ?xn ?xq
    (case a0 => k_is)
    (case l0 => k_is)
    (case c0 => k_is)
    (case k0 => k_is)
    (case t0 => k_is)
    (case a1 => k_is)
    (case l1 => k_is)
    (case c1 => k_is)
    (case k1 => k_is)
    (case a2 => k_is)
    (case l2 => k_is)
    (case c2 => k_is)
    (case k2 => k_is)
    (case a3 => k_is)
    (case l3 => k_is)
    (case c3 => k_is)
    (case k3 => k_is)
    (case a4 => k_is)
    (case l4 => k_is)
    (case c4 => k_is)
    (case k4 => k_is)
    (case a5 => k_is)
    (case l5 => k_is)
    (case c5 => k_is)
    (case k5 => k_is)
    (case a6 => k_is)
    (case l6 => k_is)
    (case c6 => k_is)
    (case k6 => k_is)
    (case a7 => k_is)
    (case l7 => k_is)
    (case c7 => k_is)
    (case k7 => k_is)
    (case a8 => k_is)
    (case l8 => k_is)
    (case c8 => k_is)
    (case k8 => k_is)
    (case a9 => k_is)
    (case l9 => k_is)
    (case c9 => k_is)
    (case k9 => k_is)
    (case a10 => k_is)
    (case l10 => k_is)
    (case c10 => k_is)
    (case k10 => k_is)
    (case a11 => k_is)
    (case l11 => k_is)
    (case c11 => k_is)
    (case k11 => k_is)
    (case a12 => k_is)
    (case l12 => k_is)
    (case c12 => k_is)
    (case k12 => k_is)
    (case a13 => k_is)
    (case l13 => k_is)
    (case c13 => k_is)
    (case k13 => k_is)
    (case a14 => k_is)
    (case l14 => k_is)
    (case c14 => k_is)
    (case k14 => k_is)
    (case z_all => k_is)
    (case z_bool => k_is)
    (case z_enumerate => k_is)
    (case z_int => k_is)
    (case z_isinstance => k_is)
    (case z_len => k_is)
    (case z_list => k_is)
    (case z_max => k_is)
    (case z_min => k_is)
    (case z_range => k_is)
    (case z_repr => k_is)
    (case z_sum => k_is)
    (case z_tuple => k_is)
    (case z_zip => k_is)
    (case m_MAX_POSITION => k_is)
    (case m_MAX_READERS => k_is)
    (case m_MAX_READS => k_is)
    (case ga_InvalidState => k_is)
    (case hd_InvalidState => k_is)
    (case ty_InvalidState => k_is)
    (case ga_TooLong => k_is)
    (case hd_TooLong => k_is)
    (case ty_TooLong => k_is)
    (case xb_InvalidState => k_is)
    (case xb_TooLong => k_is)
    (case ga_Tee => k_is)
    (case rd_Tee => k_is)
    (case rg_Tee => k_is)
    (case fc_Tee => k_is)
    (case xl_TooLong => k_is)
    (case xe_TooLong => k_is)
    (case xf_TooLong => k_is)
    (case xi_TooLong => k_is)
    (case xt_TooLong => k_is)
    (case xj_TooLong => k_is)
    (case xo_TooLong => k_is)
    (case xp_TooLong => k_is)
    (case xx_InvalidState => k_exc)
    (case xk_InvalidState => k_is)
    (case xs_InvalidState => first | k_is | decide | rfl)
    (case xg_InvalidState => k_is)
    (case xh_InvalidState => k_is)
    (case xa_InvalidState => k_is)
    (case xm_InvalidState => k_is)
    (case xk_TooLong => k_is)
    (case xs_TooLong => first | k_is | decide | rfl)
    (case xg_TooLong => k_is)
    (case xh_TooLong => k_is)
    (case xa_TooLong => k_is)
    (case xm_TooLong => k_is)
    (case xn => k_is)
    (case xq => k_is)
