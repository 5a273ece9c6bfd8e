import PyProof.Rows.All
import Wide.All
import OpenK.AllK
import Wide.FinOn
import HandS.ForMost
import HandS.EndBits
import HandS.ExcOwn
import HandS.Words
import HandS.Defaults
import HandS.CallSlots
import HandS.ForExc
import HandS.WideBits
import HandS.TupAny
import HandS.TupMul
import HandS.IsInst
import HandS.Deep
import HandS.Codes
import HandS.Style
import HandS.Sort
import HandS.Zip
import HandS.TryOnly
import HandS.RevRange
import HandS.DictComp
import HandS.Text
import HandS.SortInts
import PyProof.Rows.StrMul
import HandS.ExcIs
import HandS.SetFor
import PySem.Challenge.RW_teesizes_k14_first_obstructions
set_option Elab.async false
set_option linter.all false
set_option maxRecDepth 100000
set_option maxHeartbeats 4000000
namespace Ds
open PySem L2
open PyProof.Rows (envOfC IntsAre AllBare)
open PySem.Spec
variable {P : Program} {w : World} {K : PySem.W.Frag} {mg : Str → Option Value} {base : Heap}
/-- room, and nothing of a repr around -/
structure RoomG (k : Nat) (A : Around) : Prop where
  rm : Room k A
  gd : A.guards = some []
theorem RoomG.mono {j k : Nat} {A : Around} (r : RoomG k A) (h : j ≤ k) : RoomG j A := ⟨r.rm.mono h, r.gd⟩
theorem RoomG.deeper {k : Nat} {A : Around} (r : RoomG (k + 1) A) (env : Env) : RoomG k (A.deeper env) := ⟨r.rm.deeper env, r.gd⟩
theorem RoomG.units {k : Nat} {A : Around} (r : RoomG k A) : A.units + 64 < cLine := by have := r.rm.un; omega
/-- the promise of a def -/
structure FnG (P : Program) (w : World) (K : PySem.W.Frag) (mg : Str → Option Value) (base : Heap) (k : Nat) (f : Addr) (fd : FuncData) (ps : List Str) (sp : Sp) : Prop where
  len : ∀ vs H Q E, sp vs H Q E → vs.length = ps.length
  run : ∀ (A : Around) (os : List Env) (s : Shared) (H : Hp) (as : Args) (us : List Value) (vs : List V) (Q : VK) (E : XK), RoomG k A → Env0 P w K mg base A os s H → BindsTo s fd as (ps.zip us) → Vals vs us →
    sp vs H Q E → codeAny (model P w) A (.call (.ref f) as) (CR (L2.CX P w) os P w H s Q E) s
theorem FnG.mono {j k : Nat} {f : Addr} {fd : FuncData} {ps : List Str} {sp : Sp} (F : FnG P w K mg base j f fd ps sp) (h : j ≤ k) : FnG P w K mg base k f fd ps sp :=
  ⟨F.len, fun A os s H as us vs Q E r => F.run A os s H as us vs Q E (r.mono h)⟩
theorem fnG_of {k : Nat} {f : Addr} {name qual : Str} {params : Arguments} {body : List Stmt} {sc : Scope} {dV kV doc pm cdv ct oc : Value} {an od : Option Addr} {osl : Array (Option Value)} {N ps : List Str} {sp : Sp}
    (at_ : K.lookup f = some ⟨oc, od, .func (PySem.W.fnOf name qual params body sc dV kV doc pm an cdv ct), osl⟩) (cd : PySem.W.codeIn K cdv qual = true) (S : FnScope N ps sc) (len : ∀ vs H Q E, sp vs H Q E → vs.length = ps.length)
    (hb : ∀ (A : Around) (os : List Env) (s : Shared) (H : Hp) (vs : List V) (Q : VK) (E : XK), RoomG k (A.deeper (envOfC qual sc s.heap.objs.size f cdv)) → sp vs H Q E →
      ∃ t, PSs (cxOf (L2.CX P w) P w K mg base N qual sc f cdv A os s H E) body t ∧ t { nx := fun _ H' => Q .non H', rt := Q } (L2.start N vs) H) :
    FnG P w K mg base (k + 1) f (PySem.W.fnOf name qual params body sc dV kV doc pm an cdv ct) ps sp := by
  constructor
  · exact len
  · intro A os s H as us vs Q E room env bnd rel want
    have inK : K.In s.heap := env.mod.kin.keeps fun b o e => (env.bs b o e).1
    have kinds : ∀ y ∈ ps.zip us, sc.names.lookup y.1 = some .local ∨ (sc.names.lookup y.1 = some .cell ∧ ((cellsFrom (s.heap.objs.size + 1) sc.names []).lookup y.1).isSome = true) := by
      intro ⟨n, v⟩ hy
      exact (S.par n (List.of_mem_zip hy).1).imp id fun q => ⟨q, PySem.W.cellsFrom_some _ _ _ (.inl q)⟩
    have nolim : s.heap.NoLimit := env.mod.nolimit.keeps fun b o e => (env.bs b o e).1
    refine PySem.codeAny_call_function room.rm.depth (inK _ _ at_) rfl S.co S.gen rfl (PySem.W.codeRec_of inK cd) (bnd _ _ _ _ ?_)
    refine wpAny_newFunctionEnv_cells S.kind kinds fun e he s1 x => ?_
    subst he
    refine ⟨nolim.keeps x.toInCall.keep, PySem.codeAny_func ?_⟩
    obtain ⟨t, run, q⟩ := hb A os s H vs Q E (room.deeper _) want
    have I := inv_start (CX := L2.CX P w) (E := E) S room.rm.hd env (len _ _ _ _ want) rel x
    refine wpAny_mono (run.run [] s1 _ H _ I q) (fun fl s' hs => ?_) fun _ _ hs => hs
    match fl, hs with
    | .ret u, ⟨v, σ', H', J, rv, q⟩ => exact ⟨v, H', J.os, J.bare, J.base, J.hok, rv, q⟩
    | .next, ⟨σ', H', J, q⟩ => exact ⟨.non, H', J.os, J.bare, J.base, J.hok, rfl, q⟩
    | .brk, ⟨_, _, _, q⟩ => exact q.elim
    | .cont, ⟨_, _, _, q⟩ => exact q.elim
section
variable {X : Cx} {k : Nat} {f : Addr} {fd : FuncData} {ps : List Str} {sp : Sp} {dvs : List V} {ds : List Value} {E : St → XK} {x : Str} {p pos : Pos} {e : Expr} {es : List Expr} {t : TA}
theorem runG {pins : List (Addr × Obj)} {σ : St} {H : Hp} {s : Shared} {Q : VK} {us : List Value} {vs : List V} (F : FnG X.prog X.w X.K X.mg X.base k f fd ps sp) (hr : RoomG k X.A) (hb : Binds X.K fd ps ds) (hd : Vals dvs ds)
    (hx : PassesAt (L2.CX X.prog X.w) X σ (E σ)) (I : Inv X pins σ H s) (r : Vals vs us) (h : sp (vs ++ dvs) H Q (E σ)) : wpAny (model X.prog X.w) X.A (call (.ref f) us) (EP X pins σ Q) X.xe s := by
  have rr := r.append hd
  have len : (us ++ ds).length = ps.length := rr.length.symm.trans (F.len _ _ _ _ h)
  have go := F.run X.A X.stack s H ⟨us, []⟩ _ _ Q (E σ) hr I.env0 (hb s us I.kIn len) rr h
  refine wpAny_call (codeAny_mono go fun r s' q => ?_)
  match r, q with
  | .error e, q => exact hx pins H s e s' I q
  | .ok (.ret u), q => exact I.after q
  | .ok .next, q => exact q.elim
  | .ok .brk, q => exact q.elim
  | .ok .cont, q => exact q.elim
theorem pe_callG (F : FnG X.prog X.w X.K X.mg X.base k f fd ps sp) (hr : RoomG k X.A) (hg : Gl X x) (hm : X.mg x = some (.ref f)) (hk : PySem.W.keepIn X.K (.ref f) = true) (hb : Binds X.K fd ps ds) (hd : Vals dvs ds) (hx : ∀ σ, PassesAt (L2.CX X.prog X.w) X σ (E σ))
    (ha : PA X (e :: es) t) (hdb : (x == ("__debug__" : Str)) = false) (he : starEach (e :: es) X.env = (false, eval e X.env) :: starEach es X.env) (hpl : (backTo pos (starEach es X.env)).any (·.1) = false) :
    PE X (.Call (.Name x p) (e :: es) [] pos) (tCallSD sp dvs E t) := by
  constructor
  intro pins s σ H Q I h
  refine wpAny_Call_Name_kw (ld_glob I hg hm ?_ hdb)
  have args := ha.run pos pins s σ H _ I h
  refine PySem.W.callWith_K (h₀ := X.base) I.ok.mod.kin hk (thn args fun us s1 hh => ?_) he hpl
  obtain ⟨vs, H1, J, r, q⟩ := hh
  exact ⟨J.kIn, runG F hr hb hd (hx σ) J r q⟩
end
/-- the head: the law's own call -/
theorem headG {mb : Str → Option Value} {k : Nat} {fa a : Addr} {fd : FuncData} {x : Str} {sp : Sp} {s : Shared} {us : List Value} {ns : List Int} (inK : K.In s.heap) (gl : s.heap.Ns mainGlobals mg) (bl : s.heap.Ns builtinsNs mb) (bb : ∀ x : Str, x ≠ "__name__" → mb x = bootBuiltins x)
    (lim : s.heap.NoLimit) (gens : s.gens = #[]) (ob : s.heap.get? a = some { cls := .type "list", data := .seq us.toArray }) (is : IntsAre us ns) (le : ns.length ≤ sizeLine) (room : RoomG k callerA)
    (F : ∀ base : Heap, K.In base → base.Ns mainGlobals mg → FnG P w K mg base k fa fd [x] sp) (bind : ∀ (s : Shared) (u : Value), BindsTo s fd ⟨[u], []⟩ [(x, u)])
    (want : ∀ H : Hp, Only H → SqL K H a (ns.map V.int) → sp [.ref a] H (fun v _ => v = .bl true) fun _ _ _ => False) (noX : ∀ H e s', L2.CX P w [] H s (fun _ _ _ => False) e s' → False) :
    codeAny (model P w) callerA (.call (.ref fa) ⟨[.ref a], []⟩) (fun r s' => r = .ok (.ret (.bool true)) ∧ OldK s.heap s'.heap ∧ s'.os = s.os ∧ AllBare s'.gens) s := by
  have vals := vals_ints is
  have size := is.length
  have main : ∀ H : Hp, Only H → SqL K H a (ns.map V.int) → HOk P w H s.heap → (∀ b, H b ≠ none → b = a) → (H a ≠ none → K.lookup a = none) → codeAny (model P w) callerA (.call (.ref fa) ⟨[.ref a], []⟩) (fun r s' => r = .ok (.ret (.bool true)) ∧ OldK s.heap s'.heap ∧ s'.os = s.os ∧ AllBare s'.gens) s := by
    intro H only sq hok one notK
    have seen : ∀ {b : Addr} {o : Obj}, s.heap.get? b = some o → H b = none → (hidT s.heap H).get? b = some o := fun e n => hidT_get e n
    have dictFree : ∀ {b : Addr} {o : Obj} {es : Array DictEntry} {n : Nat}, s.heap.get? b = some o → o.data = .dict es n → H b = none := by
      intro b o es n e d
      by_cases z : H b = none
      · exact z
      · rw [one b z, ob] at e
        cases e
        cases d
    have names : ∀ {b : Addr} {m : Str → Option Value}, s.heap.Ns b m → (hidT s.heap H).Ns b m := fun ⟨o, es, n, e, d, r⟩ => ⟨o, es, n, seen e (dictFree e d), d, r⟩
    have kb : K.In (hidT s.heap H) := by
      intro b o e
      refine seen (inK b o e) ?_
      by_cases z : H b = none
      · exact z
      · have eb := one b z
        subst eb
        rw [notK z] at e
        cases e
    have env : Env0 P w K mg (hidT s.heap H) callerA [] s H :=
      ⟨rfl, ⟨kb, names gl, ⟨mb, names bl, bb⟩, lim.elim fun mc h => ⟨mc, names h.1, h.2⟩⟩, fun b o e => of_hidT e, Nat.le_of_eq (hidT_size _ _), trivial, fun b hb => absurd (show b ∈ ([] : List Addr) from hb) (by simp), hok, .of_eq gens⟩
    have go := (F _ kb (names gl)).run callerA [] s H ⟨[.ref a], []⟩ [.ref a] [.ref a] _ _ room env (bind s (.ref a)) (.cons rfl .nil) (want H only sq)
    refine codeAny_mono go fun r s' h => ?_
    match r, h with
    | .error e, h => exact (noX H e s' h).elim
    | .ok .next, h => exact h.elim
    | .ok .brk, h => exact h.elim
    | .ok .cont, h => exact h.elim
    | .ok (.ret u), ⟨v, H', os, bare, un, hok', rel, q⟩ =>
      cases (show v = .bl true from q)
      cases (show u = Value.bool true from rel)
      refine ⟨rfl, OldK.of_keep fun b o e => ?_, os, bare⟩
      by_cases z : H b = none
      · exact un.keep b o e z (fun z => absurd (show b ∈ ([] : List Addr) from z) (by simp)) (by simp)
      · rcases only b with z2 | ⟨o2, xs, z2⟩
        · exact absurd z2 z
        · have e1 := (hok b _ z2).1
          rw [e] at e1
          cases e1
          exact (hok' b _ (un.frzs b _ _ z2)).1
  by_cases hk : K.lookup a = none
  · let H : Hp := fun b => if b = a then some (.frz { cls := .type "list", data := .seq us.toArray } (.lst (ns.map V.int))) else none
    have at_ : H a = some (.frz { cls := .type "list", data := .seq us.toArray } (.lst (ns.map V.int))) := if_pos rfl
    have off : ∀ b, b ≠ a → H b = none := fun b z => if_neg z
    refine main H (fun b => ?_) (.inl (.inr ⟨_, at_⟩)) (fun b u z => ?_) (fun b z => ?_) fun _ => hk
    · by_cases z : b = a
      · subst z; exact .inr ⟨_, _, at_⟩
      · exact .inl (off b z)
    · by_cases q : b = a
      · subst q
        rw [at_] at z
        cases z
        exact ⟨ob, by rw [List.length_map]; exact le, us, _, vals, ob⟩
      · rw [off b q] at z; cases z
    · by_cases q : b = a
      · exact q
      · exact absurd (off b q) z
  · obtain ⟨o, ek⟩ := Option.ne_none_iff_exists'.mp hk
    have e := inK a o ek
    rw [ob] at e
    cases e
    refine main (fun _ => none) (fun _ => .inl rfl) (.inr ⟨_, us.toArray, _, ek, rfl, rfl, rfl, by rw [List.size_toArray, size]; exact le, by simpa using vals⟩) (fun b u z => nomatch (show (none : Option HO) = some u from z)) (fun b z => absurd rfl z) fun z => absurd rfl z
theorem walkG {l : PySem.W.OpenLaw} {n k : Nat} {q : Program} {loose : List Str} {XP : (Str → Option Value) → Heap → Prop} {YP : World → Heap → Prop} {d : PySem.DefRec} {K : Params → PySem.W.Frag} {sp : World → Sp} {x : Str} (hn : l.most = some n) (hn2 : n ≤ sizeLine) (hdf : d.params.defaults = []) (room : RoomG k callerA)
    (hY : ∀ (w : World) (h : Heap), YP w h → (K w.params).In h)
    (F : ∀ (w : World) (mg : Str → Option Value) (fa : Addr) (h : Heap), (K w.params).In h → h.Ns mainGlobals mg → mg d.name = some (.ref fa) → ∃ fd : FuncData, (∀ (s : Shared) (u : Value), BindsTo s fd ⟨[u], []⟩ [(x, u)]) ∧
      ∀ base : Heap, (K w.params).In base → base.Ns mainGlobals mg → FnG l.prog w (K w.params) mg base k fa fd [x] (sp w))
    (want : ∀ (w : World) (H : Hp) (a : Addr) (ns : List Int), ns.length ≤ n → (∀ z ∈ ns, Builtin.Int.intBits z ≤ 1048576) → Only H → SqL (K w.params) H a (ns.map V.int) → sp w [.ref a] H (fun v _ => v = .bl true) fun _ _ _ => False)
    (noX : ∀ (w : World) (H : Hp) (s : Shared) (e : Value) (s' : Shared), L2.CX l.prog w [] H s (fun _ _ _ => False) e s' → False) : PySem.W.WalkO q loose XP YP l.row.toRowW d [] (fun f vs => PySem.call f vs) := by
  refine Att.attach_callB hn hdf fun w s₀ s₁ mg mb fa o pm cd doc a us ns G Y ho hd hcd hmg hobj hints hlen hbits hg => ?_
  have inK := hY w _ Y
  obtain ⟨fd, bind, go⟩ := F w mg fa _ inK G.T.g hmg
  exact headG inK G.T.g G.T.b G.T.builtins G.T.nolimit hg hobj hints (Nat.le_trans hlen hn2) room go bind (fun H hO hS => want w H a ns hlen hbits hO hS) fun H e s' => noX w H s₁ e s'
theorem FunG {x qual : Str} {st : Stmt} {f : Addr} {fd : FuncData} {N ps : List Str} {k : Nat} {sp : Sp} (F : L2.Fun K x qual st f fd) (S : FnScope N ps (defScope st)) (len : ∀ vs H Q E, sp vs H Q E → vs.length = ps.length)
    (hb : ∀ (cdv : Value) (A : Around) (os : List Env) (s : Shared) (H : Hp) (vs : List V) (Q : VK) (E : XK), RoomG k (A.deeper (envOfC qual (defScope st) s.heap.objs.size f cdv)) → sp vs H Q E →
      ∃ t, PSs (cxOf (L2.CX P w) P w K mg base N qual (defScope st) f cdv A os s H E) (defBody st) t ∧ t { nx := fun _ H' => Q .non H', rt := Q } (L2.start N vs) H) : FnG P w K mg base (k + 1) f fd ps sp := by
  obtain ⟨oc, od, kV, doc, pm, an, cdv, ct, osl, rfl, at_, cd⟩ := F.ex
  exact fnG_of at_ cd S len fun A os s H vs Q E r => hb cdv A os s H vs Q E r
theorem FunDG {x qual : Str} {st : Stmt} {f : Addr} {fd : FuncData} {N ps : List Str} {k : Nat} {sp : Sp} {dvs : List V} {kws : List (Str × V)} (F : FunD K x qual (defArgs st) (defBody st) (defScope st) dvs kws f fd) (S : FnScope N ps (defScope st)) (len : ∀ vs H Q E, sp vs H Q E → vs.length = ps.length)
    (hb : ∀ (cdv : Value) (A : Around) (os : List Env) (s : Shared) (H : Hp) (vs : List V) (Q : VK) (E : XK), RoomG k (A.deeper (envOfC qual (defScope st) s.heap.objs.size f cdv)) → sp vs H Q E →
      ∃ t, PSs (cxOf (L2.CX P w) P w K mg base N qual (defScope st) f cdv A os s H E) (defBody st) t ∧ t { nx := fun _ H' => Q .non H', rt := Q } (L2.start N vs) H) : FnG P w K mg base (k + 1) f fd ps sp := by
  obtain ⟨oc, od, dV, kV, doc, pm, an, cdv, ct, osl, rfl, at_, cd, _, _⟩ := F.ex
  exact fnG_of at_ cd S len fun A os s H vs Q E r => hb cdv A os s H vs Q E r
end Ds
namespace Ds
open PySem L2

abbrev D := PyData
def kD : Key → D
  | .inl i => .int i
  | .inr x => .str x

/-- a list of the written part -/
def KL (K : PySem.W.Frag) (a : Addr) (xs : List V) : Prop :=
  ∃ (o : Obj) (its : Array Value) (n : Nat), K.lookup a = some o ∧ o.cls = .type "list" ∧ o.dict = none ∧ o.data = .seq its n ∧ its.size ≤ sizeLine ∧ Vals xs its.toList
def KT (K : PySem.W.Frag) (a : Addr) (xs : List V) : Prop :=
  ∃ (o : Obj) (its : Array Value) (n : Nat), K.lookup a = some o ∧ o.cls = .type "tuple" ∧ o.data = .seq its n ∧ its.size ≤ sizeLine ∧ Vals xs its.toList
/-- the script: locked, or of the written part -/
def SB (K : PySem.W.Frag) (B : Addr → Prop) (H : Hp) (a : Addr) (xs : List V) : Prop := ((∃ o, H a = some (.frz o (.lst xs))) ∧ ¬ B a) ∨ KL K a xs
def TB (K : PySem.W.Frag) (B : Addr → Prop) (H : Hp) (a : Addr) (xs : List V) : Prop := (Rd H a (.tup xs) ∧ ¬ B a) ∨ KT K a xs
theorem SB.sq {K B H a xs} (h : SB K B H a xs) : SqL K H a xs := h.elim (fun x => .inl (.inr x.1)) .inr
theorem TB.sq {K B H a xs} (h : TB K B H a xs) : SqT K H a xs := h.elim (fun x => .inl x.1) .inr

mutual
/-- v reads as d, through nothing that is barred -/
inductive DIs (K : PySem.W.Frag) (B : Addr → Prop) (H : Hp) : D → V → Prop
  | none : DIs K B H .none .non
  | bool (b : Bool) : DIs K B H (.bool b) (.bl b)
  | int (i : Int) : DIs K B H (.int i) (.int i)
  | str (x : Str) : DIs K B H (.str x) (.str x)
  | list {a : Addr} {vs : List V} {ds : List D} : H a = some (.lst vs) → ¬ B a → DIsL K B H ds vs → DIs K B H (.list ds) (.ref a)
  | tuple {a : Addr} {vs : List V} {ds : List D} : TB K B H a vs → DIsL K B H ds vs → DIs K B H (.tuple ds) (.ref a)
  | dict {a : Addr} {kvs : List (Key × V)} {ds : List D} {ps : List (D × D)} : H a = some (.dK kvs) → ¬ B a → DIsL K B H ds (kvs.map (·.2)) → ps = (kvs.map fun p => kD p.1).zip ds → DIs K B H (.dict ps) (.ref a)
inductive DIsL (K : PySem.W.Frag) (B : Addr → Prop) (H : Hp) : List D → List V → Prop
  | nil : DIsL K B H [] []
  | cons {d : D} {v : V} {ds : List D} {vs : List V} : DIs K B H d v → DIsL K B H ds vs → DIsL K B H (d :: ds) (v :: vs)
end

/-- an error: its class by name, its fields (none: it has no dict of its own) -/
structure Exn where
  cls : Str
  fs : Option (List (Str × D))
/-- an error that was caught -/
def ExcO (cls : Value) (d : Option Addr) (a : Addr) : HO := .ext fun h => ∃ (oe : Obj) (vs : Array Value), h.get? a = some oe ∧ Zc cls d oe ∧ oe.data = .fields vs
def XF (K : PySem.W.Frag) (B : Addr → Prop) (H : Hp) (d : Option Addr) : Option (List (Str × D)) → Prop
  | none => d = none
  | some fs => ∃ dx fv, d = some dx ∧ H dx = some (.xd fv) ∧ ¬ B dx ∧ fv.map (·.1) = fs.map (·.1) ∧ DIsL K B H (fs.map (·.2)) (fv.map (·.2))
def XB (K : PySem.W.Frag) (B : Addr → Prop) (H : Hp) (a : Addr) (ex : Exn) : Prop := ∃ cls d, PySem.W.nsIn K mainGlobals ex.cls = some (some cls) ∧ H a = some (ExcO cls d a) ∧ ¬ B a ∧ XF K B H d ex.fs
/-- what a slot or a temporary holds -/
inductive T where
  | dat (d : D)
  | bor (d : D)
  | own (ds : List D)
  | lbo (ds : List D)
  | lst (ts : List T)
  | tup (ts : List T)
  | dct (kvs : List (Key × D))
  | scr (ns : List Int)
  | exc (ex : Exn)
  | ins (c : Str) (ks : List Str) (ts : List T)
  | ali (i : Nat)
  | emp

mutual
inductive TIs (K : PySem.W.Frag) (B Bb : Addr → Prop) (σ : St) (H : Hp) : T → V → List Addr → Prop
  | dat {d : D} {v : V} : DIs K B H d v → TIs K B Bb σ H (.dat d) v []
  | bor {d : D} {v : V} : DIs K Bb H d v → TIs K B Bb σ H (.bor d) v []
  | own {a : Addr} {vs : List V} {ds : List D} : H a = some (.lst vs) → DIsL K B H ds vs → TIs K B Bb σ H (.own ds) (.ref a) [a]
  | lbo {a : Addr} {vs : List V} {ds : List D} : H a = some (.lst vs) → DIsL K Bb H ds vs → TIs K B Bb σ H (.lbo ds) (.ref a) [a]
  | lst {a : Addr} {vs : List V} {ts : List T} {os : List Addr} : H a = some (.lst vs) → TIsL K B Bb σ H ts vs os → TIs K B Bb σ H (.lst ts) (.ref a) (a :: os)
  | tup {a : Addr} {vs : List V} {ts : List T} {os : List Addr} : H a = some (.tup vs) → ¬ B a → TIsL K B Bb σ H ts vs os → TIs K B Bb σ H (.tup ts) (.ref a) os
  | dct {a : Addr} {kvs : List (Key × V)} {ds : List D} {ps : List (Key × D)} : H a = some (.dK kvs) → DIsL K B H ds (kvs.map (·.2)) → ps = (kvs.map (·.1)).zip ds → TIs K B Bb σ H (.dct ps) (.ref a) [a]
  | scr {a : Addr} {ns : List Int} : SB K B H a (ns.map V.int) → TIs K B Bb σ H (.scr ns) (.ref a) []
  | exc {a : Addr} {ex : Exn} : XB K B H a ex → TIs K B Bb σ H (.exc ex) (.ref a) []
  | ins {a C dx : Addr} {c : Str} {ks : List Str} {ts : List T} {fvs : List (Str × V)} {os : List Addr} : PySem.W.nsIn K mainGlobals c = some (some (.ref C)) → H a = some (.ins C dx fvs) → fvs.map (·.1) = ks → TIsL K B Bb σ H ts (fvs.map (·.2)) os → TIs K B Bb σ H (.ins c ks ts) (.ref a) (a :: os)
  | ali {i : Nat} {v : V} : σ[i]? = some (some v) → TIs K B Bb σ H (.ali i) v []
inductive TIsL (K : PySem.W.Frag) (B Bb : Addr → Prop) (σ : St) (H : Hp) : List T → List V → List Addr → Prop
  | nil : TIsL K B Bb σ H [] [] []
  | cons {t : T} {v : V} {ts : List T} {vs : List V} {o1 o2 : List Addr} : TIs K B Bb σ H t v o1 → TIsL K B Bb σ H ts vs o2 → TIsL K B Bb σ H (t :: ts) (v :: vs) (o1 ++ o2)
end

mutual
def noAli : T → Bool
  | .lst ts => noAliL ts
  | .tup ts => noAliL ts
  | .ins _ _ ts => noAliL ts
  | .ali _ => false
  | _ => true
def noAliL : List T → Bool
  | [] => true
  | t :: ts => noAli t && noAliL ts
end

section
variable {K : PySem.W.Frag} {B B' Bb Bb' : Addr → Prop} {H H' : Hp} {σ σ' : St}

theorem DIsL.length : ∀ {ds : List D} {vs : List V}, DIsL K B H ds vs → ds.length = vs.length
  | _, _, .nil => rfl
  | _, _, .cons _ t => congrArg (· + 1) (DIsL.length t)
theorem DIsL.get : ∀ {ds : List D} {vs : List V} {i : Nat} {d : D}, DIsL K B H ds vs → ds[i]? = some d → ∃ v, vs[i]? = some v ∧ DIs K B H d v
  | _, _, _, _, .nil, e => by simp at e
  | _, _, 0, _, .cons r _, e => by simp at e; subst e; exact ⟨_, rfl, r⟩
  | _, _, i + 1, _, .cons _ t, e => by
    obtain ⟨v, h1, h2⟩ := DIsL.get (i := i) t (by simpa using e)
    exact ⟨v, by simpa using h1, h2⟩
theorem DIsL.getV {ds : List D} {vs : List V} {i : Nat} {v : V} (h : DIsL K B H ds vs) (e : vs[i]? = some v) : ∃ d, ds[i]? = some d ∧ DIs K B H d v := by
  have hl := h.length
  obtain ⟨hi, ei⟩ := List.getElem?_eq_some_iff.mp e
  have e2 : ds[i]? = some ds[i] := List.getElem?_eq_getElem (by omega)
  obtain ⟨w, h1, h2⟩ := h.get e2
  rw [e] at h1; cases h1
  exact ⟨_, e2, h2⟩
theorem DIsL.append : ∀ {ds es : List D} {vs us : List V}, DIsL K B H ds vs → DIsL K B H es us → DIsL K B H (ds ++ es) (vs ++ us)
  | _, _, _, _, .nil, s => s
  | _, _, _, _, .cons r t, s => .cons r (DIsL.append t s)
theorem DIsL.take : ∀ {ds : List D} {vs : List V} (n : Nat), DIsL K B H ds vs → DIsL K B H (ds.take n) (vs.take n)
  | _, _, 0, _ => .nil
  | _, _, _ + 1, .nil => .nil
  | _, _, n + 1, .cons r t => .cons r (DIsL.take n t)
theorem DIsL.drop : ∀ {ds : List D} {vs : List V} (n : Nat), DIsL K B H ds vs → DIsL K B H (ds.drop n) (vs.drop n)
  | _, _, 0, r => r
  | _, _, _ + 1, .nil => .nil
  | _, _, n + 1, .cons _ t => DIsL.drop n t
theorem DIsL.set : ∀ {ds : List D} {vs : List V} {d : D} {v : V} (i : Nat), DIsL K B H ds vs → DIs K B H d v → DIsL K B H (ds.set i d) (vs.set i v)
  | _, _, _, _, _, .nil, _ => .nil
  | _, _, _, _, 0, .cons _ t, q => .cons q t
  | _, _, _, _, i + 1, .cons r t, q => .cons r (DIsL.set i t q)
theorem DIsL.eraseIdx : ∀ {ds : List D} {vs : List V} (i : Nat), DIsL K B H ds vs → DIsL K B H (ds.eraseIdx i) (vs.eraseIdx i)
  | _, _, _, .nil => .nil
  | _, _, 0, .cons _ t => t
  | _, _, i + 1, .cons r t => .cons r (DIsL.eraseIdx i t)
theorem DIsL.dropLast : ∀ {ds : List D} {vs : List V}, DIsL K B H ds vs → DIsL K B H ds.dropLast vs.dropLast
  | _, _, .nil => .nil
  | _, _, .cons _ .nil => .nil
  | _, _, .cons r (.cons r2 t) => .cons r (DIsL.dropLast (.cons r2 t))
theorem DIsL.snoc {ds : List D} {vs : List V} {d : D} {v : V} (h : DIsL K B H ds vs) (q : DIs K B H d v) : DIsL K B H (ds ++ [d]) (vs ++ [v]) := h.append (.cons q .nil)
theorem DIsL.reverse : ∀ {ds : List D} {vs : List V}, DIsL K B H ds vs → DIsL K B H ds.reverse vs.reverse
  | _, _, .nil => .nil
  | _, _, .cons r t => by rw [List.reverse_cons, List.reverse_cons]; exact (DIsL.reverse t).snoc r
theorem DIsL.replicate {d : D} {v : V} (q : DIs K B H d v) : ∀ n, DIsL K B H (List.replicate n d) (List.replicate n v)
  | 0 => .nil
  | n + 1 => .cons q (DIsL.replicate q n)

theorem SB.move (h1 : ∀ b o, H b = some o → ¬ B b → H' b = some o ∧ ¬ B' b) {a : Addr} {xs : List V} : SB K B H a xs → SB K B' H' a xs
  | .inl ⟨⟨o, e⟩, n⟩ => .inl ⟨⟨o, (h1 _ _ e n).1⟩, (h1 _ _ e n).2⟩
  | .inr h => .inr h
theorem TB.move (h1 : ∀ b o, H b = some o → ¬ B b → H' b = some o ∧ ¬ B' b) {a : Addr} {xs : List V} : TB K B H a xs → TB K B' H' a xs
  | .inl ⟨.inl e, n⟩ => .inl ⟨.inl (h1 _ _ e n).1, (h1 _ _ e n).2⟩
  | .inl ⟨.inr ⟨o, e⟩, n⟩ => .inl ⟨.inr ⟨o, (h1 _ _ e n).1⟩, (h1 _ _ e n).2⟩
  | .inr h => .inr h
mutual
theorem DIs.move (h1 : ∀ b o, H b = some o → ¬ B b → H' b = some o ∧ ¬ B' b) : ∀ {d : D} {v : V}, DIs K B H d v → DIs K B' H' d v
  | _, _, .none => .none
  | _, _, .bool b => .bool b
  | _, _, .int i => .int i
  | _, _, .str x => .str x
  | _, _, .list h n t => .list (h1 _ _ h n).1 (h1 _ _ h n).2 (DIsL.move h1 t)
  | _, _, .tuple h t => .tuple (h.move h1) (DIsL.move h1 t)
  | _, _, .dict h n t e => .dict (h1 _ _ h n).1 (h1 _ _ h n).2 (DIsL.move h1 t) e
theorem DIsL.move (h1 : ∀ b o, H b = some o → ¬ B b → H' b = some o ∧ ¬ B' b) : ∀ {ds : List D} {vs : List V}, DIsL K B H ds vs → DIsL K B' H' ds vs
  | _, _, .nil => .nil
  | _, _, .cons r t => .cons (DIs.move h1 r) (DIsL.move h1 t)
end
/-- nothing barred -/
abbrev N0 : Addr → Prop := fun _ => False
theorem DIs.free {d : D} {v : V} (h : DIs K B H d v) : DIs K N0 H d v := h.move fun _ _ e _ => ⟨e, id⟩
theorem DIsL.free {ds : List D} {vs : List V} (h : DIsL K B H ds vs) : DIsL K N0 H ds vs := h.move fun _ _ e _ => ⟨e, id⟩

theorem TIsL.length : ∀ {ts : List T} {vs : List V} {os : List Addr}, TIsL K B Bb σ H ts vs os → ts.length = vs.length
  | _, _, _, .nil => rfl
  | _, _, _, .cons _ t => congrArg (· + 1) (TIsL.length t)
theorem XF.move (h1 : ∀ b o, H b = some o → ¬ B b → H' b = some o ∧ ¬ B' b) {d : Option Addr} : ∀ {fs : Option (List (Str × D))}, XF K B H d fs → XF K B' H' d fs
  | none, h => h
  | some _, ⟨dx, fv, e, h, n, m, l⟩ => ⟨dx, fv, e, (h1 _ _ h n).1, (h1 _ _ h n).2, m, l.move h1⟩
theorem XB.move (h1 : ∀ b o, H b = some o → ¬ B b → H' b = some o ∧ ¬ B' b) {a : Addr} {ex : Exn} : XB K B H a ex → XB K B' H' a ex
  | ⟨cls, d, e, h, n, f⟩ => ⟨cls, d, e, (h1 _ _ h n).1, (h1 _ _ h n).2, f.move h1⟩
mutual
/-- into another heap, other bars, other slots -/
theorem TIs.move (h1 : ∀ b o, H b = some o → ¬ B b → H' b = some o ∧ ¬ B' b) (h2 : ∀ b o, H b = some o → ¬ Bb b → H' b = some o ∧ ¬ Bb' b) : ∀ {t : T} {v : V} {os : List Addr}, (∀ b o, b ∈ os → H b = some o → H' b = some o) →
    (σ' = σ ∨ noAli t = true) → TIs K B Bb σ H t v os → TIs K B' Bb' σ' H' t v os
  | _, _, _, _, _, .dat h => .dat (h.move h1)
  | _, _, _, _, _, .bor h => .bor (h.move h2)
  | _, _, _, h3, _, .own e t => .own (h3 _ _ (by simp) e) (t.move h1)
  | _, _, _, h3, _, .lbo e t => .lbo (h3 _ _ (by simp) e) (t.move h2)
  | _, _, _, h3, na, .lst e t => .lst (h3 _ _ (by simp) e) (TIsL.move h1 h2 (fun b o hb => h3 b o (List.mem_cons_of_mem _ hb)) (na.imp id (fun z => by simpa [noAli] using z)) t)
  | _, _, _, h3, na, .tup e n t => .tup (h1 _ _ e n).1 (h1 _ _ e n).2 (TIsL.move h1 h2 h3 (na.imp id (fun z => by simpa [noAli] using z)) t)
  | _, _, _, h3, _, .dct e t q => .dct (h3 _ _ (by simp) e) (t.move h1) q
  | _, _, _, _, _, .scr h => .scr (h.move h1)
  | _, _, _, _, _, .exc h => .exc (h.move h1)
  | _, _, _, h3, na, .ins n e k t => .ins n (h3 _ _ (by simp) e) k (TIsL.move h1 h2 (fun b o hb => h3 b o (List.mem_cons_of_mem _ hb)) (na.imp id (fun z => by simpa [noAli] using z)) t)
  | _, _, _, _, na, .ali e => by
    rcases na with rfl | na
    · exact .ali e
    · simp [noAli] at na
theorem TIsL.move (h1 : ∀ b o, H b = some o → ¬ B b → H' b = some o ∧ ¬ B' b) (h2 : ∀ b o, H b = some o → ¬ Bb b → H' b = some o ∧ ¬ Bb' b) : ∀ {ts : List T} {vs : List V} {os : List Addr}, (∀ b o, b ∈ os → H b = some o → H' b = some o) →
    (σ' = σ ∨ noAliL ts = true) → TIsL K B Bb σ H ts vs os → TIsL K B' Bb' σ' H' ts vs os
  | _, _, _, _, _, .nil => .nil
  | _, _, _, h3, na, .cons r t =>
    .cons (TIs.move h1 h2 (fun b o hb => h3 b o (List.mem_append_left _ hb)) (na.imp id (fun z => by simp [noAliL] at z; exact z.1)) r)
      (TIsL.move h1 h2 (fun b o hb => h3 b o (List.mem_append_right _ hb)) (na.imp id (fun z => by simp [noAliL] at z; exact z.2)) t)
end
end

/-! ### the state of a body -/
structure Ctx where
  X : Cx
  Wd : Exn → List T → Prop
  B0 : Addr → Prop
  H0 : Hp
  os0 : List Addr
  lent : List Nat
  sg : St
  cv : List Nat
abbrev Ctx.K (C : Ctx) : PySem.W.Frag := C.X.K
def Bar (C : Ctx) (ow : Nat → List Addr) (a : Addr) : Prop := (∃ k, a ∈ ow k) ∨ C.B0 a
def BarB (C : Ctx) (ow : Nat → List Addr) (a : Addr) : Prop := ∃ k, a ∈ ow k
/-- what may be changed -/
def Chg : HO → Prop
  | .lst _ => True
  | .dK _ => True
  | .ins _ _ _ => True
  | _ => False
structure Ctx.Ok (C : Ctx) : Prop where
  b0 : ∀ a, C.B0 a → ∃ o, C.H0 a = some o ∧ Chg o
  ob : ∀ a ∈ C.os0, ¬ C.B0 a
structure SI (C : Ctx) (σ : St) (H : Hp) (ρ : List T) (vs : List V) (τ : List T) (ow : Nat → List Addr) : Prop where
  ok : C.Ok
  ln : ρ.length = σ.length
  lt : τ.length = vs.length
  na : noAliL ρ = true
  cl : ∀ k t, (ρ ++ τ)[k]? = some t → (t = .emp ∧ k < ρ.length) ∨ ∃ v, (σ ++ vs.map some)[k]? = some (some v) ∧ TIs C.K (Bar C ow) (BarB C ow) (wipe σ C.cv) H t v (ow k)
  nd : ∀ k, (ow k).Nodup
  dj : ∀ j k a, j ≠ k → a ∈ ow j → a ∉ ow k
  ot : ∀ k a, a ∈ ow k → ∃ o, H a = some o ∧ Chg o
  fr : ∀ k a, a ∈ ow k → a ∈ C.os0 ∨ C.H0 a = none
  kp : ∀ b o, C.H0 b = some o → b ∉ C.os0 → H b = some o
  tr : ∀ b, C.H0 b ≠ none → H b ≠ none
  le : ∀ i ∈ C.lent, σ[i]? = C.sg[i]?

theorem noAliL_iff : ∀ {ts : List T}, noAliL ts = true ↔ ∀ (i : Nat) (t : T), ts[i]? = some t → noAli t = true
  | [] => by simp [noAliL]
  | t :: ts => by
    simp only [noAliL, Bool.and_eq_true]
    constructor
    · rintro ⟨h1, h2⟩ i u e
      cases i with
      | zero => simp at e; subst e; exact h1
      | succ i => exact noAliL_iff.mp h2 i u (by simpa using e)
    · intro h
      exact ⟨h 0 t rfl, noAliL_iff.mpr fun i u e => h (i + 1) u (by simpa using e)⟩

section
variable {C : Ctx} {σ σ' : St} {H H' : Hp} {ρ ρ' : List T} {vs vs' : List V} {τ τ' : List T} {ow ow' : Nat → List Addr}

theorem SI.nb0 (I : SI C σ H ρ vs τ ow) {k : Nat} {a : Addr} (h : a ∈ ow k) : ¬ C.B0 a := fun z => by
  rcases I.fr k a h with q | q
  · exact I.ok.ob a q z
  · obtain ⟨o, e, _⟩ := I.ok.b0 a z
    rw [q] at e; cases e

/-- THE STEP: cells in S are new, the others stand -/
theorem SI.next (I : SI C σ H ρ vs τ ow) (S : Nat → Prop) (ln : ρ'.length = σ'.length) (lt : τ'.length = vs'.length) (na : noAliL ρ' = true)
    (un : ∀ k, ¬ S k → ow' k = ow k)
    (cu : ∀ k t, ¬ S k → (ρ' ++ τ')[k]? = some t → (ρ ++ τ)[k]? = some t ∧ (σ' ++ vs'.map some)[k]? = (σ ++ vs.map some)[k]? ∧ (wipe σ' C.cv = wipe σ C.cv ∨ noAli t = true))
    (rl : ρ'.length = ρ.length) (hw : ∀ b o, H b = some o → (∀ k, S k → b ∉ ow k) → H' b = some o) (ht : ∀ b, H b ≠ none → H' b ≠ none)
    (src : ∀ k a, S k → a ∈ ow' k → (∃ j, S j ∧ a ∈ ow j) ∨ H a = none)
    (cn : (∀ b o, H b = some o → ¬ Bar C ow b → H' b = some o ∧ ¬ Bar C ow' b) → (∀ b o, H b = some o → ¬ BarB C ow b → H' b = some o ∧ ¬ BarB C ow' b) →
      ∀ k t, S k → (ρ' ++ τ')[k]? = some t → (t = .emp ∧ k < ρ'.length) ∨ ∃ v, (σ' ++ vs'.map some)[k]? = some (some v) ∧ TIs C.K (Bar C ow') (BarB C ow') (wipe σ' C.cv) H' t v (ow' k))
    (nd : ∀ k, S k → (ow' k).Nodup) (dj : ∀ j k a, S j → S k → j ≠ k → a ∈ ow' j → a ∉ ow' k) (ot : ∀ k a, S k → a ∈ ow' k → ∃ o, H' a = some o ∧ Chg o)
    (le : ∀ i ∈ C.lent, σ'[i]? = σ[i]?) : SI C σ' H' ρ' vs' τ' ow' := by
  have fresh : ∀ k a, a ∈ ow' k → (∃ j, a ∈ ow j) ∨ H a = none := fun k a h => by
    by_cases hk : S k
    · rcases src k a hk h with ⟨j, _, q⟩ | q
      · exact .inl ⟨j, q⟩
      · exact .inr q
    · rw [un k hk] at h; exact .inl ⟨k, h⟩
  have m1 : ∀ b o, H b = some o → ¬ Bar C ow b → H' b = some o ∧ ¬ Bar C ow' b := fun b o e n => by
    refine ⟨hw b o e fun k _ q => n (.inl ⟨k, q⟩), fun z => ?_⟩
    rcases z with ⟨k, z⟩ | z
    · rcases fresh k b z with q | q
      · exact n (.inl q)
      · rw [e] at q; cases q
    · exact n (.inr z)
  have m2 : ∀ b o, H b = some o → ¬ BarB C ow b → H' b = some o ∧ ¬ BarB C ow' b := fun b o e n => by
    refine ⟨hw b o e fun k _ q => n ⟨k, q⟩, fun z => ?_⟩
    obtain ⟨k, z⟩ := z
    rcases fresh k b z with q | q
    · exact n q
    · rw [e] at q; cases q
  refine ⟨I.ok, ln, lt, na, fun k t e => ?_, fun k => ?_, fun j k a hjk hj hk => ?_, fun k a h => ?_, fun k a h => ?_, fun b o e n => ?_, fun b n => ht b (I.tr b n), fun i hi => (le i hi).trans (I.le i hi)⟩
  · by_cases hk : S k
    · exact cn m1 m2 k t hk e
    · obtain ⟨e1, e2, e3⟩ := cu k t hk e
      rcases I.cl k t e1 with z | ⟨v, hv, r⟩
      · exact .inl (by rw [rl]; exact z)
      · refine .inr ⟨v, e2.trans hv, ?_⟩
        rw [un k hk]
        exact r.move m1 m2 (fun b o hb eb => hw b o eb fun j hj q => I.dj k j b (fun z => hk (z ▸ hj)) hb q) e3
  · by_cases hk : S k
    · exact nd k hk
    · rw [un k hk]; exact I.nd k
  · by_cases h1 : S j
    · by_cases h2 : S k
      · exact dj j k a h1 h2 hjk hj hk
      · rw [un k h2] at hk
        rcases src j a h1 hj with ⟨i, hi, q⟩ | q
        · exact I.dj i k a (fun z => h2 (z ▸ hi)) q hk
        · obtain ⟨o, e, _⟩ := I.ot k a hk
          rw [q] at e; cases e
    · rw [un j h1] at hj
      by_cases h2 : S k
      · rcases src k a h2 hk with ⟨i, hi, q⟩ | q
        · exact I.dj i j a (fun z => h1 (z ▸ hi)) q hj
        · obtain ⟨o, e, _⟩ := I.ot j a hj
          rw [q] at e; cases e
      · rw [un k h2] at hk
        exact I.dj j k a hjk hj hk
  · by_cases hk : S k
    · exact ot k a hk h
    · rw [un k hk] at h
      obtain ⟨o, e, c⟩ := I.ot k a h
      exact ⟨o, hw a o e fun j hj q => I.dj j k a (fun z => hk (z ▸ hj)) q h, c⟩
  · by_cases hk : S k
    · rcases src k a hk h with ⟨j, _, q⟩ | q
      · exact I.fr j a q
      · by_cases z : C.H0 a = none
        · exact .inr z
        · exact absurd q (I.tr a z)
    · rw [un k hk] at h; exact I.fr k a h
  · refine hw b o (I.kp b o e n) fun k _ q => ?_
    rcases I.fr k b q with z | z
    · exact n z
    · rw [e] at z; cases z
end
end Ds
namespace Ds
open PySem L2

section
variable {C : Ctx} {σ σ' : St} {H H' : Hp} {ρ ρ' : List T} {vs vs' xs ys : List V} {τ τ' ts us : List T} {ow ow' : Nat → List Addr}

def SS (C : Ctx) (σ : St) (H : Hp) (ρ : List T) (vs : List V) (τ : List T) : Prop := ∃ ow, SI C σ H ρ vs τ ow

theorem SI.len (I : SI C σ H ρ vs τ ow) : (ρ ++ τ).length = (σ ++ vs.map some).length := by
  simp [I.ln, I.lt]

/-- the temporaries on top are exchanged for others; nothing that stood is written -/
theorem SI.temps (I : SI C σ H ρ (vs ++ xs) (τ ++ ts) ow) (hτ : τ.length = vs.length) (hs : Same H H') (hu : us.length = ys.length) (no : Nat → List Addr) {ow' : Nat → List Addr}
    (eo : ow' = fun k => if k < ρ.length + τ.length then ow k else no (k - (ρ.length + τ.length)))
    (rel : (∀ b o, H b = some o → ¬ Bar C ow b → H' b = some o ∧ ¬ Bar C ow' b) → (∀ b o, H b = some o → ¬ BarB C ow b → H' b = some o ∧ ¬ BarB C ow' b) →
      ∀ j u, us[j]? = some u → ∃ v, ys[j]? = some v ∧ TIs C.K (Bar C ow') (BarB C ow') (wipe σ C.cv) H' u v (no j))
    (nd : ∀ j, (no j).Nodup) (dj : ∀ i j a, i ≠ j → a ∈ no i → a ∉ no j)
    (src : ∀ j a, a ∈ no j → (∃ i, ρ.length + τ.length ≤ i ∧ a ∈ ow i) ∨ H a = none) (ot : ∀ j a, a ∈ no j → ∃ o, H' a = some o ∧ Chg o) : SI C σ H' ρ (vs ++ ys) (τ ++ us) ow' := by
  have hn : ∀ k, ¬ (ρ.length + τ.length ≤ k) → k < ρ.length + τ.length := fun k h => by omega
  refine I.next (S := fun k => ρ.length + τ.length ≤ k) I.ln (by simp [hτ, hu]) I.na (fun k hk => ?_) (fun k t hk e => ?_) rfl (fun b o e _ => hs b o e) (fun b n => ?_) (fun k a hk h => ?_) (fun m1 m2 k t hk e => ?_)
    (fun k hk => ?_) (fun j k a h1 h2 hjk hj => ?_) (fun k a hk h => ?_) fun _ _ => rfl
  · rw [eo]; exact if_pos (hn k hk)
  · have hk' := hn k hk
    refine ⟨?_, ?_, .inl rfl⟩
    · rw [← List.append_assoc] at e ⊢
      rw [List.getElem?_append_left (by simp; omega)] at e
      rw [List.getElem?_append_left (by simp; omega)]; exact e
    · simp only [List.map_append, ← List.append_assoc]
      have z : k < (σ ++ List.map some vs).length := by simp [← I.ln, ← hτ]; omega
      exact (List.getElem?_append_left z).trans (List.getElem?_append_left z).symm
  · cases e : H b with
    | none => exact absurd e n
    | some o => rw [hs b o e]; simp
  · rw [eo] at h
    have h' : a ∈ no (k - (ρ.length + τ.length)) := by simpa [if_neg (show ¬ k < ρ.length + τ.length by omega)] using h
    rcases src _ a h' with ⟨i, hi, q⟩ | q
    · exact .inl ⟨i, hi, q⟩
    · exact .inr q
  · refine .inr ?_
    have e2 : us[k - (ρ.length + τ.length)]? = some t := by
      rw [← List.append_assoc, List.getElem?_append_right (by simp; omega)] at e
      simpa using e
    obtain ⟨v, hv, r⟩ := rel m1 m2 _ t e2
    refine ⟨v, ?_, ?_⟩
    · rw [List.map_append, ← List.append_assoc, List.getElem?_append_right (by simp [← I.ln, ← hτ]; omega)]
      simp only [List.length_append, List.length_map, ← I.ln, ← hτ, List.getElem?_map, hv, Option.map_some]
    · have q : ow' k = no (k - (ρ.length + τ.length)) := by rw [eo]; exact if_neg (by omega)
      rw [q]; exact r
  · rw [eo]; simp only [if_neg (show ¬ k < ρ.length + τ.length by omega)]; exact nd _
  · rw [eo] at hj ⊢
    simp only [if_neg (show ¬ j < ρ.length + τ.length by omega)] at hj
    simp only [if_neg (show ¬ k < ρ.length + τ.length by omega)]
    exact dj _ _ a (by omega) hj
  · rw [eo] at h
    simp only [if_neg (show ¬ k < ρ.length + τ.length by omega)] at h
    exact ot _ a h

/-- the cell of a temporary -/
theorem SI.temp (I : SI C σ H ρ vs τ ow) {j : Nat} {t : T} (e : τ[j]? = some t) : ∃ v, vs[j]? = some v ∧ TIs C.K (Bar C ow) (BarB C ow) (wipe σ C.cv) H t v (ow (ρ.length + j)) := by
  rcases I.cl (ρ.length + j) t (by rw [List.getElem?_append_right (by omega)]; simpa using e) with ⟨_, z⟩ | ⟨v, hv, r⟩
  · omega
  · refine ⟨v, ?_, r⟩
    rw [List.getElem?_append_right (by rw [I.ln]; omega)] at hv
    rw [← I.ln] at hv
    simp at hv
    exact hv
theorem SI.slot (I : SI C σ H ρ vs τ ow) {i : Nat} {t : T} (e : ρ[i]? = some t) : t = .emp ∨ ∃ v, σ[i]? = some (some v) ∧ TIs C.K (Bar C ow) (BarB C ow) (wipe σ C.cv) H t v (ow i) := by
  have hi := (List.getElem?_eq_some_iff.mp e).1
  rcases I.cl i t (by rw [List.getElem?_append_left hi]; exact e) with ⟨z, _⟩ | ⟨v, hv, r⟩
  · exact .inl z
  · refine .inr ⟨v, ?_, r⟩
    rw [List.getElem?_append_left (by rw [← I.ln]; exact hi)] at hv
    exact hv
theorem SI.top (I : SI C σ H ρ (vs ++ [v]) (τ ++ [t]) ow) : TIs C.K (Bar C ow) (BarB C ow) (wipe σ C.cv) H t v (ow (ρ.length + τ.length)) := by
  obtain ⟨w, hw, r⟩ := I.temp (j := τ.length) (t := t) (by simp)
  have hl := I.lt
  simp at hl
  rw [hl] at hw
  simp at hw
  subst hw; exact r
theorem SI.lt1 (I : SI C σ H ρ (vs ++ [v]) (τ ++ [t]) ow) : τ.length = vs.length := by
  have := I.lt; simpa using this

def o1 (o : List Addr) : Nat → List Addr
  | 0 => o
  | _ => []
/-- a temporary more -/
theorem SS.push {v : V} {t : T} (o : List Addr) (h : SS C σ H ρ vs τ) (hs : Same H H')
    (rel : ∀ ow ow' : Nat → List Addr, SI C σ H ρ vs τ ow → (∀ b o, H b = some o → ¬ Bar C ow b → H' b = some o ∧ ¬ Bar C ow' b) → (∀ b o, H b = some o → ¬ BarB C ow b → H' b = some o ∧ ¬ BarB C ow' b) →
      (∀ b, H b = none → ¬ Bar C ow b) → (∀ b, Bar C ow' b → Bar C ow b ∨ b ∈ o) → TIs C.K (Bar C ow') (BarB C ow') (wipe σ C.cv) H' t v o)
    (nd : o.Nodup) (fr : ∀ a ∈ o, H a = none) (ot : ∀ a ∈ o, ∃ u, H' a = some u ∧ Chg u) : SS C σ H' ρ (vs ++ [v]) (τ ++ [t]) := by
  obtain ⟨ow, I⟩ := h
  have I' : SI C σ H ρ (vs ++ []) (τ ++ []) ow := by simpa using I
  have nb : ∀ b, H b = none → ¬ Bar C ow b := fun b e z => by
    rcases z with ⟨k, z⟩ | z
    · obtain ⟨u, e2, _⟩ := I.ot k b z
      rw [e] at e2; cases e2
    · obtain ⟨u, e2, _⟩ := I.ok.b0 b z
      exact I.tr b (by rw [e2]; simp) e
  refine ⟨_, SI.temps (ow' := fun k => if k < ρ.length + τ.length then ow k else o1 o (k - (ρ.length + τ.length))) I' I.lt hs (by simp) (o1 o) rfl (fun m1 m2 j u e => ?_) (fun j => ?_) (fun i j a hij hi => ?_) (fun j a h => ?_) (fun j a h => ?_)⟩
  · cases j with
    | zero =>
      simp at e; subst e
      refine ⟨v, rfl, rel ow _ I m1 m2 nb fun b z => ?_⟩
      rcases z with ⟨k, z⟩ | z
      · by_cases hk : k < ρ.length + τ.length
        · simp only [if_pos hk] at z; exact .inl (.inl ⟨k, z⟩)
        · simp only [if_neg hk] at z
          cases hq : k - (ρ.length + τ.length) with
          | zero => rw [hq] at z; exact .inr z
          | succ m => rw [hq] at z; simp [o1] at z
      · exact .inl (.inr z)
    | succ j => simp at e
  · cases j with
    | zero => exact nd
    | succ j => exact List.nodup_nil
  · cases i with
    | zero => cases j with
      | zero => exact absurd rfl hij
      | succ j => simp [o1]
    | succ i => simp [o1] at hi
  · cases j with
    | zero => exact .inr (fr a h)
    | succ j => simp [o1] at h
  · cases j with
    | zero => exact ot a h
    | succ j => simp [o1] at h
/-- a temporary that owns nothing, the heap as it is -/
theorem SS.push0 {v : V} {t : T} (h : SS C σ H ρ vs τ) (rel : ∀ ow, SI C σ H ρ vs τ ow → TIs C.K (Bar C ow) (BarB C ow) (wipe σ C.cv) H t v []) : SS C σ H ρ (vs ++ [v]) (τ ++ [t]) :=
  h.push [] (Same.refl H) (fun ow ow' I m1 m2 _ _ => (rel ow I).move m1 m2 (fun _ _ z => by simp at z) (.inl rfl)) List.nodup_nil (fun _ z => by simp at z) fun _ z => by simp at z
/-- temporaries dropped -/
theorem SS.drop (h : SS C σ H ρ (vs ++ xs) (τ ++ ts)) (hτ : τ.length = vs.length) : SS C σ H ρ vs τ := by
  obtain ⟨ow, I⟩ := h
  have J := SI.temps (ow' := fun k => if k < ρ.length + τ.length then ow k else []) (us := []) (ys := []) I hτ (Same.refl H) rfl (fun _ => []) rfl (fun _ _ j u e => by simp at e) (fun _ => List.nodup_nil) (fun _ _ _ _ z => by simp at z) (fun _ _ z => by simp at z) fun _ _ z => by simp at z
  exact ⟨_, by simpa using J⟩
theorem SS.pop {v : V} {t : T} (h : SS C σ H ρ (vs ++ [v]) (τ ++ [t])) : SS C σ H ρ vs τ := by
  obtain ⟨ow, I⟩ := h
  exact SS.drop ⟨ow, I⟩ I.lt1
theorem SS.pop2 {u v : V} {s t : T} (h : SS C σ H ρ (vs ++ [u] ++ [v]) (τ ++ [s] ++ [t])) : SS C σ H ρ vs τ := h.pop.pop

/-! ### reading -/
mutual
def toD : T → Option D
  | .dat d => some d
  | .bor d => some d
  | .own ds => some (.list ds)
  | .lbo ds => some (.list ds)
  | .lst ts => (toDL ts).map .list
  | .tup ts => (toDL ts).map .tuple
  | .dct kvs => some (.dict (kvs.map fun p => (kD p.1, p.2)))
  | .scr _ => none
  | .exc _ => none
  | .ins _ _ _ => none
  | .ali _ => none
  | .emp => none
def toDL : List T → Option (List D)
  | [] => some []
  | t :: ts => (toD t).bind fun d => (toDL ts).map fun ds => d :: ds
end
mutual
def lk (ρ : List T) : T → Option D
  | .dat d => some d
  | .bor d => some d
  | .own ds => some (.list ds)
  | .lbo ds => some (.list ds)
  | .lst ts => (lkL ρ ts).map .list
  | .tup ts => (lkL ρ ts).map .tuple
  | .dct kvs => some (.dict (kvs.map fun p => (kD p.1, p.2)))
  | .scr _ => none
  | .exc _ => none
  | .ins _ _ _ => none
  | .ali i => (ρ[i]?).bind toD
  | .emp => none
def lkL (ρ : List T) : List T → Option (List D)
  | [] => some []
  | t :: ts => (lk ρ t).bind fun d => (lkL ρ ts).map fun ds => d :: ds
end
theorem zip_kvs : ∀ {kvs : List (Key × V)} {ds : List D}, ds.length = kvs.length → ((kvs.map (·.1)).zip ds).map (fun p => (kD p.1, p.2)) = (kvs.map fun p => kD p.1).zip ds
  | [], [], _ => rfl
  | [], _ :: _, h => by simp at h
  | _ :: _, [], h => by simp at h
  | p :: kvs, d :: ds, h => by
    have := zip_kvs (kvs := kvs) (ds := ds) (by simpa using h)
    simp only [List.map_cons, List.zip_cons_cons]
    rw [this]
section
variable {K : PySem.W.Frag} {B Bb : Addr → Prop}
mutual
theorem TIs.toD : ∀ {t : T} {v : V} {os : List Addr} {d : D}, TIs K B Bb σ H t v os → Ds.toD t = some d → DIs K N0 H d v
  | _, _, _, _, .dat h, e => by simp only [Ds.toD, Option.some.injEq] at e; subst e; exact h.free
  | _, _, _, _, .bor h, e => by simp only [Ds.toD, Option.some.injEq] at e; subst e; exact h.free
  | _, _, _, _, .own h t, e => by simp only [Ds.toD, Option.some.injEq] at e; subst e; exact .list h id t.free
  | _, _, _, _, .lbo h t, e => by simp only [Ds.toD, Option.some.injEq] at e; subst e; exact .list h id t.free
  | _, _, _, _, .lst h t, e => by
    simp only [Ds.toD, Option.map_eq_some_iff] at e
    obtain ⟨ds, e1, rfl⟩ := e
    exact .list h id (TIsL.toD t e1)
  | _, _, _, _, .tup h _ t, e => by
    simp only [Ds.toD, Option.map_eq_some_iff] at e
    obtain ⟨ds, e1, rfl⟩ := e
    exact .tuple (.inl ⟨.inl h, id⟩) (TIsL.toD t e1)
  | _, _, _, _, .dct h t q, e => by
    simp only [Ds.toD, Option.some.injEq] at e
    subst e; subst q
    exact .dict h id t.free (zip_kvs (by have := t.length; simpa using this))
  | _, _, _, _, .scr h, e => by simp [Ds.toD] at e
  | _, _, _, _, .exc h, e => by simp [Ds.toD] at e
  | _, _, _, _, .ins _ _ _ _, e => by simp [Ds.toD] at e
  | _, _, _, _, .ali h, e => by simp [Ds.toD] at e
theorem TIsL.toD : ∀ {ts : List T} {vs : List V} {os : List Addr} {ds : List D}, TIsL K B Bb σ H ts vs os → Ds.toDL ts = some ds → DIsL K N0 H ds vs
  | _, _, _, _, .nil, e => by simp only [Ds.toDL, Option.some.injEq] at e; subst e; exact .nil
  | _, _, _, _, .cons r t, e => by
    simp only [Ds.toDL, Option.bind_eq_some_iff, Option.map_eq_some_iff] at e
    obtain ⟨d, e1, ds, e2, rfl⟩ := e
    exact .cons (TIs.toD r e1) (TIsL.toD t e2)
end
mutual
theorem TIs.lk (hs : ∀ (i : Nat) (t : T) (v : V) (d : D), ρ[i]? = some t → σ[i]? = some (some v) → Ds.toD t = some d → DIs K N0 H d v) : ∀ {t : T} {v : V} {os : List Addr} {d : D}, TIs K B Bb σ H t v os → Ds.lk ρ t = some d → DIs K N0 H d v
  | _, _, _, _, .dat h, e => by simp only [Ds.lk, Option.some.injEq] at e; subst e; exact h.free
  | _, _, _, _, .bor h, e => by simp only [Ds.lk, Option.some.injEq] at e; subst e; exact h.free
  | _, _, _, _, .own h t, e => by simp only [Ds.lk, Option.some.injEq] at e; subst e; exact .list h id t.free
  | _, _, _, _, .lbo h t, e => by simp only [Ds.lk, Option.some.injEq] at e; subst e; exact .list h id t.free
  | _, _, _, _, .lst h t, e => by
    simp only [Ds.lk, Option.map_eq_some_iff] at e
    obtain ⟨ds, e1, rfl⟩ := e
    exact .list h id (TIsL.lk hs t e1)
  | _, _, _, _, .tup h _ t, e => by
    simp only [Ds.lk, Option.map_eq_some_iff] at e
    obtain ⟨ds, e1, rfl⟩ := e
    exact .tuple (.inl ⟨.inl h, id⟩) (TIsL.lk hs t e1)
  | _, _, _, _, .dct h t q, e => by
    simp only [Ds.lk, Option.some.injEq] at e
    subst e; subst q
    exact .dict h id t.free (zip_kvs (by have := t.length; simpa using this))
  | _, _, _, _, .scr h, e => by simp [Ds.lk] at e
  | _, _, _, _, .exc h, e => by simp [Ds.lk] at e
  | _, _, _, _, .ins _ _ _ _, e => by simp [Ds.lk] at e
  | _, _, _, _, .ali h, e => by
    simp only [Ds.lk, Option.bind_eq_some_iff] at e
    obtain ⟨t, e1, e2⟩ := e
    exact hs _ _ _ _ e1 h e2
theorem TIsL.lk (hs : ∀ (i : Nat) (t : T) (v : V) (d : D), ρ[i]? = some t → σ[i]? = some (some v) → Ds.toD t = some d → DIs K N0 H d v) : ∀ {ts : List T} {vs : List V} {os : List Addr} {ds : List D}, TIsL K B Bb σ H ts vs os → Ds.lkL ρ ts = some ds → DIsL K N0 H ds vs
  | _, _, _, _, .nil, e => by simp only [Ds.lkL, Option.some.injEq] at e; subst e; exact .nil
  | _, _, _, _, .cons r t, e => by
    simp only [Ds.lkL, Option.bind_eq_some_iff, Option.map_eq_some_iff] at e
    obtain ⟨d, e1, ds, e2, rfl⟩ := e
    exact .cons (TIs.lk hs r e1) (TIsL.lk hs t e2)
end
end
theorem SI.look (I : SI C σ H ρ vs τ ow) : ∀ (i : Nat) (t : T) (v : V) (d : D), ρ[i]? = some t → (wipe σ C.cv)[i]? = some (some v) → toD t = some d → DIs C.K N0 H d v := fun i t v d e e2 e3 => by
  have e2 := (wipe_some e2).1
  rcases I.slot e with rfl | ⟨w, hw, r⟩
  · simp [toD] at e3
  · rw [e2] at hw; cases hw
    exact r.toD e3
theorem SI.lkT (I : SI C σ H ρ vs τ ow) {j : Nat} {t : T} {v : V} {d : D} (e : τ[j]? = some t) (ev : vs[j]? = some v) (h : lk ρ t = some d) : DIs C.K N0 H d v := by
  obtain ⟨w, hw, r⟩ := I.temp e
  rw [ev] at hw; cases hw
  exact r.lk I.look h
theorem SI.lkTop {v : V} {t : T} {d : D} (I : SI C σ H ρ (vs ++ [v]) (τ ++ [t]) ow) (h : lk ρ t = some d) : DIs C.K N0 H d v := I.top.lk I.look h
theorem SS.lk1 {v : V} {t : T} {d : D} (I : SS C σ H ρ (vs ++ [v]) (τ ++ [t])) (h : lk ρ t = some d) : DIs C.K N0 H d v := let ⟨_, J⟩ := I; J.lkTop h
theorem SS.lk2 {u v : V} {s t : T} {d : D} (I : SS C σ H ρ (vs ++ [u] ++ [v]) (τ ++ [s] ++ [t])) (h : lk ρ s = some d) : DIs C.K N0 H d u := SS.lk1 I.pop h
end
end Ds
namespace Ds
open PySem L2

abbrev DQ := T → List T → Prop
abbrev DE := List T → DQ → Prop
abbrev DTt := List T → (Bool → List T → Prop) → Prop
abbrev DA := List T → (List T → List T → Prop) → Prop
def Sim (C : Ctx) (t : TE) (f : DE) : Prop := ∀ (σ : St) (H : Hp) (ρ : List T) (vs : List V) (τ : List T) (Qd : DQ) (Q : VK), SS C σ H ρ vs τ → f ρ Qd →
  (∀ v H' x ρ', SS C σ H' ρ' (vs ++ [v]) (τ ++ [x]) → Qd x ρ' → Q v H') → t σ H Q
def SimT (C : Ctx) (t : TT) (f : DTt) : Prop := ∀ (σ : St) (H : Hp) (ρ : List T) (vs : List V) (τ : List T) (Qd : Bool → List T → Prop) (Q : Bool → Hp → Prop), SS C σ H ρ vs τ → f ρ Qd →
  (∀ b H' ρ', SS C σ H' ρ' vs τ → Qd b ρ' → Q b H') → t σ H Q
def SimA (C : Ctx) (t : TA) (f : DA) : Prop := ∀ (σ : St) (H : Hp) (ρ : List T) (vs : List V) (τ : List T) (Qd : List T → List T → Prop) (Q : List V → Hp → Prop), SS C σ H ρ vs τ → f ρ Qd →
  (∀ xs H' ts ρ', SS C σ H' ρ' (vs ++ xs) (τ ++ ts) → ts.length = xs.length → Qd ts ρ' → Q xs H') → t σ H Q
structure DPE (C : Ctx) (e : Expr) (f : DE) : Prop where
  ex : ∃ t, PE C.X e t ∧ Sim C t f
structure DPT (C : Ctx) (e : Expr) (f : DTt) : Prop where
  ex : ∃ t, PT C.X e t ∧ SimT C t f
structure DPW (C : Ctx) (e : Expr) (f : DTt) : Prop where
  ex : ∃ t, PW C.X e t ∧ SimT C t f
structure DPA (C : Ctx) (es : List Expr) (f : DA) : Prop where
  ex : ∃ t, PA C.X es t ∧ SimA C t f

/-! ### scalars -/
def sv : D → Option V
  | .none => some .non
  | .bool b => some (.bl b)
  | .int i => some (.int i)
  | .str x => some (.str x)
  | _ => none
theorem sv_is {K B H d v} (h : sv d = some v) : DIs K B H d v := by
  cases d <;> simp [sv] at h <;> subst h
  · exact .none
  · exact .bool _
  · exact .int _
  · exact .str _
theorem sv_eq {K B H d u v} (q : DIs K B H d u) (h : sv d = some v) : u = v := by
  cases q <;> simp [sv] at h <;> exact h
theorem DIs.int_eq {K B H i v} (q : DIs K B H (.int i) v) : v = .int i := sv_eq q rfl
theorem DIs.bool_eq {K B H i v} (q : DIs K B H (.bool i) v) : v = .bl i := sv_eq q rfl
theorem DIs.str_eq {K B H i v} (q : DIs K B H (.str i) v) : v = .str i := sv_eq q rfl
theorem DIs.none_eq {K B H v} (q : DIs K B H .none v) : v = .non := sv_eq q rfl

def wD : Option D → (D → Prop) → Prop
  | some d, k => k d
  | none, _ => False
theorem wD_some {o : Option D} {k : D → Prop} (h : wD o k) : ∃ d, o = some d ∧ k d := by
  cases o with
  | none => exact h.elim
  | some d => exact ⟨d, rfl, h⟩
def wO {α : Type} : Option α → (α → Prop) → Prop
  | some d, k => k d
  | none, _ => False
theorem wO_some {α : Type} {o : Option α} {k : α → Prop} (h : wO o k) : ∃ d, o = some d ∧ k d := by
  cases o with
  | none => exact h.elim
  | some d => exact ⟨d, rfl, h⟩

/-! ### what borrowed data may be kept: what holds no list -/
mutual
def safe : D → Bool
  | .tuple ds => safeL ds
  | .list _ => false
  | .dict _ => false
  | _ => true
def safeL : List D → Bool
  | [] => true
  | d :: ds => safe d && safeL ds
end
section
variable {K : PySem.W.Frag} {B Bb : Addr → Prop} {H : Hp}
mutual
theorem DIs.safe (h : ∀ a xs, (H a = some (.tup xs) ∨ ∃ o, H a = some (.frz o (.tup xs))) → ¬ Bb a → ¬ B a) : ∀ {d : D} {v : V}, DIs K Bb H d v → Ds.safe d = true → DIs K B H d v
  | _, _, .none, _ => .none
  | _, _, .bool b, _ => .bool b
  | _, _, .int i, _ => .int i
  | _, _, .str x, _ => .str x
  | _, _, .list _ _ _, e => by simp [Ds.safe] at e
  | _, _, .dict _ _ _ _, e => by simp [Ds.safe] at e
  | _, _, .tuple hh t, e => by
    refine .tuple ?_ (DIsL.safe h t (by simpa [Ds.safe] using e))
    rcases hh with ⟨r, n⟩ | k
    · exact .inl ⟨r, h _ _ r n⟩
    · exact .inr k
theorem DIsL.safe (h : ∀ a xs, (H a = some (.tup xs) ∨ ∃ o, H a = some (.frz o (.tup xs))) → ¬ Bb a → ¬ B a) : ∀ {ds : List D} {vs : List V}, DIsL K Bb H ds vs → Ds.safeL ds = true → DIsL K B H ds vs
  | _, _, .nil, _ => .nil
  | _, _, .cons r t, e => by
    simp only [Ds.safeL, Bool.and_eq_true] at e
    exact .cons (DIs.safe h r e.1) (DIsL.safe h t e.2)
end
end
section
variable {C : Ctx} {σ : St} {H H' : Hp} {ρ ρ' : List T} {vs xs : List V} {τ ts : List T} {ow : Nat → List Addr}
theorem SI.tupOk (I : SI C σ H ρ vs τ ow) : ∀ a xs, (H a = some (.tup xs) ∨ ∃ o, H a = some (.frz o (.tup xs))) → ¬ BarB C ow a → ¬ Bar C ow a := fun a xs e n z => by
  have chg : ∀ o, H a = some o → Chg o → False := fun o q c => by
    rcases e with e | ⟨u, e⟩ <;> rw [e] at q <;> cases q <;> exact c
  rcases z with ⟨k, z⟩ | z
  · exact n ⟨k, z⟩
  · obtain ⟨o, e0, c⟩ := I.ok.b0 a z
    exact chg o (I.kp a o e0 fun q => I.ok.ob a q z) c
theorem SI.safe (I : SI C σ H ρ vs τ ow) {d : D} {v : V} (h : DIs C.K (BarB C ow) H d v) (e : Ds.safe d = true) : DIs C.K (Bar C ow) H d v := h.safe I.tupOk e
theorem SI.safeL (I : SI C σ H ρ vs τ ow) {ds : List D} (h : DIsL C.K (BarB C ow) H ds xs) (e : Ds.safeL ds = true) : DIsL C.K (Bar C ow) H ds xs := h.safe I.tupOk e

theorem TIs.dat_inv {K : PySem.W.Frag} {B Bb : Addr → Prop} {σ : St} {H : Hp} {d : D} {v : V} : ∀ {os : List Addr}, TIs K B Bb σ H (.dat d) v os → DIs K B H d v
  | _, .dat q => q
theorem TIs.bor_inv {K : PySem.W.Frag} {B Bb : Addr → Prop} {σ : St} {H : Hp} {d : D} {v : V} : ∀ {os : List Addr}, TIs K B Bb σ H (.bor d) v os → DIs K Bb H d v
  | _, .bor q => q
/-- a scalar pushed -/
theorem SS.sc {d : D} {v : V} (h : SS C σ H ρ vs τ) (e : sv d = some v) : SS C σ H ρ (vs ++ [v]) (τ ++ [.dat d]) := h.push0 fun _ _ => .dat (sv_is e)
theorem SS.int (h : SS C σ H ρ vs τ) (i : Int) : SS C σ H ρ (vs ++ [.int i]) (τ ++ [.dat (.int i)]) := h.sc rfl
theorem SS.bool (h : SS C σ H ρ vs τ) (i : Bool) : SS C σ H ρ (vs ++ [.bl i]) (τ ++ [.dat (.bool i)]) := h.sc rfl
theorem SS.str (h : SS C σ H ρ vs τ) (i : Str) : SS C σ H ρ (vs ++ [.str i]) (τ ++ [.dat (.str i)]) := h.sc rfl
theorem SS.non (h : SS C σ H ρ vs τ) : SS C σ H ρ (vs ++ [.non]) (τ ++ [.dat .none]) := h.sc rfl
end

/-! ### names, constants -/
def dC (d : D) : DE := fun ρ Q => Q (.dat d) ρ
def dVar (i : Nat) : DE := fun ρ Q => match ρ[i]? with
  | some (.dat d) => Q (.dat d) ρ
  | some (.bor d) => Q (.bor d) ρ
  | some .emp => False
  | none => False
  | some _ => Q (.ali i) ρ
section
variable {C : Ctx}
theorem sim_C {d : D} {v : V} (e : sv d = some v) : Sim C (tC v) (dC d) := fun _ _ _ _ _ _ _ I h k => k _ _ _ _ (I.sc e) h
theorem de_int {i j pos} : DPE C (.Constant (.int i) j pos) (dC (.int i)) := ⟨_, pe_int, sim_C rfl⟩
theorem de_bl {b j pos} : DPE C (.Constant (.bool b) j pos) (dC (.bool b)) := ⟨_, pe_bl, sim_C rfl⟩
theorem de_non {j pos} : DPE C (.Constant .none j pos) (dC .none) := ⟨_, pe_non, sim_C rfl⟩
theorem de_str {x j pos} : DPE C (.Constant (.str x) j pos) (dC (.str x)) := ⟨_, pe_str, sim_C rfl⟩
theorem de_glob {x : Str} {d : D} {v : V} {u : Value} {pos : Pos} (hg : Gl C.X x) (hm : C.X.mg x = some u) (r : RelV v u) (e : sv d = some v) (hd : (x == ("__debug__" : Str)) = false := by decide) : DPE C (.Name x pos) (dC d) :=
  ⟨_, pe_glob hg hm r hd, sim_C e⟩
theorem wipe_get {σ : St} {i : Nat} {x : Option V} : ∀ {vs : List Nat}, i ∉ vs → σ[i]? = some x → (wipe σ vs)[i]? = some x
  | [], _, e => e
  | v :: vs, h, e => by
    unfold wipe
    rw [List.getElem?_set_ne (fun z => h (by simp [z]))]
    exact wipe_get (fun z => h (by simp [z])) e
theorem sim_var (i : Nat) (nc : i ∉ C.cv) : Sim C (tVar i) (dVar i) := fun σ H ρ vs τ Qd Q I h k => by
  unfold dVar at h
  obtain ⟨ow, J⟩ := id I
  cases e : ρ[i]? with
  | none => rw [e] at h; exact h.elim
  | some t =>
    rw [e] at h
    rcases J.slot e with rfl | ⟨v, hv, _⟩
    · exact h.elim
    · have go : Qd (.ali i) ρ → tVar i σ H Q := fun h => ⟨v, hv, k v H _ ρ (I.push0 fun ow' J' => .ali (wipe_get nc hv)) h⟩
      cases t with
      | dat d => exact ⟨v, hv, k v H _ ρ (I.push0 fun ow' J' => by
          rcases J'.slot e with z | ⟨w, hw, r⟩
          · cases z
          · rw [hv] at hw; cases hw
            exact .dat r.dat_inv) h⟩
      | bor d => exact ⟨v, hv, k v H _ ρ (I.push0 fun ow' J' => by
          rcases J'.slot e with z | ⟨w, hw, r⟩
          · cases z
          · rw [hv] at hw; cases hw
            exact .bor r.bor_inv) h⟩
      | emp => exact h.elim
      | own _ => exact go h
      | lbo _ => exact go h
      | lst _ => exact go h
      | tup _ => exact go h
      | dct _ => exact go h
      | scr _ => exact go h
      | exc _ => exact go h
      | ins _ _ _ => exact go h
      | ali _ => exact go h
theorem de_var (i : Nat) {x : Str} {pos : Pos} (nc : i ∉ C.cv := by decide) (hN : C.X.N[i]? = some x := by rfl) (hv : Vis C.X.env.scope x := by first | exact Or.inl rfl | exact Or.inr (Or.inl rfl) | exact Or.inr (Or.inr rfl)) (hd : (x == ("__debug__" : Str)) = false := by decide)
    (hcd : (x == ("__classdict__" : Str)) = false := by decide) : DPE C (.Name x pos) (dVar i) := ⟨_, pe_var hN hv hd hcd, sim_var i nc⟩

/-! ### operators by values -/
abbrev DO2 := List T → T → T → DQ → Prop
abbrev DO1 := List T → T → DQ → Prop
def dOp (f : DO2) (fa fb : DE) : DE := fun ρ Q => fa ρ fun x ρ1 => fb ρ1 fun y ρ2 => f ρ2 x y Q
def dUn (f : DO1) (fa : DE) : DE := fun ρ Q => fa ρ fun x ρ1 => f ρ1 x Q
def SimR2 (C : Ctx) (r : R2) (f : DO2) : Prop := ∀ (σ : St) (H : Hp) (ρ : List T) (vs : List V) (τ : List T) (u v : V) (x y : T) (Qd : DQ) (Q : VK), SS C σ H ρ (vs ++ [u] ++ [v]) (τ ++ [x] ++ [y]) → f ρ x y Qd →
  (∀ w H' z ρ', SS C σ H' ρ' (vs ++ [w]) (τ ++ [z]) → Qd z ρ' → Q w H') → r u v H Q
def SimR1 (C : Ctx) (r : V → Hp → VK → Prop) (f : DO1) : Prop := ∀ (σ : St) (H : Hp) (ρ : List T) (vs : List V) (τ : List T) (u : V) (x : T) (Qd : DQ) (Q : VK), SS C σ H ρ (vs ++ [u]) (τ ++ [x]) → f ρ x Qd →
  (∀ w H' z ρ', SS C σ H' ρ' (vs ++ [w]) (τ ++ [z]) → Qd z ρ' → Q w H') → r u H Q
variable {a b : Expr} {fa fb : DE} {pos : Pos}
theorem sim_op {r : R2} {f : DO2} {ta tb : TE} (h : SimR2 C r f) (ha : Sim C ta fa) (hb : Sim C tb fb) : Sim C (tOp r ta tb) (dOp f fa fb) := fun σ H ρ vs τ Qd Q I q k =>
  ha σ H ρ vs τ _ _ I q fun u H1 x ρ1 I1 q1 => hb σ H1 ρ1 _ _ _ _ I1 q1 fun v H2 y ρ2 I2 q2 => h σ H2 ρ2 vs τ u v x y Qd Q I2 q2 k
theorem sim_un {r : V → Hp → VK → Prop} {f : DO1} {ta : TE} (h : SimR1 C r f) (ha : Sim C ta fa) : Sim C (tUn r ta) (dUn f fa) := fun σ H ρ vs τ Qd Q I q k =>
  ha σ H ρ vs τ _ _ I q fun u H1 x ρ1 I1 q1 => h σ H1 ρ1 vs τ u x Qd Q I1 q1 k
theorem de_op {op : Operator} {r : R2} {f : DO2} (ho : OpR C.X (binaryOp op) r) (hs : SimR2 C r f) (ha : DPE C a fa) (hb : DPE C b fb) : DPE C (.BinOp a op b pos) (dOp f fa fb) :=
  let ⟨_, pa, sa⟩ := ha.ex; let ⟨_, pb, sb⟩ := hb.ex; ⟨_, pe_op ho pa pb, sim_op hs sa sb⟩
theorem de_cmp {op : CmpOp} {r : R2} {f : DO2} (ho : OpR C.X (compareOp op) r) (hs : SimR2 C r f) (ha : DPE C a fa) (hb : DPE C b fb) (hm : behindInMarks op b = false) : DPE C (.Compare a [op] [b] pos) (dOp f fa fb) :=
  let ⟨_, pa, sa⟩ := ha.ex; let ⟨_, pb, sb⟩ := hb.ex; ⟨_, pe_cmpR ho pa pb hm, sim_op hs sa sb⟩
theorem de_unop {op : UnaryOp} {r : V → Hp → VK → Prop} {f : DO1} (ho : UnR C.X (unaryOp op) r) (hs : SimR1 C r f) (ha : DPE C a fa) : DPE C (.UnaryOp op a pos) (dUn f fa) :=
  let ⟨_, pa, sa⟩ := ha.ex; ⟨_, pe_un ho pa, sim_un hs sa⟩
theorem OpR.or {X : Cx} {f : Value → Value → Sem Value} {r r' : R2} (h : OpR X f r) (h' : OpR X f r') : OpR X f (fun x y H Q => r x y H Q ∨ r' x y H Q) := by
  intro pins s σ H x y v u Q I rx ry q
  rcases q with q | q
  · exact h pins s σ H x y v u Q I rx ry q
  · exact h' pins s σ H x y v u Q I rx ry q
theorem CallR.or {X : Cx} {f : Value} {r r' : List V → Hp → VK → Prop} (h : CallR X f r) (h' : CallR X f r') : CallR X f (fun x H Q => r x H Q ∨ r' x H Q) := by
  intro pins s σ H x v Q I rx q
  rcases q with q | q
  · exact h pins s σ H x v Q I rx q
  · exact h' pins s σ H x v Q I rx q

/-- a pure operator: two data, a scalar -/
def pu2 (f : D → D → (D → Prop) → Prop) : DO2 := fun ρ x y Q => wD (lk ρ x) fun d => wD (lk ρ y) fun e => f d e fun w => Q (.dat w) ρ
def pu1 (f : D → (D → Prop) → Prop) : DO1 := fun ρ x Q => wD (lk ρ x) fun d => f d fun w => Q (.dat w) ρ
theorem sim_pu2 {r : R2} {f : D → D → (D → Prop) → Prop} (h : ∀ (H : Hp) (d e : D) (u v : V) (Qd : D → Prop) (Q : VK), DIs C.K N0 H d u → DIs C.K N0 H e v → f d e Qd → (∀ w z, sv w = some z → Qd w → Q z H) → r u v H Q) : SimR2 C r (pu2 f) := by
  intro σ H ρ vs τ u v x y Qd Q I q k
  obtain ⟨d, e1, q⟩ := wD_some q
  obtain ⟨e, e2, q⟩ := wD_some q
  exact h H d e u v _ Q (I.lk2 e1) (I.lk1 e2) q fun w z hz hq => k z H _ ρ (I.pop2.sc hz) hq
theorem sim_pu1 {r : V → Hp → VK → Prop} {f : D → (D → Prop) → Prop} (h : ∀ (H : Hp) (d : D) (u : V) (Qd : D → Prop) (Q : VK), DIs C.K N0 H d u → f d Qd → (∀ w z, sv w = some z → Qd w → Q z H) → r u H Q) : SimR1 C r (pu1 f) := by
  intro σ H ρ vs τ u x Qd Q I q k
  obtain ⟨d, e1, q⟩ := wD_some q
  exact h H d u _ Q (I.lk1 e1) q fun w z hz hq => k z H _ ρ (I.pop.sc hz) hq
/-- ints alone -/
def fII (g : Int → Int → (D → Prop) → Prop) : D → D → (D → Prop) → Prop := fun d e k => match d, e with
  | .int i, .int j => g i j k
  | _, _ => False
theorem sim_fII {r : R2} {g : Int → Int → (D → Prop) → Prop} (h : ∀ (H : Hp) (i j : Int) (Qd : D → Prop) (Q : VK), g i j Qd → (∀ w z, sv w = some z → Qd w → Q z H) → r (.int i) (.int j) H Q) : SimR2 C r (pu2 (fII g)) := by
  refine sim_pu2 fun H d e u v Qd Q du ev q k => ?_
  cases d <;> cases e <;> first | exact q.elim | skip
  rw [du.int_eq, ev.int_eq]
  exact h H _ _ Qd Q q k
abbrev dSub : DO2 := pu2 (fII fun i j k => k (.int (i - j)))
theorem de_sub (ha : DPE C a fa) (hb : DPE C b fb) : DPE C (.BinOp a .Sub b pos) (dOp dSub fa fb) :=
  de_op op_sub (sim_fII fun H i j Qd Q q k => ⟨i, j, rfl, rfl, k _ _ rfl q⟩) ha hb
abbrev dMod : DO2 := pu2 (fII fun i j k => 0 < j ∧ k (.int (i % j)))
theorem de_mod (ha : DPE C a fa) (hb : DPE C b fb) : DPE C (.BinOp a .Mod b pos) (dOp dMod fa fb) :=
  de_op op_mod (sim_fII fun H i j Qd Q q k => ⟨i, j, rfl, rfl, q.1, k _ _ rfl q.2⟩) ha hb
abbrev dFdiv : DO2 := pu2 (fII fun i j k => CDivW i j ∧ k (.int (i / j)))
theorem de_fdiv (ha : DPE C a fa) (hb : DPE C b fb) : DPE C (.BinOp a .FloorDiv b pos) (dOp dFdiv fa fb) :=
  de_op op_fdivW (sim_fII fun H i j Qd Q q k => ⟨i, j, rfl, rfl, q.1, k _ _ rfl q.2⟩) ha hb
abbrev dPow : DO2 := pu2 (fII fun i j k => CPow i j ∧ k (.int (i ^ j.toNat)))
theorem de_pow (ha : DPE C a fa) (hb : DPE C b fb) : DPE C (.BinOp a .Pow b pos) (dOp dPow fa fb) :=
  de_op op_pow (sim_fII fun H i j Qd Q q k => ⟨i, j, rfl, rfl, q.1, k _ _ rfl q.2⟩) ha hb
abbrev dLt : DO2 := pu2 (fII fun i j k => k (.bool (decide (i < j))))
theorem de_lt (ha : DPE C a fa) (hb : DPE C b fb) : DPE C (.Compare a [.Lt] [b] pos) (dOp dLt fa fb) :=
  de_cmp op_lt (sim_fII fun H i j Qd Q q k => ⟨i, j, rfl, rfl, k _ _ rfl q⟩) ha hb (nobehind _ (by decide) (by decide))
abbrev dLe : DO2 := pu2 (fII fun i j k => k (.bool (decide (i ≤ j))))
theorem de_le (ha : DPE C a fa) (hb : DPE C b fb) : DPE C (.Compare a [.LtE] [b] pos) (dOp dLe fa fb) :=
  de_cmp op_le (sim_fII fun H i j Qd Q q k => ⟨i, j, rfl, rfl, k _ _ rfl q⟩) ha hb (nobehind _ (by decide) (by decide))
abbrev dGt : DO2 := pu2 (fII fun i j k => k (.bool (decide (j < i))))
theorem de_gt (ha : DPE C a fa) (hb : DPE C b fb) : DPE C (.Compare a [.Gt] [b] pos) (dOp dGt fa fb) :=
  de_cmp op_gt (sim_fII fun H i j Qd Q q k => ⟨i, j, rfl, rfl, k _ _ rfl q⟩) ha hb (nobehind _ (by decide) (by decide))
abbrev dGe : DO2 := pu2 (fII fun i j k => k (.bool (decide (j ≤ i))))
theorem de_ge (ha : DPE C a fa) (hb : DPE C b fb) : DPE C (.Compare a [.GtE] [b] pos) (dOp dGe fa fb) :=
  de_cmp op_ge (sim_fII fun H i j Qd Q q k => ⟨i, j, rfl, rfl, k _ _ rfl q⟩) ha hb (nobehind _ (by decide) (by decide))
def dNeg : DO1 := pu1 fun d k => match d with
  | .int i => k (.int (-i))
  | _ => False
theorem de_neg (ha : DPE C a fa) : DPE C (.UnaryOp .USub a pos) (dUn dNeg fa) :=
  de_unop un_neg (sim_pu1 fun H d u Qd Q du q k => by
    cases d <;> first | exact q.elim | skip
    rw [du.int_eq]
    exact ⟨_, rfl, k _ _ rfl q⟩) ha

/-! ### == over data -/
mutual
theorem DIs.dp {K : PySem.W.Frag} {B : Addr → Prop} {H : Hp} : ∀ {d : D} {v : V}, DIs K B H d v → d.canLay0 = true → Dp K H v d
  | _, _, .none, _ => .non
  | _, _, .bool b, _ => .bl b
  | _, _, .int i, _ => .int i
  | _, _, .str x, _ => .str x
  | _, _, .list h _ t, e => .lst (.of h) (DIsL.dp t (by simpa [PyData.canLay0] using e))
  | _, _, .tuple h t, e => .tup h.sq (DIsL.dp t (by simpa [PyData.canLay0] using e))
  | _, _, .dict _ _ _ _, e => by simp [PyData.canLay0] at e
theorem DIsL.dp {K : PySem.W.Frag} {B : Addr → Prop} {H : Hp} : ∀ {ds : List D} {vs : List V}, DIsL K B H ds vs → PyData.canLayAll0 ds = true → DpAll K H vs ds
  | _, _, .nil, _ => .nil
  | _, _, .cons r t, e => by
    simp only [PyData.canLayAll0, Bool.and_eq_true] at e
    exact .cons (DIs.dp r e.1) (DIsL.dp t e.2)
end
theorem DIs.dpS {K : PySem.W.Frag} {B : Addr → Prop} {H : Hp} {d : D} {v : V} (h : DIs K B H d v) (e : SeqAt.shaped d = true) : Dp K H v d := h.dp (SeqAt.canLay_of_shaped e)
abbrev dEq : DO2 := pu2 fun d e k => match d, e with
  | .str x, .str y => k (.bool (decide (x = y)))
  | d, e => SeqAt.shaped d = true ∧ SeqAt.shaped e = true ∧ k (.bool (PyData.eqv d e))
abbrev dNe : DO2 := pu2 fun d e k => match d, e with
  | .str x, .str y => k (.bool (!decide (x = y)))
  | d, e => SeqAt.shaped d = true ∧ SeqAt.shaped e = true ∧ k (.bool (!PyData.eqv d e))
theorem dec_strV (x y : Str) : decide (V.str x = V.str y) = decide (x = y) := by
  by_cases h : x = y
  · rw [h, decide_eq_true rfl, decide_eq_true rfl]
  · rw [decide_eq_false h, decide_eq_false fun z => h (V.str.inj z)]
theorem sim_eqD (hu : C.X.A.units + 64 < cLine) : OpR C.X (compareOp .Eq) (fun x y H Q => rEq x y H Q ∨ rEqD C.X.K x y H Q) ∧ SimR2 C (fun x y H Q => rEq x y H Q ∨ rEqD C.X.K x y H Q) dEq :=
  ⟨OpR.or op_eq (op_eqD hu), sim_pu2 fun H d e u v Qd Q du ev q k => by
    split at q
    · refine .inl ⟨by rw [du.str_eq, ev.str_eq]; rfl, ?_⟩
      rw [du.str_eq, ev.str_eq, dec_strV]
      exact k _ _ rfl q
    · exact .inr ⟨_, _, du.dpS q.1, ev.dpS q.2.1, q.1, q.2.1, k _ _ rfl q.2.2⟩⟩
theorem sim_neD (hu : C.X.A.units + 64 < cLine) : OpR C.X (compareOp .NotEq) (fun x y H Q => rNe x y H Q ∨ rNeD C.X.K x y H Q) ∧ SimR2 C (fun x y H Q => rNe x y H Q ∨ rNeD C.X.K x y H Q) dNe :=
  ⟨OpR.or op_ne (op_neD hu), sim_pu2 fun H d e u v Qd Q du ev q k => by
    split at q
    · refine .inl ⟨by rw [du.str_eq, ev.str_eq]; rfl, ?_⟩
      rw [du.str_eq, ev.str_eq, dec_strV]
      exact k _ _ rfl q
    · exact .inr ⟨_, _, du.dpS q.1, ev.dpS q.2.1, q.1, q.2.1, k _ _ rfl q.2.2⟩⟩
theorem de_eq (hu : C.X.A.units + 64 < cLine) (ha : DPE C a fa) (hb : DPE C b fb) : DPE C (.Compare a [.Eq] [b] pos) (dOp dEq fa fb) :=
  de_cmp (sim_eqD hu).1 (sim_eqD hu).2 ha hb (nobehind _ (by decide) (by decide))
theorem de_ne (hu : C.X.A.units + 64 < cLine) (ha : DPE C a fa) (hb : DPE C b fb) : DPE C (.Compare a [.NotEq] [b] pos) (dOp dNe fa fb) :=
  de_cmp (sim_neD hu).1 (sim_neD hu).2 ha hb (nobehind _ (by decide) (by decide))
/-- x in xs, data at any depth -/
abbrev dIn : DO2 := pu2 fun d e k => match e with
  | .list ds => SeqAt.shaped d = true ∧ SeqAt.shaped (.list ds) = true ∧ k (.bool (ds.any fun z => PyData.eqv z d))
  | _ => False
abbrev dNotIn : DO2 := pu2 fun d e k => match e with
  | .list ds => SeqAt.shaped d = true ∧ SeqAt.shaped (.list ds) = true ∧ k (.bool (!ds.any fun z => PyData.eqv z d))
  | _ => False
theorem de_in (hu : C.X.A.units + 65 < cLine) (ha : DPE C a fa) (hb : DPE C b fb) (hm : behindInMarks .In b = false := by rfl) : DPE C (.Compare a [.In] [b] pos) (dOp dIn fa fb) :=
  de_cmp (op_inD hu) (sim_pu2 fun H d e u v Qd Q du ev q k => by
    cases e <;> first | exact q.elim | skip
    exact ⟨d, _, du.dpS q.1, ev.dpS q.2.1, q.1, q.2.1, k _ _ rfl q.2.2⟩) ha hb hm
theorem de_notIn (hu : C.X.A.units + 65 < cLine) (ha : DPE C a fa) (hb : DPE C b fb) (hm : behindInMarks .NotIn b = false := by rfl) : DPE C (.Compare a [.NotIn] [b] pos) (dOp dNotIn fa fb) :=
  de_cmp (op_notInD hu) (sim_pu2 fun H d e u v Qd Q du ev q k => by
    cases e <;> first | exact q.elim | skip
    exact ⟨d, _, du.dpS q.1, ev.dpS q.2.1, q.1, q.2.1, k _ _ rfl q.2.2⟩) ha hb hm
/-- is None -/
def isN : D → Bool
  | .none => true
  | _ => false
theorem isN_eq {K B H d v} (h : DIs K B H d v) : decide (v = V.non) = isN d := by
  cases h <;> simp [isN]
abbrev dIsN : DO2 := pu2 fun d e k => match e with
  | .none => k (.bool (isN d))
  | _ => False
abbrev dIsNotN : DO2 := pu2 fun d e k => match e with
  | .none => k (.bool (!isN d))
  | _ => False
theorem de_isN (ha : DPE C a fa) (hb : DPE C b fb) : DPE C (.Compare a [.Is] [b] pos) (dOp dIsN fa fb) :=
  de_cmp op_isN (sim_pu2 fun H d e u v Qd Q du ev q k => by
    cases e <;> first | exact q.elim | skip
    refine ⟨ev.none_eq, ?_⟩
    rw [isN_eq du]
    exact k _ _ rfl q) ha hb (nobehind _ (by decide) (by decide))
theorem de_isNotN (ha : DPE C a fa) (hb : DPE C b fb) : DPE C (.Compare a [.IsNot] [b] pos) (dOp dIsNotN fa fb) :=
  de_cmp op_notN (sim_pu2 fun H d e u v Qd Q du ev q k => by
    cases e <;> first | exact q.elim | skip
    refine ⟨ev.none_eq, ?_⟩
    rw [isN_eq du]
    exact k _ _ rfl q) ha hb (nobehind _ (by decide) (by decide))
/-- is True, is False, of bools -/
abbrev dIsB : DO2 := pu2 fun d e k => match d, e with
  | .bool x, .bool y => k (.bool (decide (x = y)))
  | _, _ => False
abbrev dIsNotB : DO2 := pu2 fun d e k => match d, e with
  | .bool x, .bool y => k (.bool (!decide (x = y)))
  | _, _ => False
theorem de_isB (ha : DPE C a fa) (hb : DPE C b fb) : DPE C (.Compare a [.Is] [b] pos) (dOp dIsB fa fb) :=
  de_cmp op_isBl (sim_pu2 fun H d e u v Qd Q du ev q k => by
    cases d <;> cases e <;> first | exact q.elim | skip
    exact ⟨_, _, du.bool_eq, ev.bool_eq, k _ _ rfl q⟩) ha hb (nobehind _ (by decide) (by decide))
theorem de_isNotB (ha : DPE C a fa) (hb : DPE C b fb) : DPE C (.Compare a [.IsNot] [b] pos) (dOp dIsNotB fa fb) :=
  de_cmp op_notBl (sim_pu2 fun H d e u v Qd Q du ev q k => by
    cases d <;> cases e <;> first | exact q.elim | skip
    exact ⟨_, _, du.bool_eq, ev.bool_eq, k _ _ rfl q⟩) ha hb (nobehind _ (by decide) (by decide))
end
end Ds
namespace Ds
open PySem L2

theorem gather {K : PySem.W.Frag} {B Bb : Addr → Prop} {σ : St} {H : Hp} : ∀ (ts : List T) (xs : List V) (f : Nat → List Addr), ts.length = xs.length → (∀ (j : Nat) (t : T), ts[j]? = some t → ∃ v, xs[j]? = some v ∧ TIs K B Bb σ H t v (f j)) →
    (∀ j, (f j).Nodup) → (∀ i j a, i ≠ j → a ∈ f i → a ∉ f j) → ∃ os, TIsL K B Bb σ H ts xs os ∧ os.Nodup ∧ ∀ a, a ∈ os → ∃ j, j < ts.length ∧ a ∈ f j
  | [], [], f, _, _, _, _ => ⟨[], .nil, List.nodup_nil, fun _ z => by simp at z⟩
  | [], _ :: _, _, h, _, _, _ => by simp at h
  | _ :: _, [], _, h, _, _, _ => by simp at h
  | t :: ts, x :: xs, f, h, r, nd, dj => by
    obtain ⟨v, hv, r0⟩ := r 0 t rfl
    simp at hv; subst hv
    obtain ⟨os, q, n2, s⟩ := gather ts xs (fun j => f (j + 1)) (by simpa using h) (fun j u e => r (j + 1) u (by simpa using e)) (fun j => nd _) fun i j a hij => dj _ _ a (by omega)
    refine ⟨f 0 ++ os, .cons r0 q, List.nodup_append.mpr ⟨nd 0, n2, fun a ha b hb e => ?_⟩, fun a ha => ?_⟩
    · subst e
      obtain ⟨j, _, hj⟩ := s a hb
      exact dj 0 (j + 1) a (by omega) ha hj
    · rcases List.mem_append.mp ha with ha | ha
      · exact ⟨0, by simp, ha⟩
      · obtain ⟨j, hj, q⟩ := s a ha
        exact ⟨j + 1, by simpa using hj, q⟩

def datL : List T → Option (List D)
  | [] => some []
  | t :: ts => match t with
    | .dat d => (datL ts).map fun ds => d :: ds
    | _ => none
theorem datL_is {K : PySem.W.Frag} {B Bb : Addr → Prop} {σ : St} {H : Hp} : ∀ {ts : List T} {vs : List V} {os : List Addr} {ds : List D}, TIsL K B Bb σ H ts vs os → datL ts = some ds → DIsL K B H ds vs
  | _, _, _, _, .nil, e => by simp [datL] at e; subst e; exact .nil
  | t :: _, _, _, _, .cons r q, e => by
    unfold datL at e
    cases t with
    | dat d =>
      simp only [Option.map_eq_some_iff] at e
      obtain ⟨ds, e1, rfl⟩ := e
      exact .cons r.dat_inv (datL_is q e1)
    | _ => simp at e
def small {α : Type} : Nat → List α → Bool
  | _, [] => true
  | 0, _ :: _ => false
  | n + 1, _ :: t => small n t
theorem small_le {α : Type} : ∀ {n : Nat} {l : List α}, small n l = true → l.length ≤ n
  | _, [], _ => Nat.zero_le _
  | 0, _ :: _, h => by simp [small] at h
  | n + 1, _ :: t, h => by have := small_le (n := n) (l := t) (by simpa [small] using h); simp; omega
def mkLK (ts : List T) : T := match datL ts with
  | some ds => .own ds
  | none => .lst ts
def mkTK (ts : List T) : T := match datL ts with
  | some ds => .dat (.tuple ds)
  | none => .tup ts

section
variable {C : Ctx} {σ σ' : St} {H H' : Hp} {ρ ρ' : List T} {vs vs' xs ys : List V} {τ τ' ts us : List T} {ow : Nat → List Addr}

theorem SI.nbar (I : SI C σ H ρ vs τ ow) {b : Addr} (e : H b = none) : ¬ Bar C ow b := fun z => by
  rcases z with ⟨k, z⟩ | z
  · obtain ⟨u, e2, _⟩ := I.ot k b z
    rw [e] at e2; cases e2
  · obtain ⟨u, e2, _⟩ := I.ok.b0 b z
    exact I.tr b (by rw [e2]; simp) e
theorem same_upd {p : Addr} {o : HO} (e : H p = none) : Same H (upd H p o) := fun b u q => by rw [upd_ne (ne_of_none q e)]; exact q
theorem SI.gather (I : SI C σ H ρ (vs ++ xs) (τ ++ ts) ow) (hτ : τ.length = vs.length) : ∃ os, TIsL C.K (Bar C ow) (BarB C ow) (wipe σ C.cv) H ts xs os ∧ os.Nodup ∧ ∀ a, a ∈ os → ∃ j, ρ.length + τ.length ≤ j ∧ a ∈ ow j := by
  have hl := I.lt
  simp at hl
  obtain ⟨os, r, n, s⟩ := Ds.gather (K := C.K) (B := Bar C ow) (Bb := BarB C ow) (σ := wipe σ C.cv) (H := H) ts xs (fun j => ow (ρ.length + τ.length + j)) (by omega) (fun j t e => by
    obtain ⟨v, hv, r⟩ := I.temp (j := τ.length + j) (t := t) (by rw [List.getElem?_append_right (by omega)]; simpa using e)
    rw [hτ, List.getElem?_append_right (by omega)] at hv
    simp at hv
    exact ⟨v, hv, by rw [Nat.add_assoc]; exact r⟩) (fun j => I.nd _) fun i j a hij => I.dj _ _ a (by omega)
  exact ⟨os, r, n, fun a ha => by
    obtain ⟨j, _, q⟩ := s a ha
    exact ⟨_, by omega, q⟩⟩
/-- barred from below n -/
def Low (C : Ctx) (ow : Nat → List Addr) (n : Nat) (b : Addr) : Prop := (∃ k, k < n ∧ b ∈ ow k) ∨ C.B0 b
theorem Low.bar {ow : Nat → List Addr} {n : Nat} {b : Addr} (h : Low C ow n b) : Bar C ow b := h.elim (fun ⟨k, _, q⟩ => .inl ⟨k, q⟩) .inr
/-- the temporaries on top become one that owns nothing new -/
theorem SI.one' (I : SI C σ H ρ (vs ++ xs) (τ ++ ts) ow) (hτ : τ.length = vs.length) (hs : Same H H') (v : V) (t : T) (o : List Addr)
    (rel : ∀ ow' : Nat → List Addr, (∀ b o, H b = some o → ¬ Bar C ow b → H' b = some o ∧ ¬ Bar C ow' b) → (∀ b o, H b = some o → ¬ BarB C ow b → H' b = some o ∧ ¬ BarB C ow' b) →
      (∀ b, Bar C ow' b → Low C ow (ρ.length + τ.length) b ∨ b ∈ o) → TIs C.K (Bar C ow') (BarB C ow') (wipe σ C.cv) H' t v o)
    (nd : o.Nodup) (src : ∀ a, a ∈ o → (∃ i, ρ.length + τ.length ≤ i ∧ a ∈ ow i) ∨ H a = none) (ot : ∀ a, a ∈ o → ∃ u, H' a = some u ∧ Chg u) : SS C σ H' ρ (vs ++ [v]) (τ ++ [t]) := by
  refine ⟨_, SI.temps (ow' := fun k => if k < ρ.length + τ.length then ow k else o1 o (k - (ρ.length + τ.length))) I hτ hs (by simp) (o1 o) rfl (fun m1 m2 j u e => ?_) (fun j => ?_) (fun i j a hij hi => ?_) (fun j a h => ?_) (fun j a h => ?_)⟩
  · cases j with
    | zero =>
      simp at e; subst e
      refine ⟨v, rfl, rel _ m1 m2 fun b z => ?_⟩
      rcases z with ⟨k, z⟩ | z
      · by_cases hk : k < ρ.length + τ.length
        · simp only [if_pos hk] at z; exact .inl (.inl ⟨k, hk, z⟩)
        · simp only [if_neg hk] at z
          cases hq : k - (ρ.length + τ.length) with
          | zero => rw [hq] at z; exact .inr z
          | succ m => rw [hq] at z; simp [o1] at z
      · exact .inl (.inr z)
    | succ j => simp at e
  · cases j with
    | zero => exact nd
    | succ j => exact List.nodup_nil
  · cases i with
    | zero => cases j with
      | zero => exact absurd rfl hij
      | succ j => simp [o1]
    | succ i => simp [o1] at hi
  · cases j with
    | zero => exact src a h
    | succ j => simp [o1] at h
  · cases j with
    | zero => exact ot a h
    | succ j => simp [o1] at h
theorem SI.one (I : SI C σ H ρ (vs ++ xs) (τ ++ ts) ow) (hτ : τ.length = vs.length) (hs : Same H H') (v : V) (t : T) (o : List Addr)
    (rel : ∀ ow' : Nat → List Addr, (∀ b o, H b = some o → ¬ Bar C ow b → H' b = some o ∧ ¬ Bar C ow' b) → (∀ b o, H b = some o → ¬ BarB C ow b → H' b = some o ∧ ¬ BarB C ow' b) →
      (∀ b, Bar C ow' b → Bar C ow b ∨ b ∈ o) → TIs C.K (Bar C ow') (BarB C ow') (wipe σ C.cv) H' t v o)
    (nd : o.Nodup) (src : ∀ a, a ∈ o → (∃ i, ρ.length + τ.length ≤ i ∧ a ∈ ow i) ∨ H a = none) (ot : ∀ a, a ∈ o → ∃ u, H' a = some u ∧ Chg u) : SS C σ H' ρ (vs ++ [v]) (τ ++ [t]) :=
  I.one' hτ hs v t o (fun ow' m1 m2 hb => rel ow' m1 m2 fun b z => (hb b z).imp Low.bar id) nd src ot
/-- a new list of data -/
theorem SI.newL (I : SI C σ H ρ (vs ++ xs) (τ ++ ts) ow) (hτ : τ.length = vs.length) {p : Addr} (hp : H p = none) {zs : List V} {ds : List D} (r : DIsL C.K (Bar C ow) H ds zs) : SS C σ (upd H p (.lst zs)) ρ (vs ++ [.ref p]) (τ ++ [.own ds]) :=
  I.one hτ (same_upd hp) _ _ [p] (fun ow' m1 m2 _ => .own upd_same (r.move m1)) (by simp) (fun a h => by simp at h; subst h; exact .inr hp) fun a h => by simp at h; subst h; exact ⟨_, upd_same, trivial⟩
theorem SI.newLB (I : SI C σ H ρ (vs ++ xs) (τ ++ ts) ow) (hτ : τ.length = vs.length) {p : Addr} (hp : H p = none) {zs : List V} {ds : List D} (r : DIsL C.K (BarB C ow) H ds zs) : SS C σ (upd H p (.lst zs)) ρ (vs ++ [.ref p]) (τ ++ [.lbo ds]) :=
  I.one hτ (same_upd hp) _ _ [p] (fun ow' m1 m2 _ => .lbo upd_same (r.move m2)) (by simp) (fun a h => by simp at h; subst h; exact .inr hp) fun a h => by simp at h; subst h; exact ⟨_, upd_same, trivial⟩
/-- a new tuple of data -/
theorem SI.newT (I : SI C σ H ρ (vs ++ xs) (τ ++ ts) ow) (hτ : τ.length = vs.length) {p : Addr} (hp : H p = none) {zs : List V} {ds : List D} (r : DIsL C.K (Bar C ow) H ds zs) : SS C σ (upd H p (.tup zs)) ρ (vs ++ [.ref p]) (τ ++ [.dat (.tuple ds)]) :=
  I.one hτ (same_upd hp) _ _ [] (fun ow' m1 m2 hb => .dat (.tuple (.inl ⟨.inl upd_same, fun z => (hb p z).elim (I.nbar hp) (by simp)⟩) (r.move m1))) (by simp) (fun a h => by simp at h) fun a h => by simp at h
theorem SI.nbarB (I : SI C σ H ρ vs τ ow) {b : Addr} (e : H b = none) : ¬ BarB C ow b := fun z => I.nbar e (.inl z)
theorem BarB.bar {ow : Nat → List Addr} {b : Addr} (h : BarB C ow b) : Bar C ow b := .inl h
theorem SI.newTB (I : SI C σ H ρ (vs ++ xs) (τ ++ ts) ow) (hτ : τ.length = vs.length) {p : Addr} (hp : H p = none) {zs : List V} {ds : List D} (r : DIsL C.K (BarB C ow) H ds zs) : SS C σ (upd H p (.tup zs)) ρ (vs ++ [.ref p]) (τ ++ [.bor (.tuple ds)]) :=
  I.one hτ (same_upd hp) _ _ [] (fun ow' m1 m2 hb => .bor (.tuple (.inl ⟨.inl upd_same, fun z => (hb p z.bar).elim (I.nbar hp) (by simp)⟩) (r.move m2))) (by simp) (fun a h => by simp at h) fun a h => by simp at h
/-- plain data instead of the temporaries on top -/
theorem SI.oneD (I : SI C σ H ρ (vs ++ xs) (τ ++ ts) ow) (hτ : τ.length = vs.length) {v : V} {d : D} (r : DIs C.K (Bar C ow) H d v) : SS C σ H ρ (vs ++ [v]) (τ ++ [.dat d]) :=
  I.one hτ (Same.refl H) _ _ [] (fun ow' m1 m2 hb => .dat (r.move m1)) (by simp) (fun a h => by simp at h) fun a h => by simp at h
theorem SI.oneB (I : SI C σ H ρ (vs ++ xs) (τ ++ ts) ow) (hτ : τ.length = vs.length) {v : V} {d : D} (r : DIs C.K (BarB C ow) H d v) : SS C σ H ρ (vs ++ [v]) (τ ++ [.bor d]) :=
  I.one hτ (Same.refl H) _ _ [] (fun ow' m1 m2 hb => .bor (r.move m2)) (by simp) (fun a h => by simp at h) fun a h => by simp at h
theorem SI.dispLK (I : SI C σ H ρ (vs ++ xs) (τ ++ ts) ow) (hτ : τ.length = vs.length) {p : Addr} (hp : H p = none) : SS C σ (upd H p (.lst xs)) ρ (vs ++ [.ref p]) (τ ++ [mkLK ts]) := by
  obtain ⟨os, r, n, s⟩ := I.gather hτ
  unfold mkLK
  cases e : datL ts with
  | some ds => exact I.newL hτ hp (datL_is r e)
  | none =>
    refine I.one hτ (same_upd hp) _ _ (p :: os) (fun ow' m1 m2 _ => .lst upd_same (r.move m1 m2 (fun b o hb e => same_upd hp b o e) (.inl rfl))) ?_ (fun a h => ?_) fun a h => ?_
    · refine List.nodup_cons.mpr ⟨fun z => ?_, n⟩
      obtain ⟨j, _, q⟩ := s p z
      obtain ⟨u, e2, _⟩ := I.ot j p q
      rw [hp] at e2; cases e2
    · rcases List.mem_cons.mp h with rfl | h
      · exact .inr hp
      · obtain ⟨j, hj, q⟩ := s a h
        exact .inl ⟨j, hj, q⟩
    · rcases List.mem_cons.mp h with rfl | h
      · exact ⟨_, upd_same, trivial⟩
      · obtain ⟨j, hj, q⟩ := s a h
        obtain ⟨u, e2, c⟩ := I.ot j a q
        exact ⟨u, same_upd hp _ _ e2, c⟩
theorem SI.dispTK (I : SI C σ H ρ (vs ++ xs) (τ ++ ts) ow) (hτ : τ.length = vs.length) {p : Addr} (hp : H p = none) : SS C σ (upd H p (.tup xs)) ρ (vs ++ [.ref p]) (τ ++ [mkTK ts]) := by
  obtain ⟨os, r, n, s⟩ := I.gather hτ
  unfold mkTK
  cases e : datL ts with
  | some ds => exact I.newT hτ hp (datL_is r e)
  | none =>
    have np : p ∉ os := fun z => by
      obtain ⟨j, _, q⟩ := s p z
      obtain ⟨u, e2, _⟩ := I.ot j p q
      rw [hp] at e2; cases e2
    refine I.one hτ (same_upd hp) _ _ os (fun ow' m1 m2 hb => .tup upd_same (fun z => (hb p z).elim (I.nbar hp) np) (r.move m1 m2 (fun b o hb e => same_upd hp b o e) (.inl rfl))) n (fun a h => ?_) fun a h => ?_
    · obtain ⟨j, hj, q⟩ := s a h
      exact .inl ⟨j, hj, q⟩
    · obtain ⟨j, hj, q⟩ := s a h
      obtain ⟨u, e2, c⟩ := I.ot j a q
      exact ⟨u, same_upd hp _ _ e2, c⟩

theorem SS.lenA (I : SS C σ H ρ (vs ++ xs) (τ ++ ts)) (h : ts.length = xs.length) : τ.length = vs.length := by
  obtain ⟨ow, J⟩ := I
  have := J.lt
  simp at this
  omega
end

/-! ### argument lists, displays -/
def dNil : DA := fun ρ Q => Q [] ρ
def dCons (fa : DE) (fr : DA) : DA := fun ρ Q => fa ρ fun x ρ1 => fr ρ1 fun xs ρ2 => Q (x :: xs) ρ2
section
variable {C : Ctx} {e : Expr} {es : List Expr} {fe : DE} {fs : DA} {pos : Pos}
theorem da_nil : DPA C [] dNil := ⟨_, pa_nil, fun σ H ρ vs τ Qd Q I h k => k [] H [] ρ (by simpa using I) rfl h⟩
theorem da_cons (ha : DPE C e fe) (hr : DPA C es fs) (hs : starEach (e :: es) C.X.env = (false, eval e C.X.env) :: starEach es C.X.env := by rfl) : DPA C (e :: es) (dCons fe fs) :=
  let ⟨_, pa, sa⟩ := ha.ex; let ⟨_, pr, sr⟩ := hr.ex
  ⟨_, pa_cons pa pr hs, fun σ H ρ vs τ Qd Q I h k => sa σ H ρ vs τ _ _ I h fun v H1 x ρ1 I1 q1 => sr σ H1 ρ1 _ _ _ _ I1 q1 fun xs H2 ts ρ2 I2 hl q2 =>
    k (v :: xs) H2 (x :: ts) ρ2 (by simpa using I2) (by simpa using hl) q2⟩
end

/-! ### a slot moved out, a slot frozen -/
mutual
/-- as data that may be kept -/
def frz : T → Option D
  | .dat d => some d
  | .bor d => match safe d with
    | true => some d
    | false => none
  | .own ds => some (.list ds)
  | .lst ts => (frzL ts).map .list
  | .tup ts => (frzL ts).map .tuple
  | .dct kvs => some (.dict (kvs.map fun p => (kD p.1, p.2)))
  | .lbo _ => none
  | .scr _ => none
  | .exc _ => none
  | .ins _ _ _ => none
  | .ali _ => none
  | .emp => none
def frzL : List T → Option (List D)
  | [] => some []
  | t :: ts => (frz t).bind fun d => (frzL ts).map fun ds => d :: ds
end
section
variable {K : PySem.W.Frag} {B B' Bb : Addr → Prop} {σ : St} {H : Hp}
mutual
theorem TIs.frz (ht : ∀ a xs, (H a = some (.tup xs) ∨ ∃ o, H a = some (.frz o (.tup xs))) → ¬ Bb a → ¬ B a) (h1 : ∀ b o, H b = some o → ¬ B b → ¬ B' b) : ∀ {t : T} {v : V} {os : List Addr} {d : D}, (∀ a ∈ os, ¬ B' a) → TIs K B Bb σ H t v os → Ds.frz t = some d → DIs K B' H d v
  | _, _, _, _, _, .dat h, e => by simp only [Ds.frz, Option.some.injEq] at e; subst e; exact h.move fun b o q n => ⟨q, h1 b o q n⟩
  | _, _, _, d, _, .bor (d := d') h, e => by
    unfold Ds.frz at e
    cases z : Ds.safe d' with
    | false => rw [z] at e; simp at e
    | true => rw [z] at e; simp at e; subst e; exact (h.safe ht z).move fun b o q n => ⟨q, h1 b o q n⟩
  | _, _, _, _, no, .own h t, e => by simp only [Ds.frz, Option.some.injEq] at e; subst e; exact .list h (no _ (by simp)) (t.move fun b o q n => ⟨q, h1 b o q n⟩)
  | _, _, _, _, no, .lst h t, e => by
    simp only [Ds.frz, Option.map_eq_some_iff] at e
    obtain ⟨ds, e1, rfl⟩ := e
    exact .list h (no _ (by simp)) (TIsL.frz ht h1 (fun a ha => no a (by simp [ha])) t e1)
  | _, _, _, _, no, .tup h n t, e => by
    simp only [Ds.frz, Option.map_eq_some_iff] at e
    obtain ⟨ds, e1, rfl⟩ := e
    exact .tuple (.inl ⟨.inl h, h1 _ _ h n⟩) (TIsL.frz ht h1 no t e1)
  | _, _, _, _, no, .dct h t q, e => by
    simp only [Ds.frz, Option.some.injEq] at e
    subst e; subst q
    exact .dict h (no _ (by simp)) (t.move fun b o q n => ⟨q, h1 b o q n⟩) (zip_kvs (by have := t.length; simpa using this))
  | _, _, _, _, _, .lbo _ _, e => by simp [Ds.frz] at e
  | _, _, _, _, _, .scr h, e => by simp [Ds.frz] at e
  | _, _, _, _, _, .exc h, e => by simp [Ds.frz] at e
  | _, _, _, _, _, .ins _ _ _ _, e => by simp [Ds.frz] at e
  | _, _, _, _, _, .ali h, e => by simp [Ds.frz] at e
theorem TIsL.frz (ht : ∀ a xs, (H a = some (.tup xs) ∨ ∃ o, H a = some (.frz o (.tup xs))) → ¬ Bb a → ¬ B a) (h1 : ∀ b o, H b = some o → ¬ B b → ¬ B' b) : ∀ {ts : List T} {vs : List V} {os : List Addr} {ds : List D}, (∀ a ∈ os, ¬ B' a) → TIsL K B Bb σ H ts vs os → Ds.frzL ts = some ds → DIsL K B' H ds vs
  | _, _, _, _, _, .nil, e => by simp only [Ds.frzL, Option.some.injEq] at e; subst e; exact .nil
  | _, _, _, _, no, .cons r t, e => by
    simp only [Ds.frzL, Option.bind_eq_some_iff, Option.map_eq_some_iff] at e
    obtain ⟨d, e1, ds, e2, rfl⟩ := e
    exact .cons (TIs.frz ht h1 (fun a ha => no a (by simp [ha])) r e1) (TIsL.frz ht h1 (fun a ha => no a (by simp [ha])) t e2)
end
end
theorem frzL_of_datL : ∀ {ts : List T} {ds : List D}, datL ts = some ds → frzL ts = some ds
  | [], _, e => by simp only [datL, Option.some.injEq] at e; subst e; rfl
  | t :: ts, _, e => by
    unfold datL at e
    cases t with
    | dat d =>
      simp only [Option.map_eq_some_iff] at e
      obtain ⟨ds, e1, rfl⟩ := e
      simp only [frzL, frz, frzL_of_datL e1, Option.bind_some, Option.map_some]
    | _ => simp at e
/-- a new list; what its items own is given up -/
def mkL (ts : List T) : T := match frzL ts with
  | some ds => .own ds
  | none => .lst ts
def mkT (ts : List T) : T := match frzL ts with
  | some ds => .dat (.tuple ds)
  | none => .tup ts
section
variable {C : Ctx} {σ : St} {H : Hp} {ρ : List T} {vs xs : List V} {τ ts : List T} {ow : Nat → List Addr}
theorem SI.tupOk0 (I : SI C σ H ρ vs τ ow) : ∀ a xs, (H a = some (.tup xs) ∨ ∃ o, H a = some (.frz o (.tup xs))) → ¬ BarB C ow a → ¬ Bar C ow a := fun a xs e n z => by
  rcases z with z | z
  · exact n z
  · obtain ⟨o, e2, c⟩ := I.ok.b0 a z
    have ha : a ∉ C.os0 := fun q => I.ok.ob a q z
    have := I.kp a o e2 ha
    rcases e with e | ⟨o2, e⟩
    · rw [e] at this; cases this; exact c
    · rw [e] at this; cases this; exact c
/-- the items as data, once what they own is given up -/
theorem SI.frzA (I : SI C σ H ρ (vs ++ xs) (τ ++ ts) ow) (hτ : τ.length = vs.length) {ds : List D} (e : frzL ts = some ds) {o : List Addr} (ho : ∀ a ∈ o, H a = none) {ow' : Nat → List Addr} (hb : ∀ b, Bar C ow' b → Low C ow (ρ.length + τ.length) b ∨ b ∈ o) : DIsL C.K (Bar C ow') H ds xs := by
  obtain ⟨os, r, n, s⟩ := I.gather hτ
  refine r.frz I.tupOk0 (fun b u eb nb z => ?_) (fun a ha z => ?_) e
  · rcases hb b z with q | q
    · exact nb q.bar
    · rw [ho b q] at eb; cases eb
  · obtain ⟨j, hj, q⟩ := s a ha
    rcases hb a z with (⟨k, hk, q2⟩ | q2) | q2
    · exact I.dj k j a (by omega) q2 q
    · exact I.nb0 q q2
    · obtain ⟨u, e2, _⟩ := I.ot j a q
      rw [ho a q2] at e2; cases e2
theorem SI.dispL (I : SI C σ H ρ (vs ++ xs) (τ ++ ts) ow) (hτ : τ.length = vs.length) {p : Addr} (hp : H p = none) : SS C σ (upd H p (.lst xs)) ρ (vs ++ [.ref p]) (τ ++ [mkL ts]) := by
  unfold mkL
  cases e : frzL ts with
  | some ds =>
    refine I.one' hτ (same_upd hp) _ _ [p] (fun ow' m1 m2 hb => .own upd_same ((I.frzA hτ e (o := [p]) (fun a ha => by simp at ha; rw [ha]; exact hp) hb).move fun b o eb nb => ⟨same_upd hp b o eb, nb⟩)) (by simp) (fun a h => by simp at h; subst h; exact .inr hp) fun a h => by simp at h; subst h; exact ⟨_, upd_same, trivial⟩
  | none =>
    have := I.dispLK hτ hp
    unfold mkLK at this
    cases e2 : datL ts with
    | none => rw [e2] at this; exact this
    | some ds => rw [frzL_of_datL e2] at e; cases e
theorem SI.dispT (I : SI C σ H ρ (vs ++ xs) (τ ++ ts) ow) (hτ : τ.length = vs.length) {p : Addr} (hp : H p = none) : SS C σ (upd H p (.tup xs)) ρ (vs ++ [.ref p]) (τ ++ [mkT ts]) := by
  unfold mkT
  cases e : frzL ts with
  | some ds =>
    refine I.one' hτ (same_upd hp) _ _ [] (fun ow' m1 m2 hb => .dat (.tuple (.inl ⟨.inl upd_same, fun z => (hb p z).elim (fun q => I.nbar hp q.bar) (by simp)⟩) ((I.frzA hτ e (o := []) (fun a ha => by simp at ha) hb).move fun b o eb nb => ⟨same_upd hp b o eb, nb⟩))) (by simp) (fun a h => by simp at h) fun a h => by simp at h
  | none =>
    have := I.dispTK hτ hp
    unfold mkTK at this
    cases e2 : datL ts with
    | none => rw [e2] at this; exact this
    | some ds => rw [frzL_of_datL e2] at e; cases e
end
section
variable {C : Ctx} {es : List Expr} {fs : DA} {pos : Pos}
def dLst (f : DA) : DE := fun ρ Q => f ρ fun ts ρ' => match small 1000 ts with
  | true => Q (mkL ts) ρ'
  | false => False
def dTup (f : DA) : DE := fun ρ Q => f ρ fun ts ρ' => match small 1000 ts with
  | true => Q (mkT ts) ρ'
  | false => False
theorem small_ok {ts : List T} {P : Prop} (h : match small 1000 ts with | true => P | false => False) : ts.length ≤ sizeLine ∧ P := by
  cases e : small 1000 ts with
  | false => rw [e] at h; exact h.elim
  | true => rw [e] at h; exact ⟨Nat.le_trans (small_le e) (by decide), h⟩
theorem de_lst (h : DPA C es fs) : DPE C (.List es pos) (dLst fs) :=
  let ⟨_, pa, sa⟩ := h.ex
  ⟨_, pe_lst pa, fun σ H ρ vs τ Qd Q I q k => sa σ H ρ vs τ _ _ I q fun xs H1 ts ρ1 I1 hl q1 => by
    obtain ⟨z, q1⟩ := small_ok q1
    refine ⟨by omega, fun p hp => ?_⟩
    obtain ⟨ow, J⟩ := id I1
    exact k _ _ _ _ (J.dispL (I1.lenA hl) hp) q1⟩
theorem de_tup {x1} (h : DPA C es fs) : DPE C (.Tuple es x1 pos) (dTup fs) :=
  let ⟨_, pa, sa⟩ := h.ex
  ⟨_, pe_tup pa, fun σ H ρ vs τ Qd Q I q k => sa σ H ρ vs τ _ _ I q fun xs H1 ts ρ1 I1 hl q1 => by
    obtain ⟨z, q1⟩ := small_ok q1
    refine ⟨by omega, fun p hp => ?_⟩
    obtain ⟨ow, J⟩ := id I1
    exact k _ _ _ _ (J.dispT (I1.lenA hl) hp) q1⟩
def dTupK (f : DA) : DE := fun ρ Q => f ρ fun ts ρ' => match small 1000 ts with
  | true => Q (mkTK ts) ρ'
  | false => False
theorem de_tupK {x1} (h : DPA C es fs) : DPE C (.Tuple es x1 pos) (dTupK fs) :=
  let ⟨_, pa, sa⟩ := h.ex
  ⟨_, pe_tup pa, fun σ H ρ vs τ Qd Q I q k => sa σ H ρ vs τ _ _ I q fun xs H1 ts ρ1 I1 hl q1 => by
    obtain ⟨z, q1⟩ := small_ok q1
    refine ⟨by omega, fun p hp => ?_⟩
    obtain ⟨ow, J⟩ := id I1
    exact k _ _ _ _ (J.dispTK (I1.lenA hl) hp) q1⟩
end
theorem noAliL_set : ∀ {ρ : List T} {i : Nat} {t : T}, noAliL ρ = true → noAli t = true → noAliL (ρ.set i t) = true
  | [], _, _, h, _ => h
  | _ :: _, 0, _, h, e => by simp [noAliL] at h ⊢; exact ⟨e, h.2⟩
  | _ :: _, i + 1, _, h, e => by simp [noAliL] at h ⊢; exact ⟨h.1, noAliL_set h.2 e⟩

section
variable {C : Ctx} {σ σ' : St} {H H' : Hp} {ρ ρ' : List T} {vs vs' xs ys : List V} {τ τ' ts us : List T} {ow : Nat → List Addr}
/-- slot i changed by the slot's own, and a temporary more; the heap as it is -/
theorem SI.slotPush (I : SI C σ H ρ vs τ ow) {i : Nat} {t t' x : T} {v : V} {oi on : List Addr} (ei : ρ[i]? = some t) (ev : σ[i]? = some (some v)) (na : noAli t' = true)
    (rel : ∀ ow' : Nat → List Addr, (∀ b o, H b = some o → ¬ Bar C ow b → H b = some o ∧ ¬ Bar C ow' b) → (∀ b o, H b = some o → ¬ BarB C ow b → H b = some o ∧ ¬ BarB C ow' b) → (∀ b, Bar C ow' b → b ∈ ow i → b ∈ oi ∨ b ∈ on) →
      (t' = .emp ∨ TIs C.K (Bar C ow') (BarB C ow') (wipe σ C.cv) H t' v oi) ∧ TIs C.K (Bar C ow') (BarB C ow') (wipe σ C.cv) H x v on)
    (n1 : oi.Nodup) (n2 : on.Nodup) (dj : ∀ a, a ∈ oi → a ∉ on) (s1 : ∀ a, a ∈ oi → a ∈ ow i) (s2 : ∀ a, a ∈ on → a ∈ ow i) : SS C σ H (ρ.set i t') (vs ++ [v]) (τ ++ [x]) := by
  have hi := (List.getElem?_eq_some_iff.mp ei).1
  let n := ρ.length + τ.length
  have hin : i ≠ n := by omega
  refine ⟨fun k => if k = i then oi else if k = n then on else if k < n then ow k else [], I.next (S := fun k => k = i ∨ n ≤ k) (by simp [I.ln]) (by simp [I.lt]) (noAliL_set I.na na) (fun k hk => ?_) (fun k u hk e => ?_) (by simp)
    (fun b o e _ => e) (fun b z => z) (fun k a hk h => ?_) (fun m1 m2 k u hk e => ?_) (fun k hk => ?_) (fun j k a hj hk hjk h => ?_) (fun k a hk h => ?_) (fun _ _ => rfl)⟩
  · have h1 : k ≠ i := fun z => hk (.inl z)
    have h2 : k < n := by by_cases z : k < n; exact z; exact absurd (.inr (by omega)) hk
    simp only [if_neg h1, if_neg (show k ≠ n by omega), if_pos h2]
  · have h1 : k ≠ i := fun z => hk (.inl z)
    have h2 : k < n := by by_cases z : k < n; exact z; exact absurd (.inr (by omega)) hk
    refine ⟨?_, ?_, .inl rfl⟩
    · rw [← List.append_assoc, List.getElem?_append_left (by simp; omega)] at e
      by_cases hk2 : k < ρ.length
      · rw [List.getElem?_append_left (by simpa using hk2), List.getElem?_set_ne (Ne.symm h1)] at e
        rw [List.getElem?_append_left hk2]; exact e
      · rw [List.getElem?_append_right (by simp; omega)] at e
        rw [List.getElem?_append_right (by omega)]
        simpa using e
    · rw [List.map_append, ← List.append_assoc, List.getElem?_append_left (by simp [← I.ln, ← I.lt]; omega)]
  · rcases hk with rfl | hk
    · simp only [if_true] at h
      exact .inl ⟨_, .inl rfl, s1 a h⟩
    · simp only [if_neg (show k ≠ i by omega)] at h
      by_cases z : k = n
      · simp only [z, if_true] at h
        exact .inl ⟨i, .inl rfl, s2 a h⟩
      · simp [if_neg z, show ¬ k < n by omega] at h
  · have R := rel _ m1 m2 fun b hb hbi => ?_
    rotate_left
    · rcases hb with ⟨k, hb⟩ | hb
      · by_cases z1 : k = i
        · simp only [z1, if_true] at hb; exact .inl hb
        · by_cases z2 : k = n
          · simp only [z2, if_neg (Ne.symm hin), if_true] at hb; exact .inr hb
          · simp only [if_neg z1, if_neg z2] at hb
            by_cases z3 : k < n
            · simp only [if_pos z3] at hb; exact absurd hb (I.dj i k b (Ne.symm z1) hbi)
            · simp [if_neg z3] at hb
      · exact absurd hb (I.nb0 hbi)
    rcases hk with rfl | hk
    · rw [List.getElem?_append_left (by simpa using hi), List.getElem?_set_self hi] at e
      cases e
      rcases R.1 with z | z
      · exact .inl ⟨z, by simpa using hi⟩
      · refine .inr ⟨v, ?_, ?_⟩
        · rw [List.getElem?_append_left (by rw [← I.ln]; exact hi)]; exact ev
        · simp only [if_true]; exact z
    · by_cases z : k = n
      · rw [z] at e ⊢
        rw [← List.append_assoc, List.getElem?_append_right (by simp; omega)] at e
        simp [n] at e
        subst e
        refine .inr ⟨v, ?_, ?_⟩
        · rw [List.map_append, ← List.append_assoc, List.getElem?_append_right (by simp [← I.ln, ← I.lt]; omega)]
          simp [← I.ln, ← I.lt, n]
        · simp only [if_neg (Ne.symm hin), if_true]; exact R.2
      · have : k < (ρ.set i t' ++ (τ ++ [x])).length := (List.getElem?_eq_some_iff.mp e).1
        simp at this
        omega
  · rcases hk with rfl | hk
    · simp only [if_true]; exact n1
    · simp only [if_neg (show k ≠ i by omega)]
      by_cases z : k = n
      · simp only [z, if_true]; exact n2
      · simp [if_neg z, show ¬ k < n by omega]
  · rcases hj with rfl | hj
    · simp only [if_true] at h
      simp only [if_neg (Ne.symm hjk)]
      by_cases z : k = n
      · simp only [z, if_true]; exact dj a h
      · have : n ≤ k := hk.resolve_left (Ne.symm hjk)
        simp [if_neg z, show ¬ k < n by omega]
    · simp only [if_neg (show j ≠ i by omega)] at h
      by_cases z : j = n
      · simp only [z, if_true] at h
        rcases hk with rfl | hk
        · simp only [if_true]; exact fun q => dj a q h
        · simp [show k ≠ i by omega, show k ≠ n by omega, show ¬ k < n by omega]
      · simp [if_neg z, show ¬ j < n by omega] at h
  · have : ∃ j, a ∈ ow j := by
      rcases hk with rfl | hk
      · simp only [if_true] at h; exact ⟨_, s1 a h⟩
      · simp only [if_neg (show k ≠ i by omega)] at h
        by_cases z : k = n
        · simp only [z, if_true] at h; exact ⟨i, s2 a h⟩
        · simp [if_neg z, show ¬ k < n by omega] at h
    obtain ⟨j, q⟩ := this
    exact I.ot j a q
end
/-- reading a slot, its list frozen for good -/
def dVarF (i : Nat) : DE := fun ρ Q => match ρ[i]? with
  | some (.dat d) => Q (.dat d) ρ
  | some (.bor d) => Q (.bor d) ρ
  | some .emp => False
  | none => False
  | some t => wD (frz t) fun d => Q (.dat d) (ρ.set i (.dat d))
/-- reading a slot, what it owns moved out -/
def dVarM (i : Nat) : DE := fun ρ Q => match ρ[i]? with
  | some .emp => False
  | none => False
  | some t => Q t (ρ.set i .emp)
section
variable {C : Ctx}
theorem sim_varF (i : Nat) : Sim C (tVar i) (dVarF i) := fun σ H ρ vs τ Qd Q I h k => by
  unfold dVarF at h
  obtain ⟨ow, J⟩ := id I
  cases e : ρ[i]? with
  | none => rw [e] at h; exact h.elim
  | some t =>
    rw [e] at h
    rcases J.slot e with rfl | ⟨v, hv, r⟩
    · exact h.elim
    · have go : wD (frz t) (fun d => Qd (.dat d) (ρ.set i (.dat d))) → tVar i σ H Q := fun h => by
        obtain ⟨d, e2, h⟩ := wD_some h
        refine ⟨v, hv, k v H _ _ (J.slotPush (t' := .dat d) (x := .dat d) (oi := []) (on := []) e hv rfl (fun ow' m1 m2 hb => ?_) (by simp) (by simp) (fun a z => by simp at z) (fun a z => by simp at z) fun a z => by simp at z) h⟩
        have q : DIs C.K (Bar C ow') H d v := r.frz J.tupOk (fun b o q n => (m1 b o q n).2) (fun a ha z => by rcases hb a z ha with w | w <;> simp at w) e2
        exact ⟨.inr (.dat q), .dat q⟩
      have at_ : ∀ {t : T} {d : D}, ρ[i]? = some t → t = .dat d → Qd (.dat d) ρ → tVar i σ H Q := fun {t d} et ed h => ⟨v, hv, k v H _ ρ (I.push0 fun ow' J' => by
          rcases J'.slot et with z | ⟨w, hw, r⟩
          · rw [ed] at z; cases z
          · rw [hv] at hw; cases hw
            rw [ed] at r
            exact .dat r.dat_inv) h⟩
      cases t with
      | dat d => exact at_ e rfl h
      | bor d => exact ⟨v, hv, k v H _ ρ (I.push0 fun ow' J' => by
          rcases J'.slot e with z | ⟨w, hw, r⟩
          · cases z
          · rw [hv] at hw; cases hw
            exact .bor r.bor_inv) h⟩
      | emp => exact h.elim
      | own _ => exact go h
      | lbo _ => exact go h
      | lst _ => exact go h
      | tup _ => exact go h
      | dct _ => exact go h
      | scr _ => exact go h
      | exc _ => exact go h
      | ins _ _ _ => exact go h
      | ali _ => exact go h
theorem sim_varM (i : Nat) : Sim C (tVar i) (dVarM i) := fun σ H ρ vs τ Qd Q I h k => by
  unfold dVarM at h
  obtain ⟨ow, J⟩ := id I
  cases e : ρ[i]? with
  | none => rw [e] at h; exact h.elim
  | some t =>
    rw [e] at h
    rcases J.slot e with rfl | ⟨v, hv, r⟩
    · exact h.elim
    · have go : Qd t (ρ.set i .emp) → tVar i σ H Q := fun h => by
        refine ⟨v, hv, k v H _ _ (J.slotPush (t' := .emp) (x := t) (oi := []) (on := ow i) e hv rfl (fun ow' m1 m2 hb => ⟨.inl rfl, r.move m1 m2 (fun _ _ _ q => q) (.inl rfl)⟩) (by simp) (J.nd i) (fun a z => by simp at z) (fun a z => by simp at z) fun a z => z) h⟩
      cases t <;> first | exact h.elim | exact go h
variable {x : Str} {pos : Pos}
theorem de_varF (i : Nat) (hN : C.X.N[i]? = some x := by rfl) (hv : Vis C.X.env.scope x := by first | exact Or.inl rfl | exact Or.inr (Or.inl rfl) | exact Or.inr (Or.inr rfl)) (hd : (x == ("__debug__" : Str)) = false := by decide)
    (hcd : (x == ("__classdict__" : Str)) = false := by decide) : DPE C (.Name x pos) (dVarF i) := ⟨_, pe_var hN hv hd hcd, sim_varF i⟩
theorem de_varM (i : Nat) (hN : C.X.N[i]? = some x := by rfl) (hv : Vis C.X.env.scope x := by first | exact Or.inl rfl | exact Or.inr (Or.inl rfl) | exact Or.inr (Or.inr rfl)) (hd : (x == ("__debug__" : Str)) = false := by decide)
    (hcd : (x == ("__classdict__" : Str)) = false := by decide) : DPE C (.Name x pos) (dVarM i) := ⟨_, pe_var hN hv hd hcd, sim_varM i⟩
end
end Ds
namespace Ds
open PySem L2

/-- through an alias -/
def dr (ρ : List T) : T → T
  | .ali i => (ρ[i]?).getD .emp
  | t => t
section
variable {C : Ctx} {σ : St} {H H' : Hp} {ρ ρ' : List T} {vs xs : List V} {τ ts : List T} {ow : Nat → List Addr} {x y : T} {u v : V}
theorem SI.dr (I : SI C σ H ρ vs τ ow) {j : Nat} (e : τ[j]? = some x) (ev : vs[j]? = some v) : dr ρ x = .emp ∨ ∃ os, TIs C.K (Bar C ow) (BarB C ow) (wipe σ C.cv) H (dr ρ x) v os := by
  obtain ⟨w, hw, r⟩ := I.temp e
  rw [ev] at hw; cases hw
  generalize ow (ρ.length + j) = os at r
  cases r with
  | ali h =>
    rename_i i
    have ed : Ds.dr ρ (.ali i) = (ρ[i]?).getD .emp := rfl
    rw [ed]
    cases e2 : ρ[i]? with
    | none => exact .inl rfl
    | some t =>
      rcases I.slot e2 with rfl | ⟨w, hw, r⟩
      · exact .inl rfl
      · rw [(wipe_some h).1] at hw; cases hw
        exact .inr ⟨_, r⟩
  | dat h => exact .inr ⟨_, .dat h⟩
  | bor h => exact .inr ⟨_, .bor h⟩
  | own h t => exact .inr ⟨_, .own h t⟩
  | lbo h t => exact .inr ⟨_, .lbo h t⟩
  | lst h t => exact .inr ⟨_, .lst h t⟩
  | tup h n t => exact .inr ⟨_, .tup h n t⟩
  | dct h t q => exact .inr ⟨_, .dct h t q⟩
  | scr h => exact .inr ⟨_, .scr h⟩
  | exc h => exact .inr ⟨_, .exc h⟩
  | ins n e7 k t => exact .inr ⟨_, .ins n e7 k t⟩
theorem SI.dr1 (I : SI C σ H ρ (vs ++ [v]) (τ ++ [x]) ow) : Ds.dr ρ x = .emp ∨ ∃ os, TIs C.K (Bar C ow) (BarB C ow) (wipe σ C.cv) H (Ds.dr ρ x) v os := I.dr (j := τ.length) (by simp) (by rw [I.lt1]; simp)
theorem SI.dr2 (I : SI C σ H ρ (vs ++ [u] ++ [v]) (τ ++ [x] ++ [y]) ow) : Ds.dr ρ x = .emp ∨ ∃ os, TIs C.K (Bar C ow) (BarB C ow) (wipe σ C.cv) H (Ds.dr ρ x) u os := by
  have h := I.lt1
  simp at h
  exact I.dr (j := τ.length) (by simp) (by rw [h]; simp)

/-- the items of a list whose items may be kept -/
def wL (t : T) (k : List D → Prop) : Prop := match t with
  | .own ds => k ds
  | .dat (.list ds) => k ds
  | .bor (.list ds) => safeL ds = true ∧ k ds
  | .lbo ds => safeL ds = true ∧ k ds
  | .lst ts => wO (datL ts) k
  | _ => False
theorem SI.wL (I : SI C σ H ρ vs τ ow) {t : T} {os : List Addr} {k : List D → Prop} (r : TIs C.K (Bar C ow) (BarB C ow) (wipe σ C.cv) H t v os) (h : Ds.wL t k) : ∃ l xs ds, v = .ref l ∧ H l = some (.lst xs) ∧ DIsL C.K (Bar C ow) H ds xs ∧ k ds := by
  cases r with
  | own e t => exact ⟨_, _, _, rfl, e, t, h⟩
  | lbo e t => exact ⟨_, _, _, rfl, e, I.safeL t h.1, h.2⟩
  | lst e t =>
    obtain ⟨ds, e2, h⟩ := wO_some h
    exact ⟨_, _, _, rfl, e, datL_is t e2, h⟩
  | dat d =>
    cases d with
    | list e n t => exact ⟨_, _, _, rfl, e, t, h⟩
    | _ => exact h.elim
  | bor d =>
    cases d with
    | list e n t => exact ⟨_, _, _, rfl, e, I.safeL t h.1, h.2⟩
    | _ => exact h.elim
  | _ => exact h.elim
def wT (t : T) (k : List D → Prop) : Prop := match t with
  | .dat (.tuple ds) => k ds
  | .bor (.tuple ds) => safeL ds = true ∧ k ds
  | .tup ts => wO (datL ts) k
  | _ => False
theorem SI.wT (I : SI C σ H ρ vs τ ow) {t : T} {os : List Addr} {k : List D → Prop} (r : TIs C.K (Bar C ow) (BarB C ow) (wipe σ C.cv) H t v os) (h : Ds.wT t k) : ∃ l xs ds, v = .ref l ∧ TB C.K (Bar C ow) H l xs ∧ DIsL C.K (Bar C ow) H ds xs ∧ k ds := by
  cases r with
  | tup e n t =>
    obtain ⟨ds, e2, h⟩ := wO_some h
    exact ⟨_, _, _, rfl, .inl ⟨.inl e, n⟩, datL_is t e2, h⟩
  | dat d =>
    cases d with
    | tuple e t => exact ⟨_, _, _, rfl, e, t, h⟩
    | _ => exact h.elim
  | bor d =>
    cases d with
    | tuple e t =>
      refine ⟨_, _, _, rfl, ?_, I.safeL t h.1, h.2⟩
      rcases e with ⟨r, n⟩ | k
      · exact .inl ⟨r, I.tupOk _ _ r n⟩
      · exact .inr k
    | _ => exact h.elim
  | _ => exact h.elim
theorem wL_emp {k : List D → Prop} (h : Ds.wL .emp k) : False := h
theorem wT_emp {k : List D → Prop} (h : Ds.wT .emp k) : False := h
end

section
variable {C : Ctx} {a b : Expr} {fa fb : DE} {pos : Pos}
/-- a + b -/
def dAdd : DO2 := fun ρ x y Q => match lk ρ x, lk ρ y with
  | some (.int i), some (.int j) => Q (.dat (.int (i + j))) ρ
  | some (.str i), some (.str j) => i.length + j.length ≤ sizeLine ∧ Q (.dat (.str (i ++ j))) ρ
  | some (.list _), some (.list _) => wL (dr ρ x) fun ds => wL (dr ρ y) fun es => ds.length + es.length ≤ sizeLine ∧ Q (.own (ds ++ es)) ρ
  | some (.tuple _), some (.tuple _) => wT (dr ρ x) fun ds => wT (dr ρ y) fun es => ds.length + es.length ≤ sizeLine ∧ Q (.dat (.tuple (ds ++ es))) ρ
  | _, _ => False
theorem DIsL.nil_inv {K : PySem.W.Frag} {B : Addr → Prop} {H : Hp} {ds : List D} (h : DIsL K B H ds []) : ds = [] := by cases h; rfl
theorem op_addAll : OpR C.X (binaryOp .Add) (fun x y H Q => (∃ i j, x = .int i ∧ y = .int j ∧ Q (.int (i + j)) H) ∨ (∃ i j, x = .str i ∧ y = .str j ∧ i.length + j.length ≤ sizeLine ∧ Q (.str (i ++ j)) H) ∨ rCat x y H Q ∨ rCatA C.X.K x y H Q) :=
  OpR.or op_add (OpR.or op_add_str (OpR.or op_cat op_catA))
theorem de_add (ha : DPE C a fa) (hb : DPE C b fb) : DPE C (.BinOp a .Add b pos) (dOp dAdd fa fb) :=
  de_op op_addAll (by
    intro σ H ρ vs τ u v x y Qd Q I q k
    unfold dAdd at q
    cases e1 : lk ρ x with
    | none => rw [e1] at q; exact q.elim
    | some d =>
      cases e2 : lk ρ y with
      | none => rw [e1, e2] at q; cases d <;> exact q.elim
      | some e =>
        rw [e1, e2] at q
        have du := I.lk2 e1
        have ev := I.lk1 e2
        obtain ⟨ow, J⟩ := id I
        have hτ : τ.length = vs.length := by have := J.lt; simp at this; omega
        have J' : SI C σ H ρ (vs ++ [u, v]) (τ ++ [x, y]) ow := by simpa using J
        cases d <;> cases e <;> first | exact q.elim | skip
        · rw [du.int_eq, ev.int_eq]
          exact .inl ⟨_, _, rfl, rfl, k _ _ _ _ (I.pop2.int _) q⟩
        · rw [du.str_eq, ev.str_eq]
          exact .inr (.inl ⟨_, _, rfl, rfl, q.1, k _ _ _ _ (I.pop2.str _) q.2⟩)
        · rcases J.dr2 with z | ⟨o1, r1⟩
          · rw [z] at q; exact q.elim
          · rcases J.dr1 with z | ⟨o2, r2⟩
            · obtain ⟨_, _, _, _, _, _, q⟩ := J.wL r1 q
              rw [z] at q; exact q.elim
            · obtain ⟨l, zs, ds, rfl, hl, d1, q⟩ := J.wL r1 q
              obtain ⟨l2, zs2, es, rfl, hl2, d2, q⟩ := J.wL r2 q
              refine .inr (.inr (.inl ⟨l, l2, zs, zs2, rfl, rfl, hl, hl2, by rw [← d1.length, ← d2.length]; exact q.1, fun p hp => ?_⟩))
              exact k _ _ _ _ (J'.newL hτ hp (d1.append d2)) q.2
        · rcases J.dr2 with z | ⟨o1, r1⟩
          · rw [z] at q; exact q.elim
          · rcases J.dr1 with z | ⟨o2, r2⟩
            · obtain ⟨_, _, _, _, _, _, q⟩ := J.wT r1 q
              rw [z] at q; exact q.elim
            · obtain ⟨l, zs, ds, rfl, hl, d1, q⟩ := J.wT r1 q
              obtain ⟨l2, zs2, es, rfl, hl2, d2, q⟩ := J.wT r2 q
              refine .inr (.inr (.inr ⟨l, l2, zs, zs2, rfl, rfl, hl.sq, hl2.sq, by rw [← d1.length, ← d2.length]; exact q.1, fun z => ?_, fun z1 z2 => ?_, fun z1 z2 p hp => ?_⟩))
              · subst z
                refine k _ _ _ _ (J'.oneD hτ (d := .tuple (ds ++ es)) ?_) q.2
                rw [d1.nil_inv]; exact .tuple hl2 d2
              · subst z2
                refine k _ _ _ _ (J'.oneD hτ (d := .tuple (ds ++ es)) ?_) q.2
                rw [d2.nil_inv, List.append_nil]; exact .tuple hl d1
              · exact k _ _ _ _ (J'.newT hτ hp (d1.append d2)) q.2) ha hb

/-- a * b: ints; a list, a tuple times an int -/
def dMul : DO2 := fun ρ x y Q => match lk ρ x, lk ρ y with
  | some (.int i), some (.int j) => CMulW i j ∧ Q (.dat (.int (i * j))) ρ
  | some (.list _), some (.int k) => wL (dr ρ x) fun ds => (-(2 ^ 63) ≤ k ∧ k < 2 ^ 63 ∧ ds.length * k.toNat ≤ sizeLine) ∧ Q (.own (List.replicate k.toNat ds).flatten) ρ
  | some (.tuple _), some (.int k) => wT (dr ρ x) fun ds => (ds ≠ [] ∧ 2 ≤ k ∧ k ≤ 1000 ∧ ds.length ≤ 1000) ∧ Q (.dat (.tuple (List.replicate k.toNat ds).flatten)) ρ
  | _, _ => False
theorem DIsL.rep {K : PySem.W.Frag} {B : Addr → Prop} {H : Hp} {ds : List D} {vs : List V} (h : DIsL K B H ds vs) : ∀ k : Nat, DIsL K B H (List.replicate k ds).flatten (List.replicate k vs).flatten
  | 0 => .nil
  | k + 1 => by
    rw [List.replicate_succ, List.replicate_succ, List.flatten_cons, List.flatten_cons]
    exact h.append (h.rep k)
theorem op_mulAll : OpR C.X (binaryOp .Mult) (fun x y H Q => rI CMulW (fun i j => .int (i * j)) x y H Q ∨ rRep x y H Q ∨ rRepT C.X.K x y H Q) := OpR.or op_mulW (OpR.or op_rep op_repT)
theorem de_mul (ha : DPE C a fa) (hb : DPE C b fb) : DPE C (.BinOp a .Mult b pos) (dOp dMul fa fb) :=
  de_op op_mulAll (by
    intro σ H ρ vs τ u v x y Qd Q I q k
    unfold dMul at q
    cases e1 : lk ρ x with
    | none => rw [e1] at q; exact q.elim
    | some d =>
      cases e2 : lk ρ y with
      | none => rw [e1, e2] at q; cases d <;> exact q.elim
      | some e =>
        rw [e1, e2] at q
        have du := I.lk2 e1
        have ev := I.lk1 e2
        obtain ⟨ow, J⟩ := id I
        have hτ : τ.length = vs.length := by have := J.lt; simp at this; omega
        have J' : SI C σ H ρ (vs ++ [u, v]) (τ ++ [x, y]) ow := by simpa using J
        cases d <;> cases e <;> first | exact q.elim | skip
        · rw [du.int_eq, ev.int_eq]
          exact .inl ⟨_, _, rfl, rfl, q.1, k _ _ _ _ (I.pop2.int _) q.2⟩
        · rcases J.dr2 with z | ⟨o1, r1⟩
          · rw [z] at q; exact q.elim
          · obtain ⟨l, zs, ds, rfl, hl, d1, q⟩ := J.wL r1 q
            rw [ev.int_eq]
            refine .inr (.inl ⟨l, _, zs, rfl, rfl, hl, q.1.1, q.1.2.1, by rw [← d1.length]; exact q.1.2.2, fun p hp => ?_⟩)
            exact k _ _ _ _ (J'.newL hτ hp (d1.rep _)) q.2
        · rcases J.dr2 with z | ⟨o1, r1⟩
          · rw [z] at q; exact q.elim
          · obtain ⟨l, zs, ds, rfl, hl, d1, q⟩ := J.wT r1 q
            rw [ev.int_eq]
            refine .inr (.inr ⟨l, _, zs, rfl, rfl, hl.sq, fun z => q.1.1 ?_, q.1.2.1, q.1.2.2.1, by rw [← d1.length]; exact q.1.2.2.2, fun p hp => ?_⟩)
            · subst z; exact d1.nil_inv
            · exact k _ _ _ _ (J'.newT hτ hp (d1.rep _)) q.2) ha hb

/-! ### a[i] -/
theorem atI_getD {K : PySem.W.Frag} {B : Addr → Prop} {H : Hp} {ds : List D} {zs : List V} {i : Int} {d : D} (h : DIsL K B H ds zs) (e : atI ds i = some d) : ∃ v, atI zs i = some v ∧ DIs K B H d v := by
  unfold atI at e ⊢
  rw [h.length] at e
  cases e2 : ixN zs.length i with
  | none => rw [e2] at e; simp at e
  | some j =>
    rw [e2] at e
    exact h.get e
theorem TIsL.getX {K : PySem.W.Frag} {B Bb : Addr → Prop} {σ : St} {H : Hp} : ∀ {ts : List T} {vs : List V} {os : List Addr} {j : Nat} {t : T}, TIsL K B Bb σ H ts vs os → ts[j]? = some t → ∃ v o, vs[j]? = some v ∧ TIs K B Bb σ H t v o
  | _, _, _, _, _, .nil, e => by simp at e
  | _, _, _, 0, _, .cons r _, e => by simp at e; subst e; exact ⟨_, _, rfl, r⟩
  | _, _, _, j + 1, _, .cons _ t, e => by
    obtain ⟨v, o, h1, h2⟩ := TIsL.getX (j := j) t (by simpa using e)
    exact ⟨v, o, by simpa using h1, h2⟩
theorem atI_getT {K : PySem.W.Frag} {B Bb : Addr → Prop} {σ : St} {H : Hp} {ts : List T} {zs : List V} {os : List Addr} {i : Int} {t : T} (h : TIsL K B Bb σ H ts zs os) (e : atI ts i = some t) : ∃ v o, atI zs i = some v ∧ TIs K B Bb σ H t v o := by
  unfold atI at e ⊢
  rw [h.length] at e
  cases e2 : ixN zs.length i with
  | none => rw [e2] at e; simp at e
  | some j =>
    rw [e2] at e
    exact h.getX e
def wI : Option D → (Int → Prop) → Prop
  | some (.int i), k => k i
  | _, _ => False
theorem wI_some {o : Option D} {k : Int → Prop} (h : wI o k) : ∃ i, o = some (.int i) ∧ k i := by
  unfold wI at h
  split at h
  · exact ⟨_, rfl, h⟩
  · exact h.elim
/-- an item that is data, or borrowed -/
def kT (t : T) (k : T → Prop) : Prop := match t with
  | .dat d => k (.dat d)
  | .bor d => k (.bor d)
  | _ => False
/-- an item by its place, from the end where the place is negative; it computes -/
def gI {α : Type} (l : List α) : Int → Option α
  | .ofNat k => l[k]?
  | .negSucc k => l.reverse[k]?
theorem gI_at {α : Type} (l : List α) (i : Int) : gI l i = atI l i := by
  cases i with
  | ofNat k =>
    show l[k]? = _
    unfold atI ixN
    rw [if_pos (by simp)]
    by_cases h : k < l.length
    · rw [if_pos (by simpa using h)]; rfl
    · rw [if_neg (by simpa using h), List.getElem?_eq_none (by omega)]; rfl
  | negSucc k =>
    show l.reverse[k]? = _
    unfold atI ixN
    rw [if_neg (by omega)]
    by_cases h : k < l.length
    · rw [if_pos (by omega), List.getElem?_reverse h]
      show _ = l[(Int.negSucc k + (l.length : Int)).toNat]?
      congr 1
      omega
    · rw [if_neg (by omega), List.getElem?_eq_none (by simpa using h)]; rfl
def dIx : DO2 := fun ρ x y Q => wI (lk ρ y) fun i => match dr ρ x with
  | .dat (.list ds) => wO (gI ds i) fun d => Q (.dat d) ρ
  | .dat (.tuple ds) => wO (gI ds i) fun d => Q (.dat d) ρ
  | .own ds => wO (gI ds i) fun d => Q (.dat d) ρ
  | .bor (.list ds) => wO (gI ds i) fun d => Q (.bor d) ρ
  | .bor (.tuple ds) => wO (gI ds i) fun d => Q (.bor d) ρ
  | .lbo ds => wO (gI ds i) fun d => Q (.bor d) ρ
  | .lst ts => wO (gI ts i) fun t => kT t fun t => Q t ρ
  | .tup ts => wO (gI ts i) fun t => kT t fun t => Q t ρ
  | .dat (.str z) => z.length ≤ sizeLine ∧ wO (gI z.cps.toList i) fun c => Q (.dat (.str ⟨#[c]⟩)) ρ
  | .bor (.str z) => z.length ≤ sizeLine ∧ wO (gI z.cps.toList i) fun c => Q (.dat (.str ⟨#[c]⟩)) ρ
  | _ => False
theorem sim_ix : SimR2 C (rIx C.K) dIx := by
  intro σ H ρ vs τ u v x y Qd Q I q k
  unfold dIx at q
  simp only [gI_at] at q
  obtain ⟨i, e2, q⟩ := wI_some q
  have ev := I.lk1 e2
  rw [ev.int_eq]
  obtain ⟨ow, J⟩ := id I
  have hτ : τ.length = vs.length := by have := J.lt; simp at this; omega
  have J' : SI C σ H ρ (vs ++ [u, v]) (τ ++ [x, y]) ow := by simpa using J
  have kk : ∀ {t : T} {w : V} {o : List Addr}, TIs C.K (Bar C ow) (BarB C ow) (wipe σ C.cv) H t w o → kT t (fun t => Qd t ρ) → Q w H := fun {t w o} r h => by
    cases r with
    | dat d => exact k _ _ _ _ (J'.oneD hτ d) h
    | bor d => exact k _ _ _ _ (J'.oneB hτ d) h
    | _ => exact h.elim
  rcases J.dr2 with z | ⟨os, r⟩
  · rw [z] at q; exact q.elim
  · generalize Ds.dr ρ x = t at q r
    cases r with
    | dat d =>
      cases d with
      | list e n t =>
        obtain ⟨d, ed, q⟩ := wO_some q
        obtain ⟨w, hw, dw⟩ := atI_getD t ed
        exact .inl ⟨_, _, _, w, rfl, rfl, .of e, hw, k _ _ _ _ (J'.oneD hτ dw) q⟩
      | tuple e t =>
        obtain ⟨d, ed, q⟩ := wO_some q
        obtain ⟨w, hw, dw⟩ := atI_getD t ed
        exact .inr (.inl ⟨_, _, _, w, rfl, rfl, e.sq, hw, k _ _ _ _ (J'.oneD hτ dw) q⟩)
      | str z =>
        obtain ⟨hz, q⟩ := q
        obtain ⟨c, ec, q⟩ := wO_some q
        exact .inr (.inr ⟨z, _, c, rfl, rfl, hz, ec, k _ _ _ _ (I.pop2.str _) q⟩)
      | _ => exact q.elim
    | bor d =>
      cases d with
      | list e n t =>
        obtain ⟨d, ed, q⟩ := wO_some q
        obtain ⟨w, hw, dw⟩ := atI_getD t ed
        exact .inl ⟨_, _, _, w, rfl, rfl, .of e, hw, k _ _ _ _ (J'.oneB hτ dw) q⟩
      | tuple e t =>
        obtain ⟨d, ed, q⟩ := wO_some q
        obtain ⟨w, hw, dw⟩ := atI_getD t ed
        exact .inr (.inl ⟨_, _, _, w, rfl, rfl, e.sq, hw, k _ _ _ _ (J'.oneB hτ dw) q⟩)
      | str z =>
        obtain ⟨hz, q⟩ := q
        obtain ⟨c, ec, q⟩ := wO_some q
        exact .inr (.inr ⟨z, _, c, rfl, rfl, hz, ec, k _ _ _ _ (I.pop2.str _) q⟩)
      | _ => exact q.elim
    | own e t =>
      obtain ⟨d, ed, q⟩ := wO_some q
      obtain ⟨w, hw, dw⟩ := atI_getD t ed
      exact .inl ⟨_, _, _, w, rfl, rfl, .of e, hw, k _ _ _ _ (J'.oneD hτ dw) q⟩
    | lbo e t =>
      obtain ⟨d, ed, q⟩ := wO_some q
      obtain ⟨w, hw, dw⟩ := atI_getD t ed
      exact .inl ⟨_, _, _, w, rfl, rfl, .of e, hw, k _ _ _ _ (J'.oneB hτ dw) q⟩
    | lst e t =>
      obtain ⟨d, ed, q⟩ := wO_some q
      obtain ⟨w, o, hw, dw⟩ := atI_getT t ed
      exact .inl ⟨_, _, _, w, rfl, rfl, .of e, hw, kk dw q⟩
    | tup e n t =>
      obtain ⟨d, ed, q⟩ := wO_some q
      obtain ⟨w, o, hw, dw⟩ := atI_getT t ed
      exact .inr (.inl ⟨_, _, _, w, rfl, rfl, .of e, hw, kk dw q⟩)
    | _ => exact q.elim
theorem de_ix (ha : DPE C a fa) (hb : DPE C b fb) (hs : PlainIx b := by exact fun _ _ => rfl) : DPE C (.Subscript a b pos) (dOp dIx fa fb) :=
  let ⟨_, pa, sa⟩ := ha.ex; let ⟨_, pb, sb⟩ := hb.ex; ⟨_, pe_ix ix_seq pa pb hs, sim_op sim_ix sa sb⟩

/-! ### a[i:j] -/
def cut {α : Type} (xs : List α) (lo hi : Option Int) : List α := (xs.drop (HT.sIx xs.length 0 lo)).take (HT.sIx xs.length xs.length hi - HT.sIx xs.length 0 lo)
theorem DIsL.cut {K : PySem.W.Frag} {B : Addr → Prop} {H : Hp} {ds : List D} {vs : List V} (h : DIsL K B H ds vs) (lo hi : Option Int) : DIsL K B H (Ds.cut ds lo hi) (cutV vs lo hi) := by
  unfold Ds.cut cutV
  rw [h.length]
  exact (h.drop _).take _
theorem cut_map (ns : List Int) (lo hi : Option Int) : cutV (ns.map V.int) lo hi = (cut ns lo hi).map V.int := by
  unfold cut cutV
  simp
theorem ints_is {K : PySem.W.Frag} {B : Addr → Prop} {H : Hp} : ∀ {ns : List Int}, DIsL K B H (ns.map PyData.int) (ns.map V.int)
  | [] => .nil
  | _ :: _ => .cons (.int _) ints_is
abbrev DOp := List T → (Option Int → List T → Prop) → Prop
def SimO (C : Ctx) (t : TO) (f : DOp) : Prop := ∀ (σ : St) (H : Hp) (ρ : List T) (vs : List V) (τ : List T) (Qd : Option Int → List T → Prop) (Q : Option Int → Hp → Prop), SS C σ H ρ vs τ → f ρ Qd →
  (∀ o H' ρ', SS C σ H' ρ' vs τ → Qd o ρ' → Q o H') → t σ H Q
structure DPO (C : Ctx) (e : Option Expr) (f : DOp) : Prop where
  ex : ∃ t, PO C.X e t ∧ SimO C t f
def dNoPart : DOp := fun ρ Q => Q none ρ
def dPart (f : DE) : DOp := fun ρ Q => f ρ fun x ρ1 => wI (lk ρ1 x) fun i => Q (some i) ρ1
theorem do_none : DPO C none dNoPart := ⟨_, po_none, fun σ H ρ vs τ Qd Q I h k => k _ _ _ I h⟩
theorem do_some {e : Expr} {f : DE} (h : DPE C e f) : DPO C (some e) (dPart f) :=
  let ⟨_, p, s⟩ := h.ex
  ⟨_, po_some p, fun σ H ρ vs τ Qd Q I q k => s σ H ρ vs τ _ _ I q fun v H1 x ρ1 I1 q1 => by
    obtain ⟨i, e1, q1⟩ := wI_some q1
    exact ⟨i, (I1.lk1 e1).int_eq, k _ _ _ I1.pop q1⟩⟩
def dSl (fa : DE) (fl fh : DOp) : DE := fun ρ Q => fa ρ fun x ρ1 => fl ρ1 fun lo ρ2 => fh ρ2 fun hi ρ3 => match dr ρ3 x with
  | .own ds => Q (.own (cut ds lo hi)) ρ3
  | .dat (.list ds) => Q (.own (cut ds lo hi)) ρ3
  | .bor (.list ds) => Q (.lbo (cut ds lo hi)) ρ3
  | .lbo ds => Q (.lbo (cut ds lo hi)) ρ3
  | .lst ts => wO (datL ts) fun ds => Q (.own (cut ds lo hi)) ρ3
  | .dat (.tuple ds) => Q (.dat (.tuple (cut ds lo hi))) ρ3
  | .bor (.tuple ds) => Q (.bor (.tuple (cut ds lo hi))) ρ3
  | .scr ns => Q (.own ((cut ns lo hi).map .int)) ρ3
  | .dat (.str z) => z.length ≤ sizeLine ∧ Q (.dat (.str (cutS z lo hi))) ρ3
  | .bor (.str z) => z.length ≤ sizeLine ∧ Q (.dat (.str (cutS z lo hi))) ρ3
  | _ => False
theorem cut_whole {α : Type} {xs : List α} {lo hi : Option Int} (h : HT.sIx xs.length 0 lo = 0 ∧ HT.sIx xs.length xs.length hi = xs.length) : cut xs lo hi = xs := by
  unfold cut
  rw [h.1, h.2]; simp
theorem de_slice {lo hi : Option Expr} {fl fh : DOp} {p2 : Pos} (ha : DPE C a fa) (hl : DPO C lo fl) (hh : DPO C hi fh) : DPE C (.Subscript a (.Slice lo hi none p2) pos) (dSl fa fl fh) :=
  let ⟨_, pa, sa⟩ := ha.ex; let ⟨_, pl, sl⟩ := hl.ex; let ⟨_, ph, sh⟩ := hh.ex
  ⟨_, pe_slice (sl_list.or (sl_tupA.or sl_str)) pa pl ph, fun σ H ρ vs τ Qd Q I q k => sa σ H ρ vs τ _ _ I q fun v H1 x ρ1 I1 q1 => sl σ H1 ρ1 _ _ _ _ I1 q1 fun l H2 ρ2 I2 q2 => sh σ H2 ρ2 _ _ _ _ I2 q2 fun h H3 ρ3 I3 q3 => by
    obtain ⟨ow, J⟩ := id I3
    rcases J.dr1 with z | ⟨os, r⟩
    · rw [z] at q3; exact q3.elim
    · generalize Ds.dr ρ3 x = t at q3 r
      cases r with
      | own e t => exact .inl ⟨_, _, rfl, .of e, fun p hp => k _ _ _ _ (J.newL J.lt1 hp (t.cut _ _)) q3⟩
      | lbo e t => exact .inl ⟨_, _, rfl, .of e, fun p hp => k _ _ _ _ (J.newLB J.lt1 hp (t.cut _ _)) q3⟩
      | lst e t =>
        obtain ⟨ds, e2, q3⟩ := wO_some q3
        exact .inl ⟨_, _, rfl, .of e, fun p hp => k _ _ _ _ (J.newL J.lt1 hp ((datL_is t e2).cut _ _)) q3⟩
      | scr e => exact .inl ⟨_, _, rfl, e.sq, fun p hp => by
          rw [cut_map]
          exact k _ _ _ _ (J.newL J.lt1 hp ints_is) q3⟩
      | dat d =>
        cases d with
        | list e n t => exact .inl ⟨_, _, rfl, .of e, fun p hp => k _ _ _ _ (J.newL J.lt1 hp (t.cut _ _)) q3⟩
        | tuple e t =>
          refine .inr (.inl ⟨_, _, rfl, e.sq, fun w => ?_, fun w p hp => k _ _ _ _ (J.newT J.lt1 hp (t.cut _ _)) q3⟩)
          rw [← t.length] at w
          refine k _ _ _ _ (J.oneD J.lt1 (.tuple e t)) ?_
          have q4 := q3
          dsimp only at q4
          rw [cut_whole w] at q4; exact q4
        | str z => exact .inr (.inr ⟨z, rfl, q3.1, k _ _ _ _ (I3.pop.str _) q3.2⟩)
        | _ => exact q3.elim
      | bor d =>
        cases d with
        | list e n t => exact .inl ⟨_, _, rfl, .of e, fun p hp => k _ _ _ _ (J.newLB J.lt1 hp (t.cut _ _)) q3⟩
        | tuple e t =>
          refine .inr (.inl ⟨_, _, rfl, e.sq, fun w => ?_, fun w p hp => k _ _ _ _ (J.newTB J.lt1 hp (t.cut _ _)) q3⟩)
          rw [← t.length] at w
          refine k _ _ _ _ (J.oneB J.lt1 (.tuple e t)) ?_
          have q4 := q3
          dsimp only at q4
          rw [cut_whole w] at q4; exact q4
        | str z => exact .inr (.inr ⟨z, rfl, q3.1, k _ _ _ _ (I3.pop.str _) q3.2⟩)
        | _ => exact q3.elim
      | _ => exact q3.elim⟩
end
end Ds
namespace Ds
open PySem L2

/-- p where b is true, q where it is false -/
structure br (b : Bool) (p q : Prop) : Prop where
  t : b = true → p
  f : b = false → q
theorem br_split {b : Bool} {p q : Prop} (h1 : b = true → p) (h2 : b = false → q) : br b p q := ⟨h1, h2⟩
theorem br_dec {c p q : Prop} [Decidable c] (h1 : c → p) (h2 : ¬ c → q) : br (decide c) p q := ⟨fun h => h1 (of_decide_eq_true h), fun h => h2 (of_decide_eq_false h)⟩
theorem br_ndec {c p q : Prop} [Decidable c] (h1 : ¬ c → p) (h2 : c → q) : br (!decide c) p q := ⟨fun h => h1 (of_decide_eq_false (by simpa using h)), fun h => h2 (of_decide_eq_true (by simpa using h))⟩
theorem br_t {b : Bool} {p q : Prop} (e : b = true) (h : p) : br b p q := ⟨fun _ => h, fun z => by rw [e] at z; cases z⟩
theorem br_f {b : Bool} {p q : Prop} (e : b = false) (h : q) : br b p q := ⟨fun z => (by rw [e] at z; cases z), fun _ => h⟩
def wB : Option D → (Bool → Prop) → Prop
  | some (.bool b), k => k b
  | _, _ => False
theorem wB_some {o : Option D} {k : Bool → Prop} (h : wB o k) : ∃ i, o = some (.bool i) ∧ k i := by
  unfold wB at h
  split at h
  · exact ⟨_, rfl, h⟩
  · exact h.elim

section
variable {C : Ctx} {a b c : Expr} {rest : List Expr} {fa fb fc : DE} {ta tb : DTt} {pos : Pos}
def tVal (f : DE) : DTt := fun ρ Q => f ρ fun x ρ1 => wB (lk ρ1 x) fun b => Q b ρ1
theorem dt_val (h : DPE C a fa) (he : ∀ whole, isTrue a C.X.env whole = (do let v ← whole; standAt a.pos; holding [v] (truthy v)) := by intro _; rfl) : DPT C a (tVal fa) :=
  let ⟨_, p, s⟩ := h.ex
  ⟨_, pt_val p he, fun σ H ρ vs τ Qd Q I q k => s σ H ρ vs τ _ _ I q fun v H1 x ρ1 I1 q1 => by
    obtain ⟨b, e, q1⟩ := wB_some q1
    exact ⟨b, (I1.lk1 e).bool_eq, k _ _ _ I1.pop q1⟩⟩
def dAndT (t u : DTt) : DTt := fun ρ Q => t ρ fun b ρ1 => br b (u ρ1 Q) (Q false ρ1)
def dOrT (t u : DTt) : DTt := fun ρ Q => t ρ fun b ρ1 => br b (Q true ρ1) (u ρ1 Q)
def dNotT (t : DTt) : DTt := fun ρ Q => t ρ fun b ρ1 => Q (!b) ρ1
theorem dt_not (h : DPT C a ta) : DPT C (.UnaryOp .Not a pos) (dNotT ta) :=
  let ⟨_, p, s⟩ := h.ex
  ⟨_, pt_not p, fun σ H ρ vs τ Qd Q I q k => s σ H ρ vs τ _ _ I q fun b H1 ρ1 I1 q1 => k _ _ _ I1 q1⟩
theorem dw_and1 (h : DPT C a ta) : DPW C (.BoolOp .And [a] pos) ta := let ⟨_, p, s⟩ := h.ex; ⟨_, pw_and1 p, s⟩
theorem dw_or1 (h : DPT C a ta) : DPW C (.BoolOp .Or [a] pos) ta := let ⟨_, p, s⟩ := h.ex; ⟨_, pw_or1 p, s⟩
theorem dw_and (h : DPT C a ta) (h2 : DPW C (.BoolOp .And (b :: rest) pos) tb) : DPW C (.BoolOp .And (a :: b :: rest) pos) (dAndT ta tb) :=
  let ⟨_, p, s⟩ := h.ex; let ⟨_, p2, s2⟩ := h2.ex
  ⟨_, pw_and p p2, fun σ H ρ vs τ Qd Q I q k => s σ H ρ vs τ _ _ I q fun b H1 ρ1 I1 q1 => by
    cases b with
    | true => rw [if_pos rfl]; exact s2 σ H1 ρ1 vs τ Qd Q I1 (q1.t rfl) k
    | false => rw [if_neg (by decide)]; exact k _ _ _ I1 (q1.f rfl)⟩
theorem dw_or (h : DPT C a ta) (h2 : DPW C (.BoolOp .Or (b :: rest) pos) tb) : DPW C (.BoolOp .Or (a :: b :: rest) pos) (dOrT ta tb) :=
  let ⟨_, p, s⟩ := h.ex; let ⟨_, p2, s2⟩ := h2.ex
  ⟨_, pw_or p p2, fun σ H ρ vs τ Qd Q I q k => s σ H ρ vs τ _ _ I q fun b H1 ρ1 I1 q1 => by
    cases b with
    | true => rw [if_pos rfl]; exact k _ _ _ I1 (q1.t rfl)
    | false => rw [if_neg (by decide)]; exact s2 σ H1 ρ1 vs τ Qd Q I1 (q1.f rfl) k⟩
theorem DPW.t (h : DPW C a ta) : DPT C a ta := let ⟨_, p, s⟩ := h.ex; ⟨_, p.pt, s⟩
/-- the same as values (bools) -/
def dAndV (fa fb : DE) : DE := fun ρ Q => fa ρ fun x ρ1 => wB (lk ρ1 x) fun b => br b (fb ρ1 Q) (Q (.dat (.bool false)) ρ1)
def dOrV (fa fb : DE) : DE := fun ρ Q => fa ρ fun x ρ1 => wB (lk ρ1 x) fun b => br b (Q (.dat (.bool true)) ρ1) (fb ρ1 Q)
def dNotV (fa : DE) : DE := fun ρ Q => fa ρ fun x ρ1 => wB (lk ρ1 x) fun b => Q (.dat (.bool (!b))) ρ1
theorem de_one {op} (h : DPE C a fa) : DPE C (.BoolOp op [a] pos) fa := let ⟨_, p, s⟩ := h.ex; ⟨_, pe_one p, s⟩
theorem de_and (h : DPE C a fa) (h2 : DPE C (.BoolOp .And (b :: rest) pos) fb) : DPE C (.BoolOp .And (a :: b :: rest) pos) (dAndV fa fb) :=
  let ⟨_, p, s⟩ := h.ex; let ⟨_, p2, s2⟩ := h2.ex
  ⟨_, pe_and p p2, fun σ H ρ vs τ Qd Q I q k => s σ H ρ vs τ _ _ I q fun v H1 x ρ1 I1 q1 => by
    obtain ⟨b, e, q1⟩ := wB_some q1
    refine ⟨b, (I1.lk1 e).bool_eq, ?_⟩
    cases b with
    | true => rw [if_pos rfl]; exact s2 σ H1 ρ1 vs τ Qd Q I1.pop (q1.t rfl) k
    | false => rw [if_neg (by decide)]; exact k _ _ _ _ (I1.pop.bool _) (q1.f rfl)⟩
theorem de_or (h : DPE C a fa) (h2 : DPE C (.BoolOp .Or (b :: rest) pos) fb) : DPE C (.BoolOp .Or (a :: b :: rest) pos) (dOrV fa fb) :=
  let ⟨_, p, s⟩ := h.ex; let ⟨_, p2, s2⟩ := h2.ex
  ⟨_, pe_or p p2, fun σ H ρ vs τ Qd Q I q k => s σ H ρ vs τ _ _ I q fun v H1 x ρ1 I1 q1 => by
    obtain ⟨b, e, q1⟩ := wB_some q1
    refine ⟨b, (I1.lk1 e).bool_eq, ?_⟩
    cases b with
    | true => rw [if_pos rfl]; exact k _ _ _ _ (I1.pop.bool _) (q1.t rfl)
    | false => rw [if_neg (by decide)]; exact s2 σ H1 ρ1 vs τ Qd Q I1.pop (q1.f rfl) k⟩
theorem de_not (h : DPE C a fa) : DPE C (.UnaryOp .Not a pos) (dNotV fa) :=
  let ⟨_, p, s⟩ := h.ex
  ⟨_, pe_not p, fun σ H ρ vs τ Qd Q I q k => s σ H ρ vs τ _ _ I q fun v H1 x ρ1 I1 q1 => by
    obtain ⟨b, e, q1⟩ := wB_some q1
    exact ⟨b, (I1.lk1 e).bool_eq, k _ _ _ _ (I1.pop.bool _) q1⟩⟩
def dIf (t : DTt) (fa fb : DE) : DE := fun ρ Q => t ρ fun b ρ1 => br b (fa ρ1 Q) (fb ρ1 Q)
theorem de_if (h : DPT C c ta) (ha : DPE C a fa) (hb : DPE C b fb) : DPE C (.IfExp c a b pos) (dIf ta fa fb) :=
  let ⟨_, p, s⟩ := h.ex; let ⟨_, pa, sa⟩ := ha.ex; let ⟨_, pb, sb⟩ := hb.ex
  ⟨_, pe_ifExp p pa pb, fun σ H ρ vs τ Qd Q I q k => s σ H ρ vs τ _ _ I q fun b H1 ρ1 I1 q1 => by
    cases b with
    | true => rw [if_pos rfl]; exact sa σ H1 ρ1 vs τ Qd Q I1 (q1.t rfl) k
    | false => rw [if_neg (by decide)]; exact sb σ H1 ρ1 vs τ Qd Q I1 (q1.f rfl) k⟩
/-- a < b <= c and the like, of ints -/
def dChain (p1 p2 : Int → Int → Bool) (fa fb fc : DE) : DE := fun ρ Q => fa ρ fun x ρ1 => fb ρ1 fun y ρ2 => wI (lk ρ2 x) fun i => wI (lk ρ2 y) fun j =>
  br (p1 i j) (fc ρ2 fun z ρ3 => wI (lk ρ3 z) fun k => Q (.dat (.bool (p2 j k))) ρ3) (Q (.dat (.bool false)) ρ2)
theorem de_chain {op op' : CmpOp} {p1 p2 : Int → Int → Bool} (h1 : OpR C.X (compareOp op) (rI0 fun i j => .bl (p1 i j))) (h2 : OpR C.X (compareOp op') (rI0 fun i j => .bl (p2 i j))) (ha : DPE C a fa) (hb : DPE C b fb) (hc : DPE C c fc)
    (hm : lastMarks [op, op'] [b, c] = false := by with_unfolding_all rfl) : DPE C (.Compare a [op, op'] [b, c] pos) (dChain p1 p2 fa fb fc) :=
  let ⟨_, pa, sa⟩ := ha.ex; let ⟨_, pb, sb⟩ := hb.ex; let ⟨_, pc, sc⟩ := hc.ex
  ⟨_, pe_chain h1 h2 pa pb pc hm, fun σ H ρ vs τ Qd Q I q k => sa σ H ρ vs τ _ _ I q fun u H1 x ρ1 I1 q1 => sb σ H1 ρ1 _ _ _ _ I1 q1 fun v H2 y ρ2 I2 q2 => by
    obtain ⟨i, e1, q2⟩ := wI_some q2
    obtain ⟨j, e2, q2⟩ := wI_some q2
    have hy := (I2.lk1 e2).int_eq
    refine ⟨i, j, (I2.lk2 e1).int_eq, hy, _, rfl, ?_⟩
    generalize p1 i j = bb at q2 ⊢
    cases bb with
    | true =>
      rw [if_pos rfl]
      refine sc σ H2 ρ2 vs τ _ _ I2.pop2 (q2.t rfl) fun w H3 z ρ3 I3 q3 => ?_
      obtain ⟨n, e3, q3⟩ := wI_some q3
      exact ⟨j, n, hy, (I3.lk1 e3).int_eq, k _ _ _ _ (I3.pop.bool _) q3⟩
    | false => rw [if_neg (by decide)]; exact k _ _ _ _ (I2.pop2.bool _) (q2.f rfl)⟩
end

/-! ### calls of built-ins by values -/
abbrev DOn := List T → List T → DQ → Prop
def SimC (C : Ctx) (r : List V → Hp → VK → Prop) (f : DOn) : Prop := ∀ (σ : St) (H : Hp) (ρ : List T) (vs : List V) (τ : List T) (xs : List V) (ts : List T) (Qd : DQ) (Q : VK), SS C σ H ρ (vs ++ xs) (τ ++ ts) → ts.length = xs.length → τ.length = vs.length → f ρ ts Qd →
  (∀ w H' z ρ', SS C σ H' ρ' (vs ++ [w]) (τ ++ [z]) → Qd z ρ' → Q w H') → r xs H Q
def dCB (f : DOn) (fs : DA) : DE := fun ρ Q => fs ρ fun ts ρ1 => f ρ1 ts Q
section
variable {C : Ctx} {x : Str} {p pos : Pos} {e : Expr} {es : List Expr} {fs : DA} {id T : String} {r : List V → Hp → VK → Prop} {f : DOn}
theorem sim_cb {t : TA} (h : SimC C r f) (ha : SimA C t fs) : Sim C (tCB r t) (dCB f fs) := fun σ H ρ vs τ Qd Q I q k =>
  ha σ H ρ vs τ _ _ I q fun xs H1 ts ρ1 I1 hl q1 => h σ H1 ρ1 vs τ xs ts Qd Q I1 hl (I1.lenA hl) q1 k
theorem de_callB (hc : CallR C.X (.builtin id) r) (hs : SimC C r f) (hg : Gl C.X x) (hm : C.X.mg x = none) (hv : bootBuiltins x = some (.builtin id)) (ha : DPA C (e :: es) fs) (hn : x ≠ "__name__" := by decide) (hdb : (x == ("__debug__" : Str)) = false := by decide)
    (he : starEach (e :: es) C.X.env = (false, eval e C.X.env) :: starEach es C.X.env := by rfl) (hpl : (backTo pos (starEach es C.X.env)).any (·.1) = false := by rfl) : DPE C (.Call (.Name x p) (e :: es) [] pos) (dCB f fs) :=
  let ⟨_, pa, sa⟩ := ha.ex; ⟨_, pe_callB hc hg hm hv pa hn hdb he hpl, sim_cb hs sa⟩
theorem de_callTy (hc : CallR C.X (.type T) r) (hs : SimC C r f) (hg : Gl C.X x) (hm : C.X.mg x = none) (hv : bootBuiltins x = some (.type T)) (ha : DPA C (e :: es) fs) (hn : x ≠ "__name__" := by decide) (hdb : (x == ("__debug__" : Str)) = false := by decide)
    (he : starEach (e :: es) C.X.env = (false, eval e C.X.env) :: starEach es C.X.env := by rfl) (hpl : (backTo pos (starEach es C.X.env)).any (·.1) = false := by rfl) : DPE C (.Call (.Name x p) (e :: es) [] pos) (dCB f fs) :=
  let ⟨_, pa, sa⟩ := ha.ex; ⟨_, pe_callTy hc hg hm hv pa hn hdb he hpl, sim_cb hs sa⟩
end
section
variable {C : Ctx} {σ : St} {H : Hp} {ρ : List T} {vs xs : List V} {τ ts : List T}
theorem SS.lkA (I : SS C σ H ρ (vs ++ xs) (τ ++ ts)) (hτ : τ.length = vs.length) {j : Nat} {t : T} {d : D} (e : ts[j]? = some t) (h : lk ρ t = some d) : ∃ v, xs[j]? = some v ∧ DIs C.K N0 H d v := by
  obtain ⟨ow, J⟩ := I
  obtain ⟨v, hv, r⟩ := J.temp (j := τ.length + j) (t := t) (by rw [List.getElem?_append_right (by omega)]; simpa using e)
  rw [hτ, List.getElem?_append_right (by omega)] at hv
  simp at hv
  exact ⟨v, hv, r.lk J.look h⟩
theorem len1 {t : T} (h : [t].length = xs.length) : ∃ v, xs = [v] := by
  match xs, h with
  | [v], _ => exact ⟨v, rfl⟩
theorem len2 {t u : T} (h : [t, u].length = xs.length) : ∃ v w, xs = [v, w] := by
  match xs, h with
  | [v, w], _ => exact ⟨v, w, rfl⟩
/-- one argument, data, a scalar back -/
def cu1 (f : D → (D → Prop) → Prop) : DOn := fun ρ ts Q => match ts with
  | [x] => wD (lk ρ x) fun d => f d fun w => Q (.dat w) ρ
  | _ => False
def cu2 (f : D → D → (D → Prop) → Prop) : DOn := fun ρ ts Q => match ts with
  | [x, y] => wD (lk ρ x) fun d => wD (lk ρ y) fun e => f d e fun w => Q (.dat w) ρ
  | _ => False
theorem sim_cu1 {r : List V → Hp → VK → Prop} {f : D → (D → Prop) → Prop} (h : ∀ (H : Hp) (d : D) (u : V) (Qd : D → Prop) (Q : VK), DIs C.K N0 H d u → f d Qd → (∀ w z, sv w = some z → Qd w → Q z H) → r [u] H Q) : SimC C r (cu1 f) := by
  intro σ H ρ vs τ xs ts Qd Q I hl hτ q k
  unfold cu1 at q
  split at q
  · obtain ⟨v, rfl⟩ := len1 hl
    obtain ⟨d, e1, q⟩ := wD_some q
    exact h H d v _ Q (SS.lk1 I e1) q fun w z hz hq => k z H _ ρ (SS.sc (SS.pop I) hz) hq
  · exact q.elim
theorem sim_cu2 {r : List V → Hp → VK → Prop} {f : D → D → (D → Prop) → Prop} (h : ∀ (H : Hp) (d e : D) (u v : V) (Qd : D → Prop) (Q : VK), DIs C.K N0 H d u → DIs C.K N0 H e v → f d e Qd → (∀ w z, sv w = some z → Qd w → Q z H) → r [u, v] H Q) : SimC C r (cu2 f) := by
  intro σ H ρ vs τ xs ts Qd Q I hl hτ q k
  unfold cu2 at q
  split at q
  · obtain ⟨v, w, rfl⟩ := len2 hl
    obtain ⟨d, e1, q⟩ := wD_some q
    obtain ⟨e, e2, q⟩ := wD_some q
    obtain ⟨v', hv, d1⟩ := I.lkA hτ (j := 0) rfl e1
    obtain ⟨w', hw, d2⟩ := I.lkA hτ (j := 1) rfl e2
    simp at hv hw
    subst hv hw
    exact h H d e _ _ _ Q d1 d2 q fun w z hz hq => k z H _ ρ (SS.sc (I.drop hτ) hz) hq
  · exact q.elim

/-! ### len -/
def dLen : DOn := fun ρ ts Q => match ts with
  | [x] => match dr ρ x with
    | .scr ns => Q (.dat (.int ns.length)) ρ
    | _ => wD (lk ρ x) fun d => match d with
      | .list ds => Q (.dat (.int ds.length)) ρ
      | .tuple ds => Q (.dat (.int ds.length)) ρ
      | .str z => z.length ≤ sizeLine ∧ Q (.dat (.int z.length)) ρ
      | _ => False
  | _ => False
theorem sim_len : SimC C (fun xs H Q => ∃ x n, xs = [x] ∧ LenV C.K x H n ∧ Q (.int n) H) dLen := by
  intro σ H ρ vs τ xs ts Qd Q I hl hτ q k
  unfold dLen at q
  split at q
  · rename_i x
    obtain ⟨v, rfl⟩ := len1 hl
    have main : wD (lk ρ x) (fun d => match d with
      | .list ds => Qd (.dat (.int ds.length)) ρ
      | .tuple ds => Qd (.dat (.int ds.length)) ρ
      | .str z => z.length ≤ sizeLine ∧ Qd (.dat (.int z.length)) ρ
      | _ => False) → ∃ x n, [v] = [x] ∧ LenV C.K x H n ∧ Q (.int n) H := fun q => by
      obtain ⟨d, e1, q⟩ := wD_some q
      have dv := SS.lk1 I e1
      cases dv with
      | list e n t => exact ⟨_, _, rfl, .inl ⟨_, .of e, rfl⟩, k _ _ _ _ (SS.int (SS.pop I) _) (by rw [← t.length]; exact q)⟩
      | tuple e t => exact ⟨_, _, rfl, .inr ⟨_, e.sq, rfl⟩, k _ _ _ _ (SS.int (SS.pop I) _) (by rw [← t.length]; exact q)⟩
      | str z => exact ⟨_, _, rfl, ⟨q.1, rfl⟩, k _ _ _ _ (SS.int (SS.pop I) _) q.2⟩
      | _ => exact q.elim
    split at q
    · rename_i ns e
      obtain ⟨ow, J⟩ := id I
      rcases SI.dr1 J with z | ⟨os, r⟩
      · rw [e] at z; cases z
      · rw [e] at r
        cases r with
        | scr h => exact ⟨_, _, rfl, .inl ⟨_, h.sq, rfl⟩, k _ _ _ _ (SS.int (SS.pop I) _) (by rw [List.length_map]; exact q)⟩
    · exact main q
  · exact q.elim
end
section
variable {C : Ctx} {p pos : Pos} {e : Expr} {fs : DA}
theorem de_len (hg : Gl C.X "len") (hm : C.X.mg "len" = none) (ha : DPA C [e] fs) (he : starEach [e] C.X.env = [(false, eval e C.X.env)] := by rfl) : DPE C (.Call (.Name "len" p) [e] [] pos) (dCB dLen fs) :=
  de_callB call_len sim_len hg hm PySem.boot_len ha (by decide) (by decide) he
end

/-! ### numbers -/
section
variable {C : Ctx}
def fInt (g : Int → (D → Prop) → Prop) : D → (D → Prop) → Prop := fun d k => match d with
  | .int i => g i k
  | _ => False
abbrev dAbs : DOn := cu1 (fInt fun i k => k (.int (if i < 0 then -i else i)))
theorem sim_abs : SimC C (fun xs H Q => ∃ i, xs = [.int i] ∧ Q (.int (if i < 0 then -i else i)) H) dAbs := sim_cu1 fun H d u Qd Q du q k => by
  cases d <;> first | exact q.elim | skip
  exact ⟨_, by rw [du.int_eq], k _ _ rfl q⟩
abbrev dMin2 : DOn := cu2 (fII fun i j k => k (.int (if j < i then j else i)))
abbrev dMax2 : DOn := cu2 (fII fun i j k => k (.int (if j > i then j else i)))
theorem sim_min2 : SimC C (fun xs H Q => ∃ i j, xs = [.int i, .int j] ∧ Q (.int (if j < i then j else i)) H) dMin2 := sim_cu2 fun H d e u v Qd Q du ev q k => by
  cases d <;> cases e <;> first | exact q.elim | skip
  exact ⟨_, _, by rw [du.int_eq, ev.int_eq], k _ _ rfl q⟩
theorem sim_max2 : SimC C (fun xs H Q => ∃ i j, xs = [.int i, .int j] ∧ Q (.int (if j > i then j else i)) H) dMax2 := sim_cu2 fun H d e u v Qd Q du ev q k => by
  cases d <;> cases e <;> first | exact q.elim | skip
  exact ⟨_, _, by rw [du.int_eq, ev.int_eq], k _ _ rfl q⟩
abbrev dInt : DOn := cu1 fun d k => match d with
  | .int i => k (.int i)
  | .bool b => k (.int (if b then 1 else 0))
  | _ => False
theorem sim_int : SimC C (fun xs H Q => (∃ i, xs = [.int i] ∧ Q (.int i) H) ∨ ∃ k, xs = [.bl k] ∧ Q (.int (if k then 1 else 0)) H) dInt := sim_cu1 fun H d u Qd Q du q k => by
  cases d <;> first | exact q.elim | skip
  · exact .inr ⟨_, by rw [du.bool_eq], k _ _ rfl q⟩
  · exact .inl ⟨_, by rw [du.int_eq], k _ _ rfl q⟩
/-- a list, a tuple of ints -/
def wInts (o : Option D) (k : List Int → Prop) : Prop := ∃ ns : List Int, o = some (.list (ns.map .int)) ∧ k ns
theorem ints_inv {K : PySem.W.Frag} {B : Addr → Prop} {H : Hp} : ∀ {ns : List Int} {vs : List V}, DIsL K B H (ns.map PyData.int) vs → vs = ns.map V.int
  | [], _, h => by cases h; rfl
  | n :: ns, _, h => by
    cases h with
    | cons r t => rw [r.int_eq, ints_inv t]; rfl
def ci1 (f : List Int → (D → Prop) → Prop) : DOn := fun ρ ts Q => match ts with
  | [x] => wInts (lk ρ x) fun ns => f ns fun w => Q (.dat w) ρ
  | _ => False
theorem sim_ci1 {r : List V → Hp → VK → Prop} {f : List Int → (D → Prop) → Prop} (h : ∀ (H : Hp) (ns : List Int) (a : Addr) (Qd : D → Prop) (Q : VK), SqL C.K H a (ns.map V.int) → f ns Qd → (∀ w z, sv w = some z → Qd w → Q z H) → r [.ref a] H Q) : SimC C r (ci1 f) := by
  intro σ H ρ vs τ xs ts Qd Q I hl hτ q k
  unfold ci1 at q
  split at q
  · obtain ⟨v, rfl⟩ := len1 hl
    obtain ⟨ns, e1, q⟩ := q
    have dv := SS.lk1 I e1
    cases dv with
    | list e n t =>
      rw [ints_inv t] at e
      exact h H ns _ _ Q (.of e) q fun w z hz hq => k z H _ ρ (SS.sc (SS.pop I) hz) hq
  · exact q.elim
abbrev dSum : DOn := ci1 fun ns k => k (.int ns.sum)
theorem sim_sum : SimC C (rSum C.K) dSum := sim_ci1 fun H ns a Qd Q h q k => ⟨a, ns, rfl, h, k _ _ rfl q⟩
def minI : List Int → Int
  | [] => 0
  | a :: r => r.foldl min a
def maxI : List Int → Int
  | [] => 0
  | a :: r => r.foldl max a
theorem minI_le : ∀ (r : List Int) (a : Int), r.foldl min a ≤ a ∧ (∀ y, y ∈ r → r.foldl min a ≤ y) ∧ (r.foldl min a = a ∨ r.foldl min a ∈ r)
  | [], a => ⟨Int.le_refl _, fun _ z => by simp at z, .inl rfl⟩
  | b :: r, a => by
    obtain ⟨h1, h2, h3⟩ := minI_le r (min a b)
    have e : (b :: r).foldl min a = r.foldl min (min a b) := rfl
    rw [e]
    refine ⟨by omega, fun y hy => ?_, ?_⟩
    · rcases List.mem_cons.mp hy with rfl | hy
      · omega
      · exact h2 y hy
    · rcases h3 with h3 | h3
      · by_cases z : a ≤ b
        · left; omega
        · right; rw [h3, show min a b = b by omega]; simp
      · right; exact List.mem_cons_of_mem _ h3
theorem maxI_ge : ∀ (r : List Int) (a : Int), a ≤ r.foldl max a ∧ (∀ y, y ∈ r → y ≤ r.foldl max a) ∧ (r.foldl max a = a ∨ r.foldl max a ∈ r)
  | [], a => ⟨Int.le_refl _, fun _ z => by simp at z, .inl rfl⟩
  | b :: r, a => by
    obtain ⟨h1, h2, h3⟩ := maxI_ge r (max a b)
    have e : (b :: r).foldl max a = r.foldl max (max a b) := rfl
    rw [e]
    refine ⟨by omega, fun y hy => ?_, ?_⟩
    · rcases List.mem_cons.mp hy with rfl | hy
      · omega
      · exact h2 y hy
    · rcases h3 with h3 | h3
      · by_cases z : b ≤ a
        · left; omega
        · right; rw [h3, show max a b = b by omega]; simp
      · right; exact List.mem_cons_of_mem _ h3
theorem minI_of {ns : List Int} {m : Int} (h : m ∈ ns) (h2 : ∀ y, y ∈ ns → m ≤ y) : m = minI ns := by
  cases ns with
  | nil => simp at h
  | cons a r =>
    obtain ⟨a1, a2, a3⟩ := minI_le r a
    show m = r.foldl min a
    have := h2 a (by simp)
    rcases List.mem_cons.mp h with rfl | h
    · rcases a3 with a3 | a3
      · omega
      · have := h2 _ (List.mem_cons_of_mem _ a3); omega
    · have l1 := a2 m h
      rcases a3 with a3 | a3
      · omega
      · have := h2 _ (List.mem_cons_of_mem _ a3); omega
theorem maxI_of {ns : List Int} {m : Int} (h : m ∈ ns) (h2 : ∀ y, y ∈ ns → y ≤ m) : m = maxI ns := by
  cases ns with
  | nil => simp at h
  | cons a r =>
    obtain ⟨a1, a2, a3⟩ := maxI_ge r a
    show m = r.foldl max a
    have := h2 a (by simp)
    rcases List.mem_cons.mp h with rfl | h
    · rcases a3 with a3 | a3
      · omega
      · have := h2 _ (List.mem_cons_of_mem _ a3); omega
    · have l1 := a2 m h
      rcases a3 with a3 | a3
      · omega
      · have := h2 _ (List.mem_cons_of_mem _ a3); omega
abbrev dMinL : DOn := ci1 fun ns k => ns ≠ [] ∧ k (.int (minI ns))
abbrev dMaxL : DOn := ci1 fun ns k => ns ≠ [] ∧ k (.int (maxI ns))
theorem sim_minL : SimC C (rMin C.K) dMinL := sim_ci1 fun H ns a Qd Q h q k => ⟨a, ns, rfl, h, List.length_pos_iff.mpr q.1, fun m hm hy => by rw [minI_of hm hy]; exact k _ _ rfl q.2⟩
theorem sim_maxL : SimC C (rMax C.K) dMaxL := sim_ci1 fun H ns a Qd Q h q k => ⟨a, ns, rfl, h, List.length_pos_iff.mpr q.1, fun m hm hy => by rw [maxI_of hm hy]; exact k _ _ rfl q.2⟩
theorem bools_inv {K : PySem.W.Frag} {B : Addr → Prop} {H : Hp} : ∀ {ns : List Bool} {vs : List V}, DIsL K B H (ns.map PyData.bool) vs → vs = ns.map V.bl
  | [], _, h => by cases h; rfl
  | n :: ns, _, h => by
    cases h with
    | cons r t => rw [r.bool_eq, bools_inv t]; rfl
def cb1 (f : List Bool → Bool) : DOn := fun ρ ts Q => match ts with
  | [x] => ∃ bs : List Bool, lk ρ x = some (.list (bs.map .bool)) ∧ Q (.dat (.bool (f bs))) ρ
  | _ => False
theorem sim_cb1 {r : List V → Hp → VK → Prop} {f : List Bool → Bool} (h : ∀ (H : Hp) (bs : List Bool) (a : Addr) (Q : VK), SqL C.K H a (bs.map V.bl) → Q (.bl (f bs)) H → r [.ref a] H Q) : SimC C r (cb1 f) := by
  intro σ H ρ vs τ xs ts Qd Q I hl hτ q k
  unfold cb1 at q
  split at q
  · obtain ⟨v, rfl⟩ := len1 hl
    obtain ⟨ns, e1, q⟩ := q
    have dv := SS.lk1 I e1
    cases dv with
    | list e n t =>
      rw [bools_inv t] at e
      exact h H ns _ Q (.of e) (k _ H _ ρ (SS.bool (SS.pop I) _) q)
  · exact q.elim
abbrev dAll : DOn := cb1 fun bs => bs.all id
abbrev dAny : DOn := cb1 fun bs => bs.any id
theorem sim_all : SimC C (rAll C.K) dAll := sim_cb1 fun H bs a Q h q => ⟨a, bs, rfl, h, q⟩
theorem sim_any : SimC C (rAny C.K) dAny := sim_cb1 fun H bs a Q h q => ⟨a, bs, rfl, h, q⟩
end
section
variable {C : Ctx} {p pos : Pos} {e e2 : Expr} {fs : DA}
theorem de_abs (hg : Gl C.X "abs") (hm : C.X.mg "abs" = none) (ha : DPA C [e] fs) (he : starEach [e] C.X.env = [(false, eval e C.X.env)] := by rfl) : DPE C (.Call (.Name "abs" p) [e] [] pos) (dCB dAbs fs) :=
  de_callB call_abs sim_abs hg hm (by decide +kernel) ha (by decide) (by decide) he
theorem de_min2 (hg : Gl C.X "min") (hm : C.X.mg "min" = none) (hc : C.X.calm = true) (ha : DPA C [e, e2] fs) (he : starEach [e, e2] C.X.env = (false, eval e C.X.env) :: starEach [e2] C.X.env := by rfl) (hp : (backTo pos (starEach [e2] C.X.env)).any (·.1) = false := by rfl) :
    DPE C (.Call (.Name "min" p) [e, e2] [] pos) (dCB dMin2 fs) := de_callB (call_min2 hc) sim_min2 hg hm (by decide +kernel) ha (by decide) (by decide) he hp
theorem de_max2 (hg : Gl C.X "max") (hm : C.X.mg "max" = none) (hc : C.X.calm = true) (ha : DPA C [e, e2] fs) (he : starEach [e, e2] C.X.env = (false, eval e C.X.env) :: starEach [e2] C.X.env := by rfl) (hp : (backTo pos (starEach [e2] C.X.env)).any (·.1) = false := by rfl) :
    DPE C (.Call (.Name "max" p) [e, e2] [] pos) (dCB dMax2 fs) := de_callB (call_max2 hc) sim_max2 hg hm (by decide +kernel) ha (by decide) (by decide) he hp
theorem de_minL (hg : Gl C.X "min") (hm : C.X.mg "min" = none) (hc : C.X.calm = true) (ha : DPA C [e] fs) (he : starEach [e] C.X.env = [(false, eval e C.X.env)] := by rfl) : DPE C (.Call (.Name "min" p) [e] [] pos) (dCB dMinL fs) :=
  de_callB (cr_min hc) sim_minL hg hm (by decide +kernel) ha (by decide) (by decide) he
theorem de_maxL (hg : Gl C.X "max") (hm : C.X.mg "max" = none) (hc : C.X.calm = true) (ha : DPA C [e] fs) (he : starEach [e] C.X.env = [(false, eval e C.X.env)] := by rfl) : DPE C (.Call (.Name "max" p) [e] [] pos) (dCB dMaxL fs) :=
  de_callB (cr_max hc) sim_maxL hg hm (by decide +kernel) ha (by decide) (by decide) he
theorem de_sum (hg : Gl C.X "sum") (hm : C.X.mg "sum" = none) (hc : C.X.calm = true) (ha : DPA C [e] fs) (he : starEach [e] C.X.env = [(false, eval e C.X.env)] := by rfl) : DPE C (.Call (.Name "sum" p) [e] [] pos) (dCB dSum fs) :=
  de_callB (cr_sum hc) sim_sum hg hm (by decide +kernel) ha (by decide) (by decide) he
theorem de_all (hg : Gl C.X "all") (hm : C.X.mg "all" = none) (hc : C.X.calm = true) (ha : DPA C [e] fs) (he : starEach [e] C.X.env = [(false, eval e C.X.env)] := by rfl) : DPE C (.Call (.Name "all" p) [e] [] pos) (dCB dAll fs) :=
  de_callB (cr_all hc) sim_all hg hm (by decide +kernel) ha (by decide) (by decide) he
theorem de_any (hg : Gl C.X "any") (hm : C.X.mg "any" = none) (hc : C.X.calm = true) (ha : DPA C [e] fs) (he : starEach [e] C.X.env = [(false, eval e C.X.env)] := by rfl) : DPE C (.Call (.Name "any" p) [e] [] pos) (dCB dAny fs) :=
  de_callB (cr_any hc) sim_any hg hm (by decide +kernel) ha (by decide) (by decide) he
theorem de_int1 (hg : Gl C.X "int") (hm : C.X.mg "int" = none) (ha : DPA C [e] fs) (he : starEach [e] C.X.env = [(false, eval e C.X.env)] := by rfl) : DPE C (.Call (.Name "int" p) [e] [] pos) (dCB dInt fs) :=
  de_callTy call_int1 sim_int hg hm (by decide +kernel) ha (by decide) (by decide) he
end
end Ds
namespace Ds
open PySem L2

theorem noAliL_append : ∀ {a b : List T}, noAliL (a ++ b) = (noAliL a && noAliL b)
  | [], _ => by simp [noAliL]
  | x :: a, b => by simp [noAliL, noAliL_append, Bool.and_assoc]
theorem wipe_get_in {σ : St} {i : Nat} : ∀ {is : List Nat}, i ∈ is → i < σ.length → (wipe σ is)[i]? = some none
  | [], h, _ => by simp at h
  | j :: is, h, hi => by
    unfold wipe
    by_cases z : j = i
    · subst z
      exact List.getElem?_set_self (by rw [wipe_length]; exact hi)
    · rw [List.getElem?_set_ne z]
      exact wipe_get_in (by simpa [Ne.symm z] using h) hi
theorem wipe_out {σ : St} {i : Nat} : ∀ {is : List Nat}, i ∉ is → (wipe σ is)[i]? = σ[i]?
  | [], _ => rfl
  | j :: is, h => by
    unfold wipe
    rw [List.getElem?_set_ne (fun z => h (by simp [z])), wipe_out (fun z => h (by simp [z]))]
theorem wipe_ext {σ σ' : St} {is : List Nat} (hl : σ.length = σ'.length) (h : ∀ i, i ∉ is → σ[i]? = σ'[i]?) : wipe σ is = wipe σ' is := by
  refine List.ext_getElem? fun i => ?_
  by_cases hi : i ∈ is
  · by_cases z : i < σ.length
    · rw [wipe_get_in hi z, wipe_get_in hi (by omega)]
    · rw [List.getElem?_eq_none (by rw [wipe_length]; omega), List.getElem?_eq_none (by rw [wipe_length]; omega)]
  · rw [wipe_out hi, wipe_out hi, h i hi]
theorem set_wipe {σ : St} {i : Nat} {x : Option V} {own : List Nat} (h : i ∈ own) : wipe (σ.set i x) own = wipe σ own := wipe_ext (by simp) fun j hj => List.getElem?_set_ne fun z => hj (by rw [← z]; exact h)
section
variable {C : Ctx} {σ σ' : St} {H H' : Hp} {ρ ρ' : List T} {vs vs' xs ys : List V} {τ τ' ts us : List T} {ow : Nat → List Addr} {v w : V} {t x : T}
/-- the top goes into slot i -/
theorem SS.assign (h : SS C σ H ρ (vs ++ [v]) (τ ++ [t])) {i : Nat} (hi : i < ρ.length) (nt : noAli t = true) (nτ : noAliL τ = true ∨ i ∈ C.cv) (nl : i ∉ C.lent) : SS C (σ.set i (some v)) H (ρ.set i t) vs τ := by
  obtain ⟨ow, I⟩ := h
  have hτ := I.lt1
  let n := ρ.length + τ.length
  have hin : i ≠ n := by omega
  have top := I.top
  refine ⟨fun k => if k = i then ow n else if k < n then ow k else [], I.next (S := fun k => k = i ∨ n ≤ k) (by simp [I.ln]) hτ (noAliL_set I.na nt) (fun k hk => ?_) (fun k u hk e => ?_) (by simp) (fun b o e _ => e) (fun b z => z)
    (fun k a hk h => ?_) (fun m1 m2 k u hk e => ?_) (fun k hk => ?_) (fun j k a hj hk hjk h => ?_) (fun k a hk h => ?_) (fun j hj => ?_)⟩
  · have h1 : k ≠ i := fun z => hk (.inl z)
    have h2 : k < n := by by_cases z : k < n; exact z; exact absurd (.inr (by omega)) hk
    simp only [if_neg h1, if_pos h2]
  · have h1 : k ≠ i := fun z => hk (.inl z)
    have h2 : k < n := by by_cases z : k < n; exact z; exact absurd (.inr (by omega)) hk
    have e1 : (ρ ++ τ)[k]? = some u := by
      by_cases hk2 : k < ρ.length
      · rw [List.getElem?_append_left (by simpa using hk2), List.getElem?_set_ne (Ne.symm h1)] at e
        rw [List.getElem?_append_left hk2]; exact e
      · rw [List.getElem?_append_right (by simp; omega)] at e
        rw [List.getElem?_append_right (by omega)]
        simpa using e
    refine ⟨?_, ?_, ?_⟩
    · rw [← List.append_assoc, List.getElem?_append_left (by simp; omega)]; exact e1
    · have e3 : (σ ++ List.map some (vs ++ [v]))[k]? = (σ ++ List.map some vs)[k]? := by
        rw [List.map_append, ← List.append_assoc]
        exact List.getElem?_append_left (by simp [← I.ln, ← hτ]; omega)
      rw [e3]
      by_cases hk2 : k < ρ.length
      · have a1 : k < (σ.set i (some v)).length := by simp [← I.ln]; exact hk2
        have a2 : k < σ.length := by rw [← I.ln]; exact hk2
        exact (List.getElem?_append_left a1).trans ((List.getElem?_set_ne (Ne.symm h1)).trans (List.getElem?_append_left a2).symm)
      · have a1 : (σ.set i (some v)).length ≤ k := by simp [← I.ln]; omega
        have a2 : σ.length ≤ k := by rw [← I.ln]; omega
        refine (List.getElem?_append_right a1).trans (Eq.trans ?_ (List.getElem?_append_right a2).symm)
        simp
    · rcases nτ with nτ | nc
      · have all : noAliL (ρ ++ τ) = true := by rw [noAliL_append, I.na, nτ]; rfl
        exact .inr (noAliL_iff.mp all k u e1)
      · exact .inl (set_wipe nc)
  · rcases hk with rfl | hk
    · simp only [if_true] at h; exact .inl ⟨n, .inr (Nat.le_refl _), h⟩
    · simp [if_neg (show k ≠ i by omega), show ¬ k < n by omega] at h
  · rcases hk with rfl | hk
    · rw [List.getElem?_append_left (by simpa using hi), List.getElem?_set_self hi] at e
      cases e
      refine .inr ⟨v, ?_, ?_⟩
      · rw [List.getElem?_append_left (by simp [← I.ln]; exact hi), List.getElem?_set_self (by rw [← I.ln]; exact hi)]
      · simp only [if_true]
        exact top.move m1 m2 (fun _ _ _ q => q) (.inr nt)
    · have : k < (ρ.set i t ++ τ).length := (List.getElem?_eq_some_iff.mp e).1
      simp at this
      omega
  · rcases hk with rfl | hk
    · simp only [if_true]; exact I.nd n
    · simp [if_neg (show k ≠ i by omega), show ¬ k < n by omega]
  · rcases hj with rfl | hj
    · have : n ≤ k := hk.resolve_left (Ne.symm hjk)
      simp [if_neg (Ne.symm hjk), show ¬ k < n by omega]
    · simp [if_neg (show j ≠ i by omega), show ¬ j < n by omega] at h
  · rcases hk with rfl | hk
    · simp only [if_true] at h; exact I.ot n a h
    · simp [if_neg (show k ≠ i by omega), show ¬ k < n by omega] at h
  · refine List.getElem?_set_ne fun z => nl ?_
    rw [z]; exact hj
/-- those below the top are dropped -/
theorem SS.nip {ws : List V} {us : List T} (h : SS C σ H ρ (vs ++ ws ++ [v]) (τ ++ us ++ [t])) (hτ : τ.length = vs.length) : SS C σ H ρ (vs ++ [v]) (τ ++ [t]) := by
  obtain ⟨ow, I⟩ := h
  have top := I.top
  simp at top
  have I' : SI C σ H ρ (vs ++ (ws ++ [v])) (τ ++ (us ++ [t])) ow := by simpa using I
  refine I'.one hτ (Same.refl H) v t (ow (ρ.length + (τ.length + us.length))) (fun ow' m1 m2 _ => top.move m1 m2 (fun _ _ _ q => q) (.inl rfl)) (I.nd _) (fun a ha => .inl ⟨_, by omega, ha⟩) fun a ha => I.ot _ a ha
end

/-! ### targets -/
abbrev DG := T → List T → (List T → Prop) → Prop
abbrev DGs := List T → List T → (List T → Prop) → Prop
def SimG (C : Ctx) (g : TG) (f : DG) : Prop := ∀ (σ : St) (H : Hp) (ρ : List T) (vs : List V) (τ : List T) (v : V) (t : T) (Qd : List T → Prop) (Q : St → Hp → Prop), SS C σ H ρ (vs ++ [v]) (τ ++ [t]) → noAliL τ = true → f t ρ Qd →
  (∀ σ' H' ρ', SS C σ' H' ρ' vs τ → Qd ρ' → Q σ' H') → g v σ H Q
structure DPG (C : Ctx) (e : Expr) (f : DG) : Prop where
  ex : ∃ g, PG C.X e g ∧ SimG C g f
/-- several: the values are the data of the list at hand -/
def SimGs (C : Ctx) (g : TGs) (f : DGs) : Prop := ∀ (σ : St) (H : Hp) (ρ : List T) (vs : List V) (τ : List T) (xs : List V) (ts : List T) (Qd : List T → Prop) (Q : St → Hp → Prop), SS C σ H ρ (vs ++ xs) (τ ++ ts) → ts.length = xs.length → noAliL τ = true → noAliL ts = true → f ts ρ Qd →
  (∀ σ' H' ρ', SS C σ' H' ρ' vs τ → Qd ρ' → Q σ' H') → g xs σ H Q
structure DPGs (C : Ctx) (es : List Expr) (f : DGs) : Prop where
  ex : ∃ g, PGs C.X es g ∧ SimGs C g f
def dgName (i : Nat) : DG := fun t ρ Q => match noAli t with
  | true => Q (ρ.set i t)
  | false => False
def dgNil : DGs := fun ts ρ Q => match ts with
  | [] => Q ρ
  | _ => False
section
variable {C : Ctx} {pos : Pos}
theorem na_ok {t : T} {P : Prop} (h : match noAli t with | true => P | false => False) : noAli t = true ∧ P := by
  cases e : noAli t with
  | false => rw [e] at h; exact h.elim
  | true => rw [e] at h; exact ⟨rfl, h⟩
theorem getElem?_of_set {α : Type} {l : List α} {i : Nat} : ¬ i < l.length → ∀ a, l.set i a = l := fun h a => List.set_eq_of_length_le (by omega)
theorem SS.lnN {σ : St} {H : Hp} {ρ : List T} {vs : List V} {τ : List T} (h : SS C σ H ρ vs τ) : ρ.length = σ.length := let ⟨_, I⟩ := h; I.ln
theorem dg_name {i : Nat} {x : Str} (hN : C.X.N.Nodup) (hi : C.X.N[i]? = some x) (hx : Loc C.X.env.scope x) (nl : i ∉ C.lent) (hf : C.X.fn x = true ∨ C.X.env.scope.names.lookup x = some .local := by first | exact .inl rfl | exact .inr rfl | assumption) :
    DPG C (.Name x pos) (dgName i) :=
  ⟨_, pg_name hN hi hx hf, fun σ H ρ vs τ v t Qd Q I na q k => by
    obtain ⟨nt, q⟩ := na_ok q
    by_cases z : i < ρ.length
    · exact k _ _ _ (I.assign z nt (.inl na) nl) q
    · refine k _ _ ρ ?_ (by rw [getElem?_of_set z] at q; exact q)
      rw [getElem?_of_set (by rw [← I.lnN]; exact z)]
      exact I.pop⟩
theorem dgs_nil : DPGs C [] dgNil := ⟨_, pgs_nil, fun σ H ρ vs τ xs ts Qd Q I hl na nt q k => by
  unfold dgNil at q
  split at q
  · have : xs = [] := List.length_eq_zero_iff.mp hl.symm
    subst this
    exact ⟨rfl, k _ _ _ (by simpa using I) q⟩
  · exact q.elim⟩
/-- the first of several temporaries on top brought up -/
theorem SS.first {σ : St} {H : Hp} {ρ : List T} {vs xs : List V} {τ ts : List T} {v : V} {t : T} (h : SS C σ H ρ (vs ++ (v :: xs)) (τ ++ (t :: ts))) (hl : ts.length = xs.length) : SS C σ H ρ (vs ++ xs ++ [v]) (τ ++ ts ++ [t]) := by
  obtain ⟨ow, I⟩ := h
  have hτ : τ.length = vs.length := by have := I.lt; simp at this; omega
  let n := ρ.length + τ.length
  have J := SI.temps (us := ts ++ [t]) (ys := xs ++ [v]) I hτ (Same.refl H) (by simp [hl]) (fun j => if j < ts.length then ow (n + (j + 1)) else if j = ts.length then ow n else []) rfl
    (ow' := fun k => if k < ρ.length + τ.length then ow k else (fun j => if j < ts.length then ow (n + (j + 1)) else if j = ts.length then ow n else []) (k - (ρ.length + τ.length)))
    (fun m1 m2 j u e => by
      by_cases hj : j < ts.length
      · rw [List.getElem?_append_left hj] at e
        obtain ⟨w, hw, r⟩ := I.temp (j := τ.length + (j + 1)) (t := u) (by rw [List.getElem?_append_right (by omega)]; simpa using e)
        rw [hτ, List.getElem?_append_right (by omega)] at hw
        simp at hw
        refine ⟨w, by rw [List.getElem?_append_left (by omega)]; exact hw, ?_⟩
        simp only [if_pos hj]
        have e2 : ρ.length + (τ.length + (j + 1)) = n + (j + 1) := by omega
        rw [e2] at r
        exact r.move m1 m2 (fun _ _ _ q => q) (.inl rfl)
      · have hj2 : j = ts.length := by
          have := (List.getElem?_eq_some_iff.mp e).1
          simp at this; omega
        subst hj2
        simp at e; subst e
        obtain ⟨w, hw, r⟩ := I.temp (j := τ.length) (t := t) (by rw [List.getElem?_append_right (by omega)]; simp)
        rw [hτ, List.getElem?_append_right (by omega)] at hw
        simp at hw; subst hw
        refine ⟨v, by rw [hl]; simp, ?_⟩
        simp only [if_neg (Nat.lt_irrefl _), if_true]
        exact r.move m1 m2 (fun _ _ _ q => q) (.inl rfl))
    (fun j => by
      by_cases hj : j < ts.length
      · simp only [if_pos hj]; exact I.nd _
      · simp only [if_neg hj]
        by_cases hj2 : j = ts.length
        · simp only [if_pos hj2]; exact I.nd _
        · simp [if_neg hj2])
    (fun i j a hij hi => by
      by_cases h1 : i < ts.length
      · simp only [if_pos h1] at hi
        by_cases h2 : j < ts.length
        · simp only [if_pos h2]; exact I.dj _ _ a (by omega) hi
        · simp only [if_neg h2]
          by_cases h3 : j = ts.length
          · simp only [if_pos h3]; exact I.dj _ _ a (by omega) hi
          · simp [if_neg h3]
      · simp only [if_neg h1] at hi
        by_cases h4 : i = ts.length
        · simp only [if_pos h4] at hi
          by_cases h2 : j < ts.length
          · simp only [if_pos h2]; exact I.dj _ _ a (by omega) hi
          · simp only [if_neg h2]
            by_cases h3 : j = ts.length
            · omega
            · simp [if_neg h3]
        · simp [if_neg h4] at hi)
    (fun j a h => by
      by_cases hj : j < ts.length
      · simp only [if_pos hj] at h; exact .inl ⟨_, by omega, h⟩
      · simp only [if_neg hj] at h
        by_cases hj2 : j = ts.length
        · simp only [if_pos hj2] at h; exact .inl ⟨_, by omega, h⟩
        · simp [if_neg hj2] at h)
    (fun j a h => by
      by_cases hj : j < ts.length
      · simp only [if_pos hj] at h; exact I.ot _ a h
      · simp only [if_neg hj] at h
        by_cases hj2 : j = ts.length
        · simp only [if_pos hj2] at h; exact I.ot _ a h
        · simp [if_neg hj2] at h)
  exact ⟨_, by simpa using J⟩
def dgCons (g : DG) (gs : DGs) : DGs := fun ts ρ Q => match ts with
  | t :: ts => g t ρ fun ρ1 => gs ts ρ1 Q
  | [] => False
variable {e : Expr} {es : List Expr} {g : DG} {gs : DGs}
theorem dgs_cons (h1 : DPG C e g) (h2 : DPGs C es gs) (hs : (assignEach (e :: es) C.X.env).map (·.2) = assign e C.X.env :: (assignEach es C.X.env).map (·.2) := by rfl) : DPGs C (e :: es) (dgCons g gs) :=
  let ⟨_, p1, s1⟩ := h1.ex; let ⟨_, p2, s2⟩ := h2.ex
  ⟨_, pgs_cons p1 p2 hs, fun σ H ρ vs τ xs ts Qd Q I hl na nt q k => by
    unfold dgCons at q
    split at q
    · rename_i t ts
      match xs, hl with
      | v :: xs, hl =>
        simp [noAliL] at nt
        refine ⟨v, xs, rfl, s1 σ H ρ (vs ++ xs) (τ ++ ts) v t _ _ (I.first (by simpa using hl)) (by rw [noAliL_append, na, nt.2]; rfl) q fun σ' H' ρ' I' q' => ?_⟩
        exact s2 σ' H' ρ' vs τ xs ts _ _ I' (by simpa using hl) na nt.2 q' k
    · exact q.elim⟩
/-- the parts of a tuple (a list) -/
def partsT : T → Option (List T)
  | .dat (.tuple ds) => some (ds.map .dat)
  | .dat (.list ds) => some (ds.map .dat)
  | .bor (.tuple ds) => some (ds.map .bor)
  | .bor (.list ds) => some (ds.map .bor)
  | .own ds => some (ds.map .dat)
  | .tup ts => some ts
  | _ => none
def dgTup (n : Nat) (gs : DGs) : DG := fun t ρ Q => match noAli t with
  | true => wO (partsT t) fun ts => ts.length = n ∧ gs ts ρ Q
  | false => False
theorem noAli_dat : ∀ ds : List D, noAliL (ds.map T.dat) = true
  | [] => rfl
  | _ :: ds => by simp [noAliL, noAli, noAli_dat ds]
theorem noAli_bor : ∀ ds : List D, noAliL (ds.map T.bor) = true
  | [] => rfl
  | _ :: ds => by simp [noAliL, noAli, noAli_bor ds]
end
section
variable {C : Ctx} {σ : St} {H : Hp} {ρ : List T} {vs xs : List V} {τ : List T} {v : V} {t : T} {ow : Nat → List Addr}
theorem DIsL.datL {K : PySem.W.Frag} {B Bb : Addr → Prop} : ∀ {ds : List D} {xs : List V}, DIsL K B H ds xs → TIsL K B Bb σ H (ds.map T.dat) xs []
  | _, _, .nil => .nil
  | _, _, .cons r t => .cons (o1 := []) (o2 := []) (.dat r) (DIsL.datL t)
theorem DIsL.borL {K : PySem.W.Frag} {B Bb : Addr → Prop} : ∀ {ds : List D} {xs : List V}, DIsL K Bb H ds xs → TIsL K B Bb σ H (ds.map T.bor) xs []
  | _, _, .nil => .nil
  | _, _, .cons r t => .cons (o1 := []) (o2 := []) (.bor r) (DIsL.borL t)
/-- parts of the lists that one tree owns, apart -/
theorem TIsL.split {K : PySem.W.Frag} {B Bb : Addr → Prop} : ∀ {ts : List T} {xs : List V} {os : List Addr}, TIsL K B Bb σ H ts xs os → os.Nodup → ∃ f : Nat → List Addr, (∀ (j : Nat) (t : T), ts[j]? = some t → ∃ v, xs[j]? = some v ∧ TIs K B Bb σ H t v (f j)) ∧
    (∀ j, (f j).Nodup) ∧ (∀ i j a, i ≠ j → a ∈ f i → a ∉ f j) ∧ ∀ j a, a ∈ f j → a ∈ os
  | _, _, _, .nil, _ => ⟨fun _ => [], fun j t e => by simp at e, fun _ => List.nodup_nil, fun _ _ _ _ z => by simp at z, fun _ _ z => by simp at z⟩
  | t :: ts, x :: xs, _, .cons (o1 := o1) (o2 := o2) r q, nd => by
    have nd' := List.nodup_append.mp nd
    obtain ⟨f, h1, h2, h3, h4⟩ := TIsL.split q nd'.2.1
    refine ⟨fun j => match j with | 0 => o1 | j + 1 => f j, fun j u e => ?_, fun j => ?_, fun i j a hij hi => ?_, fun j a h => ?_⟩
    · cases j with
      | zero => simp at e; subst e; exact ⟨x, rfl, r⟩
      | succ j => exact h1 j u (by simpa using e)
    · cases j with
      | zero => exact nd'.1
      | succ j => exact h2 j
    · cases i with
      | zero => cases j with
        | zero => exact absurd rfl hij
        | succ j => exact fun z => nd'.2.2 a hi a (h4 j a z) rfl
      | succ i => cases j with
        | zero => exact fun z => nd'.2.2 a z a (h4 i a hi) rfl
        | succ j => exact h3 i j a (by omega) hi
    · cases j with
      | zero => exact List.mem_append_left _ h
      | succ j => exact List.mem_append_right _ (h4 j a h)
/-- the top taken apart -/
theorem SS.apart (I : SS C σ H ρ (vs ++ [v]) (τ ++ [t])) {us : List T} (e : partsT t = some us) : ∃ a xs, v = .ref a ∧ (SqT C.K H a xs ∨ SqL C.K H a xs) ∧ us.length = xs.length ∧ SS C σ H ρ (vs ++ xs) (τ ++ us) := by
  obtain ⟨ow, J⟩ := I
  have top := J.top
  have go : ∀ {us : List T} {xs : List V} {os : List Addr}, TIsL C.K (Bar C ow) (BarB C ow) (wipe σ C.cv) H us xs os → os.Nodup → (∀ a, a ∈ os → a ∈ ow (ρ.length + τ.length)) → SS C σ H ρ (vs ++ xs) (τ ++ us) := fun {us xs os} r nd sub => by
    obtain ⟨f, h1, h2, h3, h4⟩ := r.split nd
    have hl := r.length
    refine ⟨_, SI.temps (us := us) (ys := xs) (ow' := fun k => if k < ρ.length + τ.length then ow k else (fun j => if j < us.length then f j else []) (k - (ρ.length + τ.length))) J J.lt1 (Same.refl H) hl (fun j => if j < us.length then f j else []) rfl (fun m1 m2 j u e => ?_) (fun j => ?_) (fun i j a hij hi => ?_) (fun j a h => ?_) (fun j a h => ?_)⟩
    · obtain ⟨w, hw, q⟩ := h1 j u e
      refine ⟨w, hw, ?_⟩
      have hj : j < us.length := (List.getElem?_eq_some_iff.mp e).1
      simp only [if_pos hj]
      exact q.move m1 m2 (fun _ _ _ q => q) (.inl rfl)
    · show (if j < us.length then f j else []).Nodup
      split
      · exact h2 j
      · exact List.nodup_nil
    · have hi : a ∈ (if i < us.length then f i else []) := hi
      show a ∉ (if j < us.length then f j else [])
      split at hi
      · split
        · exact h3 i j a hij hi
        · simp
      · simp at hi
    · have h : a ∈ (if j < us.length then f j else []) := h
      split at h
      · exact .inl ⟨_, Nat.le_refl _, sub a (h4 j a h)⟩
      · simp at h
    · have h : a ∈ (if j < us.length then f j else []) := h
      split at h
      · exact J.ot _ a (sub a (h4 j a h))
      · simp at h
  have hnd := J.nd (ρ.length + τ.length)
  generalize hos : ow (ρ.length + τ.length) = os at top go hnd
  cases top with
  | dat d =>
    cases d with
    | list e0 n q => simp [partsT] at e; subst e; exact ⟨_, _, rfl, .inr (.of e0), by rw [List.length_map]; exact q.length, go (q.datL) List.nodup_nil fun _ z => by simp at z⟩
    | tuple e0 q => simp [partsT] at e; subst e; exact ⟨_, _, rfl, .inl e0.sq, by rw [List.length_map]; exact q.length, go (q.datL) List.nodup_nil fun _ z => by simp at z⟩
    | _ => simp [partsT] at e
  | bor d =>
    cases d with
    | list e0 n q => simp [partsT] at e; subst e; exact ⟨_, _, rfl, .inr (.of e0), by rw [List.length_map]; exact q.length, go (q.borL) List.nodup_nil fun _ z => by simp at z⟩
    | tuple e0 q => simp [partsT] at e; subst e; exact ⟨_, _, rfl, .inl e0.sq, by rw [List.length_map]; exact q.length, go (q.borL) List.nodup_nil fun _ z => by simp at z⟩
    | _ => simp [partsT] at e
  | own e0 q => simp [partsT] at e; subst e; exact ⟨_, _, rfl, .inr (.of e0), by rw [List.length_map]; exact q.length, go (q.datL) List.nodup_nil fun _ z => by simp at z⟩
  | tup e0 n q => simp [partsT] at e; subst e; exact ⟨_, _, rfl, .inl (.of e0), q.length, go q hnd fun _ z => z⟩
  | _ => simp [partsT] at e
end
theorem pg_or {X : Cx} {e : Expr} {g g' : TG} (h : PG X e g) (h' : PG X e g') : PG X e (fun v σ H Q => g v σ H Q ∨ g' v σ H Q) :=
  ⟨fun pins s σ H v u Q I r q => q.elim (h.run pins s σ H v u Q I r) (h'.run pins s σ H v u Q I r)⟩
section
variable {C : Ctx} {pos : Pos} {es : List Expr} {gs : DGs} {k : Nat} {n : Nat}
theorem noAli_parts : ∀ {t : T} {us : List T}, noAli t = true → partsT t = some us → noAliL us = true := fun {t us} h e => by
  unfold partsT at e
  split at e <;> simp at e <;> subst e <;> first | exact noAli_dat _ | exact noAli_bor _ | (simpa [noAli] using h)
theorem dg_tup (hc : C.X.calm = true) (h : DPGs C es gs) (hn : (assignEach es C.X.env).length = n := by rfl) (hst : (assignEach es C.X.env).findIdx? (·.1) = none := by rfl) : DPG C (.Tuple es k pos) (dgTup n gs) :=
  let ⟨_, p, s⟩ := h.ex
  ⟨_, pg_or (pg_tup hc p hn hst) (pg_lst hc p hn hst), fun σ H ρ vs τ v t Qd Q I na q k => by
    obtain ⟨nt, q⟩ := na_ok q
    obtain ⟨us, e, hl, q⟩ := wO_some q
    obtain ⟨a, xs, rfl, hq, hlen, I'⟩ := I.apart e
    have fin := s σ H ρ vs τ xs us Qd Q I' hlen na (noAli_parts nt e) q k
    rcases hq with hq | hq
    · exact .inl ⟨a, xs, rfl, hq, by omega, fin⟩
    · exact .inr ⟨a, xs, rfl, hq, by omega, fin⟩⟩
end

/-! ### statements -/
structure DEnds where
  nx : List T → Prop
  rt : T → List T → Prop
  bk : List T → Prop := fun _ => False
  ct : List T → Prop := fun _ => False
abbrev DS := DEnds → List T → Prop
structure EndsOk (C : Ctx) (vs : List V) (τ : List T) (Dd : DEnds) (D : Ends) : Prop where
  nx : ∀ σ H ρ, SS C σ H ρ vs τ → Dd.nx ρ → D.nx σ H
  rt : ∀ σ H ρ v x, SS C σ H ρ (vs ++ [v]) (τ ++ [x]) → Dd.rt x ρ → D.rt v H
  bk : ∀ σ H ρ, SS C σ H ρ vs τ → Dd.bk ρ → D.bk σ H
  ct : ∀ σ H ρ, SS C σ H ρ vs τ → Dd.ct ρ → D.ct σ H
def SimS (C : Ctx) (t : TS) (f : DS) : Prop := ∀ (σ : St) (H : Hp) (ρ : List T) (vs : List V) (τ : List T) (Dd : DEnds) (D : Ends), SS C σ H ρ vs τ → noAliL τ = true → f Dd ρ → EndsOk C vs τ Dd D → t D σ H
structure DPS (C : Ctx) (st : Stmt) (f : DS) : Prop where
  ex : ∃ t, PS C.X st t ∧ SimS C t f
structure DPSs (C : Ctx) (st : List Stmt) (f : DS) : Prop where
  ex : ∃ t, PSs C.X st t ∧ SimS C t f
def dNext : DS := fun D ρ => D.nx ρ
/-- one behind another; it does not unfold by itself -/
structure dSeq (f g : DS) (D : DEnds) (ρ : List T) : Prop where
  run : f { D with nx := fun ρ1 => g D ρ1 } ρ
def dAsg (f : DE) (g : DG) : DS := fun D ρ => f ρ fun x ρ1 => g x ρ1 D.nx
def dDrop (f : DE) : DS := fun D ρ => f ρ fun _ ρ1 => D.nx ρ1
def retT (R : T → List T → Prop) (x : T) (ρ : List T) : Prop := match x with
  | .bor d => safe d = true ∧ R (.dat d) ρ
  | .ali _ => False
  | x => match noAli x with
    | true => R x ρ
    | false => False
def dRet (f : DE) : DS := fun D ρ => f ρ fun x ρ1 => retT D.rt x ρ1
def dIfS (c : DTt) (f g : DS) : DS := fun D ρ => c ρ fun b ρ1 => br b (f D ρ1) (g D ρ1)
section
variable {C : Ctx} {st : Stmt} {rest : List Stmt} {f g : DS} {fe : DE} {e tg c : Expr} {pos pos' : Pos} {dg : DG} {tc : DTt} {i : Nat} {x : Str}
theorem dss_nil : DPSs C [] dNext := ⟨_, pss_nil, fun σ H ρ vs τ Dd D I _ h k => k.nx _ _ _ I h⟩
theorem dss_cons (h : DPS C st f) (h2 : DPSs C rest g) : DPSs C (st :: rest) (dSeq f g) :=
  let ⟨_, p, s⟩ := h.ex; let ⟨_, p2, s2⟩ := h2.ex
  ⟨_, pss_cons p p2, fun σ H ρ vs τ Dd D I na h k => s σ H ρ vs τ { Dd with nx := fun ρ1 => g Dd ρ1 } _ I na h.run ⟨fun σ1 H1 ρ1 I1 q => s2 σ1 H1 ρ1 vs τ Dd D I1 na q k, k.rt, k.bk, k.ct⟩⟩
theorem dss_one (h : DPS C st f) : DPSs C [st] f := let ⟨_, p, s⟩ := h.ex; ⟨_, pss_one p, s⟩
/-- the same for statements that no temporary stands behind (a def's own rows) -/
def SimS0 (C : Ctx) (t : TS) (f : DS) : Prop := ∀ (σ : St) (H : Hp) (ρ : List T) (Dd : DEnds) (D : Ends), SS C σ H ρ [] [] → f Dd ρ → EndsOk C [] [] Dd D → t D σ H
structure DPS0 (C : Ctx) (st : Stmt) (f : DS) : Prop where
  ex : ∃ t, PS C.X st t ∧ SimS0 C t f
structure DPSs0 (C : Ctx) (st : List Stmt) (f : DS) : Prop where
  ex : ∃ t, PSs C.X st t ∧ SimS0 C t f
theorem SimS.z {t : TS} (s : SimS C t f) : SimS0 C t f := fun σ H ρ Dd D I h k => s σ H ρ [] [] Dd D I rfl h k
theorem DPS.z (h : DPS C st f) : DPS0 C st f := let ⟨_, p, s⟩ := h.ex; ⟨_, p, s.z⟩
theorem DPSs.z {rows : List Stmt} (h : DPSs C rows f) : DPSs0 C rows f := let ⟨_, p, s⟩ := h.ex; ⟨_, p, s.z⟩
theorem dss0_cons (h : DPS0 C st f) (h2 : DPSs0 C rest g) : DPSs0 C (st :: rest) (dSeq f g) :=
  let ⟨_, p, s⟩ := h.ex; let ⟨_, p2, s2⟩ := h2.ex
  ⟨_, pss_cons p p2, fun σ H ρ Dd D I h k => s σ H ρ { Dd with nx := fun ρ1 => g Dd ρ1 } _ I h.run ⟨fun σ1 H1 ρ1 I1 q => s2 σ1 H1 ρ1 Dd D I1 q k, k.rt, k.bk, k.ct⟩⟩
theorem dss0_one (h : DPS0 C st f) : DPSs0 C [st] f := let ⟨_, p, s⟩ := h.ex; ⟨_, pss_one p, s⟩
theorem ds_pass : DPS C (.Pass pos) dNext := ⟨_, ps_pass, fun σ H ρ vs τ Dd D I _ h k => k.nx _ _ _ I h⟩
def dBreak : DS := fun D ρ => D.bk ρ
def dCont : DS := fun D ρ => D.ct ρ
theorem ds_break : DPS C (.Break pos) dBreak := ⟨_, ps_break, fun σ H ρ vs τ Dd D I _ h k => k.bk _ _ _ I h⟩
theorem ds_cont : DPS C (.Continue pos) dCont := ⟨_, ps_continue, fun σ H ρ vs τ Dd D I _ h k => k.ct _ _ _ I h⟩
def dNever : DS := fun _ _ => False
theorem ds_never : DPS C st dNever := ⟨_, ps_never, fun σ H ρ vs τ Dd D I _ h k => h.elim⟩
theorem dss_never : DPSs C rest dNever := ⟨_, pss_never, fun σ H ρ vs τ Dd D I _ h k => h.elim⟩
theorem ds_expr (h : DPE C e fe) (hs : swapsWith e none pos.line C.X.env = pure false := by rfl) : DPS C (.Expr e pos) (dDrop fe) :=
  let ⟨_, p, s⟩ := h.ex
  ⟨_, ps_expr p hs, fun σ H ρ vs τ Dd D I na h k => s σ H ρ vs τ _ _ I h fun v H1 x ρ1 I1 q => k.nx _ _ _ I1.pop q⟩
theorem ret_ok {fx : T} {v : V} {σ : St} {H : Hp} {ρ : List T} {vs : List V} {τ : List T} {R : T → List T → Prop} (I : SS C σ H ρ (vs ++ [v]) (τ ++ [fx])) (h : retT R fx ρ) : ∃ x, SS C σ H ρ (vs ++ [v]) (τ ++ [x]) ∧ R x ρ ∧ noAli x = true := by
  cases fx with
  | bor d =>
    obtain ⟨ow, J⟩ := I
    have top := J.top.bor_inv
    exact ⟨_, J.oneD J.lt1 (J.safe top h.1), h.2, rfl⟩
  | ali _ => exact h.elim
  | lst ts => obtain ⟨n, h⟩ := na_ok h; exact ⟨_, I, h, n⟩
  | tup ts => obtain ⟨n, h⟩ := na_ok h; exact ⟨_, I, h, n⟩
  | ins _ _ ts => obtain ⟨n, h⟩ := na_ok h; exact ⟨_, I, h, n⟩
  | dat _ => exact ⟨_, I, h, rfl⟩
  | own _ => exact ⟨_, I, h, rfl⟩
  | lbo _ => exact ⟨_, I, h, rfl⟩
  | dct _ => exact ⟨_, I, h, rfl⟩
  | scr _ => exact ⟨_, I, h, rfl⟩
  | exc _ => exact ⟨_, I, h, rfl⟩
  | emp => exact ⟨_, I, h, rfl⟩
theorem ds_ret (h : DPE C e fe) : DPS C (.Return (some e) pos) (dRet fe) :=
  let ⟨_, p, s⟩ := h.ex
  ⟨_, ps_ret p, fun σ H ρ vs τ Dd D I na h k => s σ H ρ vs τ _ _ I h fun v H1 x ρ1 I1 q => by
    obtain ⟨y, I2, q2, _⟩ := ret_ok I1 q
    exact k.rt _ _ _ _ _ I2 q2⟩
def dRetN : DS := fun D ρ => D.rt (.dat .none) ρ
theorem ds_retN : DPS C (.Return none pos) dRetN := ⟨_, ps_retN, fun σ H ρ vs τ Dd D I na h k => k.rt _ _ _ _ _ I.non h⟩
theorem ds_if {a b : List Stmt} (h : DPT C c tc) (ha : DPSs C a f) (hb : DPSs C b g) : DPS C (.If c a b pos) (dIfS tc f g) :=
  let ⟨_, p, s⟩ := h.ex; let ⟨_, pa, sa⟩ := ha.ex; let ⟨_, pb, sb⟩ := hb.ex
  ⟨_, ps_if p pa pb, fun σ H ρ vs τ Dd D I na h k => s σ H ρ vs τ _ _ I h fun b H1 ρ1 I1 q => by
    cases b with
    | true => rw [if_pos rfl]; exact sa σ H1 ρ1 vs τ Dd D I1 na (q.t rfl) k
    | false => rw [if_neg (by decide)]; exact sb σ H1 ρ1 vs τ Dd D I1 na (q.f rfl) k⟩
theorem sim_asg {te : TE} {g : TG} (hs : Sim C te fe) (hg : SimG C g dg) : SimS C (tAsg te g) (dAsg fe dg) := fun σ H ρ vs τ Dd D I na h k =>
  hs σ H ρ vs τ _ _ I h fun v H1 x ρ1 I1 q => hg σ H1 ρ1 vs τ v x _ _ I1 na q fun σ2 H2 ρ2 I2 q2 => k.nx _ _ _ I2 q2
theorem ds_asg (h : DPE C e fe) (hg : DPG C tg dg) (hs : swapsWithSole [tg] e pos.line C.X.env = pure false := by rfl) (hw : swappedStores [tg] e C.X.env = pure none := by rfl)
    (h1 : (assignEach [tg] C.X.env).map (·.2) = [assign tg C.X.env] := by rfl) : DPS C (.Assign [tg] e pos) (dAsg fe dg) :=
  let ⟨_, p, s⟩ := h.ex; let ⟨_, pg, sg⟩ := hg.ex
  ⟨_, ps_asg p pg hs hw h1, sim_asg s sg⟩
theorem ds_set (hN : C.X.N.Nodup) (hi : C.X.N[i]? = some x) (hx : Loc C.X.env.scope x) (nl : i ∉ C.lent) (h : DPE C e fe) (hs : swapsWith e (some (.Name x pos')) pos.line C.X.env = pure false := by rfl)
    (hf : C.X.fn x = true ∨ C.X.env.scope.names.lookup x = some .local := by first | exact .inl rfl | exact .inr rfl | assumption) : DPS C (.Assign [.Name x pos'] e pos) (dAsg fe (dgName i)) :=
  let ⟨_, p, s⟩ := h.ex
  let ⟨_, _, sg⟩ := (dg_name (pos := pos') hN hi hx nl hf).ex
  ⟨_, ps_set hN hi hx p hs hf, sim_asg s (by
    intro σ H ρ vs τ v t Qd Q I na q k
    obtain ⟨nt, q⟩ := na_ok q
    by_cases z : i < ρ.length
    · exact k _ _ _ (I.assign z nt (.inl na) nl) q
    · refine k _ _ ρ ?_ (by rw [getElem?_of_set z] at q; exact q)
      rw [getElem?_of_set (by rw [← I.lnN]; exact z)]
      exact I.pop)⟩
/-- x += e, x -= e of an int -/
def dAug (i : Nat) (op : Int → Int → Int) (f : DE) : DS := fun D ρ => wI ((ρ[i]?).bind toD) fun n => f ρ fun x ρ1 => wI (lk ρ1 x) fun m => D.nx (ρ1.set i (.dat (.int (op n m))))
theorem sim_aug {te : TE} {op : Int → Int → Int} (hs : Sim C te fe) (nl : i ∉ C.lent) : SimS C (tAug i te (ipI op)) (dAug i op fe) := fun σ H ρ vs τ Dd D I na h k => by
  obtain ⟨n, e1, h⟩ := wI_some h
  simp only [Option.bind_eq_some_iff] at e1
  obtain ⟨t, et, ed⟩ := e1
  obtain ⟨ow, J⟩ := id I
  rcases J.slot et with rfl | ⟨v, hv, r⟩
  · simp [toD] at ed
  · have ev : v = .int n := (r.toD ed).int_eq
    subst ev
    refine ⟨_, hv, hs σ H ρ vs τ _ _ I h fun w H1 x ρ1 I1 q => ?_⟩
    obtain ⟨m, em, q⟩ := wI_some q
    refine ⟨n, m, rfl, (I1.lk1 em).int_eq, ?_⟩
    have hi : i < σ.length := (List.getElem?_eq_some_iff.mp hv).1
    exact k.nx _ _ _ ((I1.pop.int _).assign (by rw [I1.lnN]; exact hi) rfl (.inl na) nl) q
theorem ds_augAdd (hN : C.X.N.Nodup) (hi : C.X.N[i]? = some x) (hx : Loc C.X.env.scope x) (nl : i ∉ C.lent) (h : DPE C e fe)
    (hf : C.X.fn x = true ∨ C.X.env.scope.names.lookup x = some .local := by first | exact .inl rfl | exact .inr rfl | assumption) : DPS C (.AugAssign (.Name x pos') .Add e pos) (dAug i (fun a b => a + b) fe) :=
  let ⟨_, p, s⟩ := h.ex; ⟨_, ps_aug hN hi hx p ip_add hf, sim_aug s nl⟩
theorem ds_augSub (hN : C.X.N.Nodup) (hi : C.X.N[i]? = some x) (hx : Loc C.X.env.scope x) (nl : i ∉ C.lent) (h : DPE C e fe)
    (hf : C.X.fn x = true ∨ C.X.env.scope.names.lookup x = some .local := by first | exact .inl rfl | exact .inr rfl | assumption) : DPS C (.AugAssign (.Name x pos') .Sub e pos) (dAug i (fun a b => a - b) fe) :=
  let ⟨_, p, s⟩ := h.ex; ⟨_, ps_aug hN hi hx p ip_sub hf, sim_aug s nl⟩
end

/-! ### while -/
def dWhile (c : DTt) (f : DS) : DS := fun D ρ => ∃ W : Nat → List T → Prop, (∃ m, W m ρ) ∧ ∀ m ρ, W m ρ → c ρ fun b ρ1 => br b (f { D with nx := fun ρ2 => ∃ m', m' < m ∧ W m' ρ2, ct := fun ρ2 => ∃ m', m' < m ∧ W m' ρ2, bk := D.nx } ρ1) (D.nx ρ1)
section
variable {C : Ctx} {f : DS} {c : Expr} {body : List Stmt} {tc : DTt} {pos : Pos}
theorem ds_while (hp : PassesOwn (model C.X.prog C.X.w) C.X.A C.X.env C.X.xe) (hc : DPT C c tc) (hb : DPSs C body f) : DPS C (.While c body [] pos) (dWhile tc f) :=
  let ⟨_, p, s⟩ := hc.ex; let ⟨_, pb, sb⟩ := hb.ex
  ⟨_, ps_while hp p pb, fun σ H ρ vs τ Dd D I na h k => by
    obtain ⟨W, ⟨m0, w0⟩, turn⟩ := h
    refine ⟨fun m σ H => ∃ ρ, SS C σ H ρ vs τ ∧ W m ρ, ⟨m0, ρ, I, w0⟩, ?_⟩
    rintro m σ1 H1 ⟨ρ1, I1, w1⟩
    refine s σ1 H1 ρ1 vs τ _ _ I1 (turn m ρ1 w1) fun b H2 ρ2 I2 q => ?_
    cases b with
    | true =>
      rw [if_pos rfl]
      refine ⟨fun σ' H' => ∃ ρ', SS C σ' H' ρ' vs τ ∧ ∃ m', m' < m ∧ W m' ρ', fun σ' H' ⟨ρ', I', m', hm, w⟩ => ⟨m', hm, ρ', I', w⟩, ?_⟩
      exact sb σ1 H2 ρ2 vs τ _ _ I2 na (q.t rfl) ⟨fun σ' H' ρ' I' q => ⟨ρ', I', q⟩, k.rt, k.nx, fun σ' H' ρ' I' q => ⟨ρ', I', q⟩⟩
    | false => rw [if_neg (by decide)]; exact k.nx _ _ _ I2 (q.f rfl)⟩
end

/-! ### what is walked -/
/-- an iterator over its: its sources stay among the temporaries -/
def WalksD (C : Ctx) (J : It) (sv : List V) (sx : List T) (its : List T) : Prop := ∀ (i : Nat) (σ : St) (H : Hp) (ρ : List T) (vs : List V) (τ : List T), τ.length = vs.length → SS C σ H ρ (vs ++ sv) (τ ++ sx) →
  (its.length ≤ i → J.stop i H) ∧ ∀ t, its[i]? = some t → J.go i H ∧ ∀ w H', J.yld i H w H' → SS C σ H' ρ (vs ++ sv ++ [w]) (τ ++ sx ++ [t])
abbrev DI := List T → (List T → List T → Prop) → Prop
def SimI (C : Ctx) (wi : TI) (f : DI) : Prop := ∀ (σ : St) (H : Hp) (ρ : List T) (vs : List V) (τ : List T) (Qd : List T → List T → Prop) (R : It → Hp → Prop), SS C σ H ρ vs τ → f ρ Qd →
  (∀ J H' sv sx its ρ', SS C σ H' ρ' (vs ++ sv) (τ ++ sx) → noAliL sx = true → WalksD C J sv sx its → Qd its ρ' → R J H') → wi σ H R
structure DPI (C : Ctx) (tg it : Expr) (f : DI) : Prop where
  ex : ∃ wi, PI C.X tg it wi ∧ SimI C wi f
theorem SS.ltE {C : Ctx} {σ : St} {H : Hp} {ρ : List T} {vs : List V} {τ : List T} (h : SS C σ H ρ vs τ) : τ.length = vs.length := let ⟨_, I⟩ := h; I.lt
def dFor (g : DG) (f : DS) (D : DEnds) : List T → List T → Prop
  | [], ρ => D.nx ρ
  | t :: ts, ρ => g t ρ fun ρ1 => f { D with nx := fun ρ2 => dFor g f D ts ρ2, ct := fun ρ2 => dFor g f D ts ρ2, bk := D.nx } ρ1
def dForS (fi : DI) (g : DG) (f : DS) : DS := fun D ρ => fi ρ fun its ρ1 => dFor g f D its ρ1
section
variable {C : Ctx} {f : DS} {fi : DI} {dg : DG} {tg it : Expr} {body : List Stmt} {pos : Pos}
theorem ds_for (hp : PassesOwn (model C.X.prog C.X.w) C.X.A C.X.env C.X.xe) (hc : C.X.calm = true) (hi : DPI C tg it fi) (hg : DPG C tg dg) (hb : DPSs C body f) (hs : ∀ x, foldedSetIterable it C.X.env x = pure x := by intro _; rfl) :
    DPS C (.For tg it body [] pos) (dForS fi dg f) :=
  let ⟨_, p, s⟩ := hi.ex; let ⟨_, pg, sg⟩ := hg.ex; let ⟨_, pb, sb⟩ := hb.ex
  ⟨_, ps_for hp hc p pg pb hs, fun σ H ρ vs τ Dd D I na h k => s σ H ρ vs τ _ _ I h fun J H1 sv sx its ρ1 I1 nx wk q => by
    have na1 : noAliL (τ ++ sx) = true := by rw [noAliL_append, na, nx]; rfl
    have hτ := I.ltE
    refine ⟨fun i m σ H => m = its.length - i ∧ i ≤ its.length ∧ ∃ ρ, SS C σ H ρ (vs ++ sv) (τ ++ sx) ∧ dFor dg f Dd (its.drop i) ρ, ⟨_, rfl, Nat.zero_le _, ρ1, I1, q⟩, ?_⟩
    rintro i m σ2 H2 ⟨rfl, hi, ρ2, I2, q2⟩
    obtain ⟨st, go⟩ := wk i σ2 H2 ρ2 vs τ hτ I2
    by_cases hlt : i < its.length
    · have e : its[i]? = some its[i] := List.getElem?_eq_getElem hlt
      obtain ⟨g1, y⟩ := go _ e
      refine .inr ⟨g1, fun σ' H' => ∃ ρ', SS C σ' H' ρ' (vs ++ sv) (τ ++ sx) ∧ dFor dg f Dd (its.drop (i + 1)) ρ', fun σ' H' ⟨ρ', I', q'⟩ => ⟨_, by omega, rfl, by omega, ρ', I', q'⟩, fun w H3 hy => ?_⟩
      have I3 := y w H3 hy
      rw [List.drop_eq_getElem_cons hlt] at q2
      exact sg σ2 H3 ρ2 _ _ w _ _ _ I3 na1 q2 fun σ4 H4 ρ4 I4 q4 => sb σ4 H4 ρ4 _ _ _ _ I4 na1 q4
        ⟨fun σ' H' ρ' I' q' => ⟨ρ', I', q'⟩, fun σ' H' ρ' u z I' q' => k.rt _ _ _ _ _ (I'.nip hτ) q', fun σ' H' ρ' I' q' => k.nx _ _ _ (I'.drop hτ) q', fun σ' H' ρ' I' q' => ⟨ρ', I', q'⟩⟩
    · have e : i = its.length := by omega
      subst e
      rw [List.drop_length] at q2
      exact .inl ⟨st (Nat.le_refl _), k.nx _ _ _ (I2.drop hτ) q2⟩⟩
end
/-- an invariant over the turns -/
theorem dFor_inv {g : DG} {f : DS} {D : DEnds} {its : List T} {ρ : List T} (Pv : Nat → List T → Prop) (h0 : Pv 0 ρ)
    (hs : ∀ i t ρ (K : List T → Prop), its[i]? = some t → Pv i ρ → (∀ ρ', Pv (i + 1) ρ' → K ρ') → g t ρ fun ρ1 => f { D with nx := K, ct := K, bk := D.nx } ρ1) (hd : ∀ ρ, Pv its.length ρ → D.nx ρ) : dFor g f D its ρ := by
  have go : ∀ (l : List T) (i : Nat) ρ, its.drop i = l → Pv i ρ → i ≤ its.length → dFor g f D l ρ := by
    intro l
    induction l with
    | nil =>
      intro i ρ e p hi
      have : its.length ≤ i := List.drop_eq_nil_iff.mp e
      exact hd ρ (by rw [show its.length = i by omega]; exact p)
    | cons t l ih =>
      intro i ρ e p hi
      have hlt : i < its.length := by
        by_cases z : i < its.length
        · exact z
        · rw [List.drop_of_length_le (by omega)] at e; cases e
      rw [List.drop_eq_getElem_cons hlt] at e
      injection e with e1 e2
      exact hs i t ρ (fun ρ2 => dFor g f D l ρ2) (by rw [← e1]; exact List.getElem?_eq_getElem hlt) p fun ρ2 p2 => ih (i + 1) ρ2 e2 p2 (by omega)
  exact go its 0 ρ rfl h0 (Nat.zero_le _)
end Ds
namespace Ds
open PySem L2

/-- list or tuple, walked -/
def iSeqA (K : PySem.W.Frag) (tl : TE) : TI := fun σ H R => tl σ H fun x H1 => ∃ a, x = .ref a ∧ (((∃ xs, SqL K H1 a xs) ∧ R (Itl K a) H1) ∨ ((∃ xs, SqT K H1 a xs) ∧ R (Itt K a) H1))
theorem pi_seqA {X : Cx} {tg l : Expr} {tl : TE} (hl : PE X l tl) : PI X tg l (iSeqA X.K tl) := by
  refine ⟨fun pins s σ H R I h => ?_⟩
  refine thn (hl.run pins s σ H _ I h) fun v s1 ⟨x, H1, I1, r1, q1⟩ => ?_
  obtain ⟨a, e, q1⟩ := q1
  subst e
  cases r1
  rcases q1 with ⟨⟨xs, hq⟩, q⟩ | ⟨⟨xs, hq⟩, q⟩
  · obtain ⟨its, rv, p, hz⟩ := I1.list hq
    refine wpAny_pyIter_list p.isList ?_
    refine ⟨s1.heap.objs.size, [s1.heap.objs.size], _, _, H1, rfl, I1.kept (t' := s1.toks) fun b o e => Heap.get?_push_of_some _ e, turn_list a _, ⟨_, Heap.get?_push_size _ rfl, rfl, rfl⟩, fun b hb => ?_, q⟩
    have e : b = s1.heap.objs.size := by simpa using hb
    subst e
    exact I1.fpOk (Nat.le_refl _) (I1.hok.fresh (Nat.le_refl _))
  · obtain ⟨its, rv, p, hz⟩ := I1.tuple hq
    refine wpAny_pyIter_tuple (show s1.heap.IsTuple a its.toArray from p) ?_
    refine ⟨s1.heap.objs.size, [s1.heap.objs.size], _, _, H1, rfl, I1.kept (t' := s1.toks) fun b o e => Heap.get?_push_of_some _ e, turn_tuple a _, ⟨_, Heap.get?_push_size _ rfl, rfl, rfl⟩, fun b hb => ?_, q⟩
    have e : b = s1.heap.objs.size := by simpa using hb
    subst e
    exact I1.fpOk (Nat.le_refl _) (I1.hok.fresh (Nat.le_refl _))

/-- the items that a walk of x yields -/
def itemsT : T → Option (List T)
  | .dat (.list ds) => some (ds.map .dat)
  | .dat (.tuple ds) => some (ds.map .dat)
  | .bor (.list ds) => some (ds.map .bor)
  | .bor (.tuple ds) => some (ds.map .bor)
  | .own ds => some (ds.map .dat)
  | .lbo ds => some (ds.map .bor)
  | _ => none
def isL : T → Bool
  | .dat (.tuple _) => false
  | .bor (.tuple _) => false
  | _ => true
section
variable {C : Ctx} {σ : St} {H : Hp} {ρ : List T} {vs xs : List V} {τ ts : List T} {v : V} {t x : T} {ow : Nat → List Addr} {its : List T}
/-- what a source is -/
theorem SI.src (J : SI C σ H ρ vs τ ow) {os : List Addr} (r : TIs C.K (Bar C ow) (BarB C ow) (wipe σ C.cv) H x v os) (e : itemsT x = some its) : ∃ a zs, v = .ref a ∧ (isL x = true → SqL C.K H a zs) ∧ (isL x = false → SqT C.K H a zs) ∧ its.length = zs.length ∧
    ∀ (i : Nat) (t : T), its[i]? = some t → ∃ w, zs[i]? = some w ∧ TIs C.K (Bar C ow) (BarB C ow) (wipe σ C.cv) H t w [] := by
  have dd : ∀ {ds : List D} {zs : List V}, DIsL C.K (Bar C ow) H ds zs → (ds.map T.dat).length = zs.length ∧ ∀ (i : Nat) (t : T), (ds.map T.dat)[i]? = some t → ∃ w, zs[i]? = some w ∧ TIs C.K (Bar C ow) (BarB C ow) (wipe σ C.cv) H t w [] := fun {ds zs} q => by
    refine ⟨by rw [List.length_map]; exact q.length, fun i t e => ?_⟩
    rw [List.getElem?_map, Option.map_eq_some_iff] at e
    obtain ⟨d, e1, rfl⟩ := e
    obtain ⟨w, hw, q⟩ := q.get e1
    exact ⟨w, hw, .dat q⟩
  have bb : ∀ {ds : List D} {zs : List V}, DIsL C.K (BarB C ow) H ds zs → (ds.map T.bor).length = zs.length ∧ ∀ (i : Nat) (t : T), (ds.map T.bor)[i]? = some t → ∃ w, zs[i]? = some w ∧ TIs C.K (Bar C ow) (BarB C ow) (wipe σ C.cv) H t w [] := fun {ds zs} q => by
    refine ⟨by rw [List.length_map]; exact q.length, fun i t e => ?_⟩
    rw [List.getElem?_map, Option.map_eq_some_iff] at e
    obtain ⟨d, e1, rfl⟩ := e
    obtain ⟨w, hw, q⟩ := q.get e1
    exact ⟨w, hw, .bor q⟩
  cases r with
  | dat d =>
    cases d with
    | list e0 n q => simp [itemsT] at e; subst e; exact ⟨_, _, rfl, fun _ => .of e0, fun z => by simp [isL] at z, dd q⟩
    | tuple e0 q => simp [itemsT] at e; subst e; exact ⟨_, _, rfl, fun z => by simp [isL] at z, fun _ => e0.sq, dd q⟩
    | _ => simp [itemsT] at e
  | bor d =>
    cases d with
    | list e0 n q => simp [itemsT] at e; subst e; exact ⟨_, _, rfl, fun _ => .of e0, fun z => by simp [isL] at z, bb q⟩
    | tuple e0 q => simp [itemsT] at e; subst e; exact ⟨_, _, rfl, fun z => by simp [isL] at z, fun _ => e0.sq, bb q⟩
    | _ => simp [itemsT] at e
  | own e0 q => simp [itemsT] at e; subst e; exact ⟨_, _, rfl, fun _ => .of e0, fun z => by simp [isL] at z, dd q⟩
  | lbo e0 q => simp [itemsT] at e; subst e; exact ⟨_, _, rfl, fun _ => .of e0, fun z => by simp [isL] at z, bb q⟩
  | _ => simp [itemsT] at e
theorem itemsT_na (e : itemsT x = some its) : noAli x = true := by
  unfold itemsT at e
  split at e <;> first | rfl | simp at e
end
section
variable {C : Ctx} {tg it e e2 : Expr} {fe : DE} {fs : DA} {pos p : Pos} {x y : T} {its its2 : List T} {σ : St} {H : Hp} {ρ : List T} {vs : List V} {τ : List T} {v w : V}
def dSeqI (f : DE) : DI := fun ρ Q => f ρ fun x ρ1 => wO (itemsT x) fun its => Q its ρ1
theorem SS.last {sv : List V} {sx : List T} (I : SS C σ H ρ (vs ++ sv) (τ ++ sx)) : SS C σ H ρ (vs ++ sv) (τ ++ sx) := I
/-- a value that owns nothing, told in the state as it is -/
theorem SS.push1 (I : SS C σ H ρ vs τ) {t : T} (ow : Nat → List Addr) (J : SI C σ H ρ vs τ ow) (r : TIs C.K (Bar C ow) (BarB C ow) (wipe σ C.cv) H t v []) : SS C σ H ρ (vs ++ [v]) (τ ++ [t]) := by
  have J' : SI C σ H ρ (vs ++ []) (τ ++ []) ow := by simpa using J
  exact J'.one J.lt (Same.refl H) v t [] (fun ow' m1 m2 _ => r.move m1 m2 (fun _ _ _ q => q) (.inl rfl)) List.nodup_nil (fun _ z => by simp at z) fun _ z => by simp at z
theorem walks_list {a : Addr} (e : itemsT x = some its) (hk : isL x = true) : WalksD C (Itl C.K a) [.ref a] [x] its := by
  intro i σ H ρ vs τ hτ I
  obtain ⟨ow, J⟩ := id I
  obtain ⟨a', zs, ea, hq, _, hlen, at_⟩ := J.src J.top e
  cases ea
  have hq := hq hk
  refine ⟨fun h => ⟨zs, hq, by omega⟩, fun t et => ?_⟩
  obtain ⟨w, hw, r⟩ := at_ i t et
  refine ⟨⟨zs, w, hq, hw⟩, fun w' H' hy => ?_⟩
  obtain ⟨rfl, hy⟩ := hy
  have := hy zs hq
  rw [hw] at this; cases this
  exact I.push1 ow J r
theorem walks_tup {a : Addr} (e : itemsT x = some its) (hk : isL x = false) : WalksD C (Itt C.K a) [.ref a] [x] its := by
  intro i σ H ρ vs τ hτ I
  obtain ⟨ow, J⟩ := id I
  obtain ⟨a', zs, ea, _, hq, hlen, at_⟩ := J.src J.top e
  cases ea
  have hq := hq hk
  refine ⟨fun h => ⟨zs, hq, by omega⟩, fun t et => ?_⟩
  obtain ⟨w, hw, r⟩ := at_ i t et
  refine ⟨⟨zs, w, hq, hw⟩, fun w' H' hy => ?_⟩
  obtain ⟨rfl, hy⟩ := hy
  have := hy zs hq
  rw [hw] at this; cases this
  exact I.push1 ow J r
theorem di_seq (h : DPE C it fe) : DPI C tg it (dSeqI fe) :=
  let ⟨_, p, s⟩ := h.ex
  ⟨_, pi_seqA p, fun σ H ρ vs τ Qd R I h k => s σ H ρ vs τ _ _ I h fun v H1 x ρ1 I1 q => by
    obtain ⟨its, e, q⟩ := wO_some q
    obtain ⟨ow, J⟩ := id I1
    obtain ⟨a, zs, rfl, h1, h2, _⟩ := J.src J.top e
    have na : noAliL [x] = true := by simp [noAliL, itemsT_na e]
    refine ⟨a, rfl, ?_⟩
    cases hk : isL x with
    | true => exact .inl ⟨⟨zs, h1 hk⟩, k _ _ _ _ _ _ I1 na (walks_list e hk) q⟩
    | false => exact .inr ⟨⟨zs, h2 hk⟩, k _ _ _ _ _ _ I1 na (walks_tup e hk) q⟩⟩

/-- ranges -/
def rngT (lo : Int) (n : Nat) : List T := (List.range n).map fun k => .dat (.int (lo + (k : Nat)))
def dRange1 (f : DA) : DI := fun ρ Q => f ρ fun ts ρ1 => match ts with
  | [x] => wI (lk ρ1 x) fun j => (-(2 ^ 62) ≤ j ∧ j < 2 ^ 62) ∧ Q (rngT 0 j.toNat) ρ1
  | _ => False
def dRange2 (f : DA) : DI := fun ρ Q => f ρ fun ts ρ1 => match ts with
  | [x, y] => wI (lk ρ1 x) fun i => wI (lk ρ1 y) fun j => (-(2 ^ 62) ≤ i ∧ i < 2 ^ 62 ∧ -(2 ^ 62) ≤ j ∧ j < 2 ^ 62) ∧ Q (rngT i (j - i).toNat) ρ1
  | _ => False
theorem rngT_get {lo : Int} {n i : Nat} {t : T} (e : (rngT lo n)[i]? = some t) : i < n ∧ t = .dat (.int (lo + (i : Nat))) := by
  unfold rngT at e
  rw [List.getElem?_map, Option.map_eq_some_iff] at e
  obtain ⟨k, e1, rfl⟩ := e
  obtain ⟨h1, h2⟩ := List.getElem?_eq_some_iff.mp e1
  simp at h1 h2
  subst h2
  exact ⟨h1, rfl⟩
theorem rngT_len {lo : Int} {n : Nat} : (rngT lo n).length = n := by simp [rngT]
theorem walks_rng {lo : Int} {n : Nat} : WalksD C (Itr lo n) [] [] (rngT lo n) := by
  intro i σ H ρ vs τ hτ I
  refine ⟨fun h => by rw [rngT_len] at h; exact h, fun t et => ?_⟩
  obtain ⟨h1, rfl⟩ := rngT_get et
  refine ⟨h1, fun w H' hy => ?_⟩
  obtain ⟨rfl, rfl⟩ := hy
  exact SS.int I _
theorem di_range1 (hg : Gl C.X "range") (hm : C.X.mg "range" = none) (ha : DPA C [e] fs) (hs : starEach [e] C.X.env = [(false, eval e C.X.env)] := by rfl) : DPI C tg (.Call (.Name "range" p) [e] [] pos) (dRange1 fs) :=
  let ⟨_, pa, sa⟩ := ha.ex
  ⟨_, pi_range1 hg hm pa hs, fun σ H ρ vs τ Qd R I h k => sa σ H ρ vs τ _ _ I h fun xs H1 ts ρ1 I1 hl q => by
    split at q
    · obtain ⟨v, rfl⟩ := len1 hl
      obtain ⟨j, ej, hb, q⟩ := wI_some q
      have I1' : SS C σ H1 ρ1 (vs ++ [v]) _ := I1
      exact ⟨j, by rw [(I1'.lk1 ej).int_eq], hb.1, hb.2, k _ _ [] [] _ _ (by simpa using I1'.pop) rfl walks_rng q⟩
    · exact q.elim⟩
theorem di_range2 (hg : Gl C.X "range") (hm : C.X.mg "range" = none) (ha : DPA C [e, e2] fs) (hs : starEach [e, e2] C.X.env = [(false, eval e C.X.env), (false, eval e2 C.X.env)] := by rfl) (hs2 : starEach [e2] C.X.env = [(false, eval e2 C.X.env)] := by rfl) :
    DPI C tg (.Call (.Name "range" p) [e, e2] [] pos) (dRange2 fs) :=
  let ⟨_, pa, sa⟩ := ha.ex
  ⟨_, pi_range2 hg hm pa hs hs2, fun σ H ρ vs τ Qd R I h k => sa σ H ρ vs τ _ _ I h fun xs H1 ts ρ1 I1 hl q => by
    split at q
    · obtain ⟨v, w, rfl⟩ := len2 hl
      obtain ⟨i, ei, q⟩ := wI_some q
      obtain ⟨j, ej, hb, q⟩ := wI_some q
      have hτ := I.ltE
      obtain ⟨v', hv, d1⟩ := I1.lkA hτ (j := 0) rfl ei
      obtain ⟨w', hw, d2⟩ := I1.lkA hτ (j := 1) rfl ej
      simp at hv hw
      subst hv hw
      exact ⟨i, j, by rw [d1.int_eq, d2.int_eq], hb, k _ _ [] [] _ _ (by simpa using I1.drop hτ) rfl walks_rng q⟩
    · exact q.elim⟩

/-- pairs of a place and an item, of two items -/
def pairT : T → T → T
  | .dat a, .dat b => .dat (.tuple [a, b])
  | a, b => .tup [a, b]
def enumT (its : List T) : List T := its.zipIdx.map fun q => pairT (.dat (.int (q.2 : Nat))) q.1
def zipT (its its2 : List T) : List T := (its.zip its2).map fun q => pairT q.1 q.2
theorem unow {K : PySem.W.Frag} {B Bb : Addr → Prop} {σ : St} {H : Hp} {t u : T} {v w : V} {p : Addr} (hp : H p = some (.tup [v, w])) (nb : ¬ B p) (r : TIs K B Bb σ H t v []) (r2 : TIs K B Bb σ H u w []) : TIs K B Bb σ H (pairT t u) (.ref p) [] := by
  unfold pairT
  split
  · exact .dat (.tuple (.inl ⟨.inl hp, nb⟩) (.cons r.dat_inv (.cons r2.dat_inv .nil)))
  · exact .tup hp nb (.cons (o1 := []) (o2 := []) r (.cons (o1 := []) (o2 := []) r2 .nil))
theorem SS.pushPair (I : SS C σ H ρ vs τ) (ow : Nat → List Addr) (J : SI C σ H ρ vs τ ow) {t u : T} {p : Addr} (hp : H p = none) (r : TIs C.K (Bar C ow) (BarB C ow) (wipe σ C.cv) H t v []) (r2 : TIs C.K (Bar C ow) (BarB C ow) (wipe σ C.cv) H u w []) :
    SS C σ (upd H p (.tup [v, w])) ρ (vs ++ [.ref p]) (τ ++ [pairT t u]) := by
  have J' : SI C σ H ρ (vs ++ []) (τ ++ []) ow := by simpa using J
  exact J'.one J.lt (same_upd hp) (.ref p) _ [] (fun ow' m1 m2 hb => unow upd_same (fun z => (hb p z).elim (J.nbar hp) (by simp)) (r.move m1 m2 (fun _ _ z => by simp at z) (.inl rfl)) (r2.move m1 m2 (fun _ _ z => by simp at z) (.inl rfl)))
    List.nodup_nil (fun _ z => by simp at z) fun _ z => by simp at z
def dEnumI (f : DA) : DI := fun ρ Q => f ρ fun ts ρ1 => match ts with
  | [x] => isL x = true ∧ wO (itemsT x) fun its => Q (enumT its) ρ1
  | _ => False
theorem walks_enum {a : Addr} (e : itemsT x = some its) (hk : isL x = true) : WalksD C (Ite C.K a) [.ref a] [x] (enumT its) := by
  intro i σ H ρ vs τ hτ I
  obtain ⟨ow, J⟩ := id I
  obtain ⟨a', zs, ea, hq, _, hlen, at_⟩ := J.src J.top e
  cases ea
  have hq := hq hk
  refine ⟨fun h => ⟨zs, hq, by simp [enumT] at h; omega⟩, fun t et => ?_⟩
  unfold enumT at et
  rw [List.getElem?_map, Option.map_eq_some_iff] at et
  obtain ⟨q, e1, rfl⟩ := et
  rw [List.getElem?_zipIdx] at e1
  simp only [Option.map_eq_some_iff] at e1
  obtain ⟨t, et, rfl⟩ := e1
  obtain ⟨w, hw, r⟩ := at_ i t et
  refine ⟨⟨zs, w, hq, hw⟩, fun w' H' hy => ?_⟩
  obtain ⟨p, w2, rfl, hp, rfl, hy⟩ := hy
  have := hy zs hq
  rw [hw] at this; cases this
  have e0 : 0 + i = i := by omega
  simp only [e0]
  exact I.pushPair ow J hp (.dat (.int _)) r
theorem di_enum {elts : List Expr} {kk : Nat} {tpos : Pos} (hg : Gl C.X "enumerate") (hm : C.X.mg "enumerate" = none) (ha : DPA C [e] fs) (hs : starEach [e] C.X.env = [(false, eval e C.X.env)] := by rfl) :
    DPI C (.Tuple elts kk tpos) (.Call (.Name "enumerate" p) [e] [] pos) (dEnumI fs) :=
  let ⟨_, pa, sa⟩ := ha.ex
  ⟨_, pi_enum hg hm pa hs, fun σ H ρ vs τ Qd R I h k => sa σ H ρ vs τ _ _ I h fun xs H1 ts ρ1 I1 hl q => by
    split at q
    · rename_i x
      obtain ⟨v, rfl⟩ := len1 hl
      obtain ⟨hk, q⟩ := q
      obtain ⟨its, e, q⟩ := wO_some q
      have I1' : SS C σ H1 ρ1 (vs ++ [v]) (τ ++ [x]) := I1
      obtain ⟨ow, J⟩ := id I1'
      obtain ⟨a, zs, rfl, h1, h2, _⟩ := J.src J.top e
      exact ⟨a, zs, rfl, h1 hk, k _ _ _ _ _ _ I1' (by simp [noAliL, itemsT_na e]) (walks_enum e hk) q⟩
    · exact q.elim⟩
def dZipI (f : DA) : DI := fun ρ Q => f ρ fun ts ρ1 => match ts with
  | [x, y] => isL x = isL y ∧ wO (itemsT x) fun its => wO (itemsT y) fun its2 => Q (zipT its its2) ρ1
  | _ => False
theorem zipT_get {i : Nat} {t : T} (e : (zipT its its2)[i]? = some t) : ∃ a b, its[i]? = some a ∧ its2[i]? = some b ∧ t = pairT a b := by
  unfold zipT at e
  rw [List.getElem?_map, Option.map_eq_some_iff] at e
  obtain ⟨q, e1, rfl⟩ := e
  rw [List.getElem?_zip_eq_some] at e1
  exact ⟨_, _, e1.1, e1.2, rfl⟩
theorem SI.two (J : SI C σ H ρ (vs ++ [v, w]) (τ ++ [x, y]) ow) (hτ : τ.length = vs.length) : (∃ o, TIs C.K (Bar C ow) (BarB C ow) (wipe σ C.cv) H x v o) ∧ ∃ o, TIs C.K (Bar C ow) (BarB C ow) (wipe σ C.cv) H y w o := by
  obtain ⟨v', hv, r⟩ := J.temp (j := τ.length) (t := x) (by rw [List.getElem?_append_right (by omega)]; simp)
  obtain ⟨w', hw, r2⟩ := J.temp (j := τ.length + 1) (t := y) (by rw [List.getElem?_append_right (by omega)]; simp)
  rw [hτ, List.getElem?_append_right (by omega)] at hv
  rw [hτ, List.getElem?_append_right (by omega)] at hw
  simp at hv hw
  subst hv hw
  exact ⟨⟨_, r⟩, ⟨_, r2⟩⟩
theorem di_zip {elts : List Expr} {kk : Nat} {tpos : Pos} (hg : Gl C.X "zip") (hm : C.X.mg "zip" = none) (ha : DPA C [e, e2] fs) (hs : starEach [e, e2] C.X.env = (false, eval e C.X.env) :: starEach [e2] C.X.env := by rfl) (hpl : (backTo pos (starEach [e2] C.X.env)).any (·.1) = false := by rfl) :
    DPI C (.Tuple elts kk tpos) (.Call (.Name "zip" p) [e, e2] [] pos) (dZipI fs) :=
  let ⟨_, pa, sa⟩ := ha.ex
  ⟨_, RZ.pi_zipA hg hm pa hs hpl, fun σ H ρ vs τ Qd R I h k => sa σ H ρ vs τ _ _ I h fun xs H1 ts ρ1 I1 hl q => by
    split at q
    · rename_i x y
      obtain ⟨v, w, rfl⟩ := len2 hl
      obtain ⟨hk, q⟩ := q
      obtain ⟨its, e, q⟩ := wO_some q
      obtain ⟨its2, e2, q⟩ := wO_some q
      have hτ := I.ltE
      obtain ⟨ow, J⟩ := id I1
      obtain ⟨⟨o1, r1⟩, ⟨o2, r2⟩⟩ := J.two hτ
      obtain ⟨a, zs, rfl, h1, h2, _⟩ := J.src r1 e
      obtain ⟨b, zs2, rfl, h3, h4, _⟩ := J.src r2 e2
      have na : noAliL [x, y] = true := by simp [noAliL, itemsT_na e, itemsT_na e2]
      refine ⟨a, b, zs, zs2, rfl, ?_⟩
      cases hx : isL x with
      | true =>
        have hy : isL y = true := hk ▸ hx
        refine .inl ⟨h1 hx, h3 hy, k _ _ _ _ _ _ I1 na (fun i σ H ρ vs τ hτ I => ?_) q⟩
        obtain ⟨ow, J⟩ := id I
        obtain ⟨⟨o1, r1⟩, ⟨o2, r2⟩⟩ := J.two hτ
        obtain ⟨a', zs, ea, hq, _, hlen, at_⟩ := J.src r1 e
        cases ea
        obtain ⟨b', zs2, ea, hq2, _, hlen2, at2⟩ := J.src r2 e2
        cases ea
        refine ⟨fun h => ⟨zs, zs2, hq hx, hq2 hy, by simp [zipT] at h; omega⟩, fun t et => ?_⟩
        obtain ⟨t1, t2, g1, g2, rfl⟩ := zipT_get et
        obtain ⟨w1, hw1, q1⟩ := at_ i t1 g1
        obtain ⟨w2, hw2, q2⟩ := at2 i t2 g2
        refine ⟨⟨zs, zs2, w1, w2, hq hx, hq2 hy, hw1, hw2⟩, fun w' H' hyl => ?_⟩
        obtain ⟨p, u1, u2, rfl, hp, rfl, y1, y2⟩ := hyl
        have := y1 zs (hq hx)
        rw [hw1] at this; cases this
        have := y2 zs2 (hq2 hy)
        rw [hw2] at this; cases this
        exact I.pushPair ow J hp q1 q2
      | false =>
        have hy : isL y = false := hk ▸ hx
        refine .inr ⟨h2 hx, h4 hy, k _ _ _ _ _ _ I1 na (fun i σ H ρ vs τ hτ I => ?_) q⟩
        obtain ⟨ow, J⟩ := id I
        obtain ⟨⟨o1, r1⟩, ⟨o2, r2⟩⟩ := J.two hτ
        obtain ⟨a', zs, ea, _, hq, hlen, at_⟩ := J.src r1 e
        cases ea
        obtain ⟨b', zs2, ea, _, hq2, hlen2, at2⟩ := J.src r2 e2
        cases ea
        refine ⟨fun h => ⟨zs, zs2, hq hx, hq2 hy, by simp [zipT] at h; omega⟩, fun t et => ?_⟩
        obtain ⟨t1, t2, g1, g2, rfl⟩ := zipT_get et
        obtain ⟨w1, hw1, q1⟩ := at_ i t1 g1
        obtain ⟨w2, hw2, q2⟩ := at2 i t2 g2
        refine ⟨⟨zs, zs2, w1, w2, hq hx, hq2 hy, hw1, hw2⟩, fun w' H' hyl => ?_⟩
        obtain ⟨p, u1, u2, rfl, hp, rfl, y1, y2⟩ := hyl
        have := y1 zs (hq hx)
        rw [hw1] at this; cases this
        have := y2 zs2 (hq2 hy)
        rw [hw2] at this; cases this
        exact I.pushPair ow J hp q1 q2
    · exact q.elim⟩
end
end Ds
namespace Ds
open PySem L2
open PyProof.Rows (envOfC)

/-! ### errors -/
def ExIs (K : PySem.W.Frag) (H : Hp) (ex : Exn) (cls : Value) (d : Option Addr) : Prop := PySem.W.nsIn K mainGlobals ex.cls = some (some cls) ∧ match ex.fs with
  | none => d = none
  | some fs => ∃ dx fv, d = some dx ∧ H dx = some (.xd fv) ∧ fv.map (·.1) = fs.map (·.1) ∧ DIsL K N0 H (fs.map (·.2)) (fv.map (·.2))
def relW (C : Ctx) : WX := fun cls d σ H => ∃ ex ρ, ExIs C.K H ex cls d ∧ SS C σ H ρ [] [] ∧ C.Wd ex ρ
def DTk (C : Ctx) : Prop := Takes C.X (relW C)

mutual
/-- what may be handed out: nothing borrowed, no alias -/
def clean : T → Bool
  | .bor _ => false
  | .lbo _ => false
  | .ali _ => false
  | .lst ts => cleanL ts
  | .tup ts => cleanL ts
  | .ins _ _ ts => cleanL ts
  | _ => true
def cleanL : List T → Bool
  | [] => true
  | t :: ts => clean t && cleanL ts
end
section
variable {K : PySem.W.Frag} {B B' Bb Bb' : Addr → Prop} {H H' : Hp} {σ σ' : St}
mutual
theorem clean_na : ∀ {t : T}, clean t = true → noAli t = true
  | .dat _, _ => rfl
  | .bor _, h => by simp [clean] at h
  | .own _, _ => rfl
  | .lbo _, h => by simp [clean] at h
  | .lst ts, h => by simp only [noAli]; exact cleanL_na (by simpa [clean] using h)
  | .tup ts, h => by simp only [noAli]; exact cleanL_na (by simpa [clean] using h)
  | .dct _, _ => rfl
  | .scr _, _ => rfl
  | .exc _, _ => rfl
  | .ins _ _ ts, h => by simp only [noAli]; exact cleanL_na (by simpa [clean] using h)
  | .ali _, h => by simp [clean] at h
  | .emp, _ => rfl
theorem cleanL_na : ∀ {ts : List T}, cleanL ts = true → noAliL ts = true
  | [], _ => rfl
  | t :: ts, h => by
    simp only [cleanL, Bool.and_eq_true] at h
    simp only [noAliL, Bool.and_eq_true]
    exact ⟨clean_na h.1, cleanL_na h.2⟩
end
mutual
theorem TIs.clean (h1 : ∀ b o, H b = some o → ¬ B b → H' b = some o ∧ ¬ B' b) : ∀ {t : T} {v : V} {os : List Addr}, (∀ b o, b ∈ os → H b = some o → H' b = some o) → Ds.clean t = true → TIs K B Bb σ H t v os → TIs K B' Bb' σ' H' t v os
  | _, _, _, _, _, .dat h => .dat (h.move h1)
  | _, _, _, _, c, .bor h => by simp [Ds.clean] at c
  | _, _, _, h3, _, .own e t => .own (h3 _ _ (by simp) e) (t.move h1)
  | _, _, _, _, c, .lbo e t => by simp [Ds.clean] at c
  | _, _, _, h3, c, .lst e t => .lst (h3 _ _ (by simp) e) (TIsL.clean h1 (fun b o hb => h3 b o (List.mem_cons_of_mem _ hb)) (by simpa [Ds.clean] using c) t)
  | _, _, _, h3, c, .tup e n t => .tup (h1 _ _ e n).1 (h1 _ _ e n).2 (TIsL.clean h1 h3 (by simpa [Ds.clean] using c) t)
  | _, _, _, h3, _, .dct e t q => .dct (h3 _ _ (by simp) e) (t.move h1) q
  | _, _, _, _, _, .scr h => .scr (h.move h1)
  | _, _, _, _, _, .exc h => .exc (h.move h1)
  | _, _, _, h3, c, .ins n e k t => .ins n (h3 _ _ (by simp) e) k (TIsL.clean h1 (fun b o hb => h3 b o (List.mem_cons_of_mem _ hb)) (by simpa [Ds.clean] using c) t)
  | _, _, _, _, c, .ali e => by simp [Ds.clean] at c
theorem TIsL.clean (h1 : ∀ b o, H b = some o → ¬ B b → H' b = some o ∧ ¬ B' b) : ∀ {ts : List T} {vs : List V} {os : List Addr}, (∀ b o, b ∈ os → H b = some o → H' b = some o) → Ds.cleanL ts = true → TIsL K B Bb σ H ts vs os → TIsL K B' Bb' σ' H' ts vs os
  | _, _, _, _, _, .nil => .nil
  | _, _, _, h3, c, .cons r t => by
    simp only [Ds.cleanL, Bool.and_eq_true] at c
    exact .cons (TIs.clean h1 (fun b o hb => h3 b o (List.mem_append_left _ hb)) c.1 r) (TIsL.clean h1 (fun b o hb => h3 b o (List.mem_append_right _ hb)) c.2 t)
end
end

/-! ### a def's promise over plain data -/
abbrev DSp := List T → (T → T → Prop) → (Exn → T → Prop) → Prop
structure Pre (K : PySem.W.Frag) (B0 : Addr → Prop) (H : Hp) (ln : Option Nat) (vs : List V) (ts : List T) (o : List Addr) : Prop where
  len : ts.length = vs.length
  na : noAliL ts = true
  arg : ∀ (j : Nat) (t : T), ts[j]? = some t → ∃ v, vs[j]? = some v ∧ TIs K (fun a => a ∈ o ∨ B0 a) (fun a => a ∈ o) [] H t v (if ln = some j then o else [])
  nd : o.Nodup
  nb : ∀ a ∈ o, ¬ B0 a
  ot : ∀ a ∈ o, ∃ u, H a = some u ∧ Chg u
  b0 : ∀ a, B0 a → ∃ u, H a = some u ∧ Chg u
structure PostC (H : Hp) (o : List Addr) (H' : Hp) : Prop where
  sm : ∀ b u, H b = some u → b ∉ o → H' b = some u
  tr : ∀ b, H b ≠ none → H' b ≠ none
/-- the lent argument at its end (t': none if nothing is lent) -/
def LentIs (K : PySem.W.Frag) (B Bb : Addr → Prop) (ln : Option Nat) (vs : List V) (H' : Hp) (t' : T) (go : List Addr) : Prop := match ln with
  | some j => clean t' = true ∧ ((t' = .emp ∧ go = []) ∨ ∃ w, vs[j]? = some w ∧ TIs K B Bb [] H' t' w go)
  | none => go = []
structure Post (K : PySem.W.Frag) (B0 : Addr → Prop) (H : Hp) (ln : Option Nat) (vs : List V) (o : List Addr) (r : T) (t' : T) (v : V) (H' : Hp) : Prop where
  ex : ∃ go ro : List Addr, TIs K (fun a => a ∈ go ∨ a ∈ ro ∨ B0 a) (fun a => a ∈ go ∨ a ∈ ro) [] H' r v ro ∧ LentIs K (fun a => a ∈ go ∨ a ∈ ro ∨ B0 a) (fun a => a ∈ go ∨ a ∈ ro) ln vs H' t' go ∧
    go.Nodup ∧ ro.Nodup ∧ (∀ a ∈ go, a ∉ ro) ∧ (∀ a, a ∈ go ∨ a ∈ ro → a ∈ o ∨ H a = none) ∧ ∀ a, a ∈ go ∨ a ∈ ro → ∃ u, H' a = some u ∧ Chg u
  na : clean r = true
  co : PostC H o H'
structure PostX (K : PySem.W.Frag) (B0 : Addr → Prop) (H : Hp) (ln : Option Nat) (vs : List V) (o : List Addr) (ex : Exn) (t' : T) (cls : Value) (d : Option Addr) (H' : Hp) : Prop where
  is : ExIs K H' ex cls d
  ex : ∃ go : List Addr, LentIs K (fun a => a ∈ go ∨ B0 a) (fun a => a ∈ go) ln vs H' t' go ∧ go.Nodup ∧ (∀ a ∈ go, a ∈ o ∨ H a = none) ∧ ∀ a ∈ go, ∃ u, H' a = some u ∧ Chg u
  co : PostC H o H'
def toSp (K : PySem.W.Frag) (n : Nat) (ln : Option Nat) (f : DSp) : Sp := fun vs H Q E => ∃ (B0 : Addr → Prop) (ts : List T) (o : List Addr), ts.length = n ∧ Pre K B0 H ln vs ts o ∧
  f ts (fun r t' => ∀ v H', Post K B0 H ln vs o r t' v H' → Q v H') (fun ex t' => ∀ cls d H', PostX K B0 H ln vs o ex t' cls d H' → E cls d H')

def lentOf (ln : Option Nat) (ρ : List T) : T := match ln with
  | some j => (ρ[j]?).getD .emp
  | none => .emp
def lentL (ln : Option Nat) : List Nat := match ln with
  | some j => [j]
  | none => []
/-- the slots at the entry -/
def slots0 (n : Nat) (ts : List T) : List T := ts ++ List.replicate (n - ts.length) .emp

section
variable {K : PySem.W.Frag} {B0 : Addr → Prop} {H : Hp} {ln : Option Nat} {vs : List V} {ts : List T} {o : List Addr}
theorem noAli_rep : ∀ n, noAliL (List.replicate n T.emp) = true
  | 0 => rfl
  | n + 1 => by simp [List.replicate_succ, noAliL, noAli, noAli_rep n]
/-- the state at the entry of a body -/
theorem Pre.start {X : Cx} {Wd : Exn → List T → Prop} {N : List Str} {cv : List Nat} (P : Pre X.K B0 H ln vs ts o) (hn : vs.length ≤ N.length) :
    SS ⟨X, Wd, B0, H, o, lentL ln, L2.start N vs, cv⟩ (L2.start N vs) H (slots0 N.length ts) [] [] := by
  have l1 : (slots0 N.length ts).length = N.length := by simp [slots0, P.len]; omega
  have l2 : (L2.start N vs).length = N.length := by simp [L2.start]; omega
  have hv : ∀ (k : Nat) (v : V), vs[k]? = some v → (L2.start N vs ++ List.map some [])[k]? = some (some v) := fun k v e => by
    have hk := (List.getElem?_eq_some_iff.mp e).1
    simp only [L2.start, List.map_nil, List.append_nil]
    rw [List.getElem?_append_left (by simpa using hk), List.getElem?_map, e]; rfl
  have ow_ : ∀ k, ((fun k => if ln = some k ∧ k < ts.length then o else []) k).Nodup := fun k => by
    show (if ln = some k ∧ k < ts.length then o else []).Nodup
    split
    · exact P.nd
    · exact List.nodup_nil
  refine ⟨fun k => if ln = some k ∧ k < ts.length then o else [], ⟨⟨fun a h => P.b0 a h, fun a h => P.nb a h⟩, by rw [l1, l2], rfl, ?_, fun k t e => ?_, ow_, fun j k a hjk hj hk => ?_, fun k a h => ?_, fun k a h => ?_, fun b u e _ => e, fun b n => n, fun i _ => rfl⟩⟩
  · rw [slots0, noAliL_append, P.na, noAli_rep]; rfl
  · rw [List.append_nil] at e
    by_cases hk : k < ts.length
    · rw [slots0, List.getElem?_append_left hk] at e
      obtain ⟨v, h1, r⟩ := P.arg k t e
      refine .inr ⟨v, hv k v h1, ?_⟩
      have nt := noAliL_iff.mp P.na k t e
      have sub : ∀ b, (∃ j, b ∈ (fun k => if ln = some k ∧ k < ts.length then o else []) j) → b ∈ o := fun b ⟨j, h⟩ => by
        have h : b ∈ (if ln = some j ∧ j < ts.length then o else []) := h
        split at h
        · exact h
        · simp at h
      have r' := r.move (K := X.K) (σ' := wipe (L2.start N vs) cv) (B' := Bar ⟨X, Wd, B0, H, o, lentL ln, L2.start N vs, cv⟩ (fun k => if ln = some k ∧ k < ts.length then o else [])) (Bb' := BarB ⟨X, Wd, B0, H, o, lentL ln, L2.start N vs, cv⟩ (fun k => if ln = some k ∧ k < ts.length then o else []))
        (H' := H) (fun b u e n => ⟨e, fun z => n (z.imp (sub b) id)⟩) (fun b u e n => ⟨e, fun z => n (sub b z)⟩) (fun _ _ _ q => q) (.inr nt)
      have e3 : (if ln = some k ∧ k < ts.length then o else []) = (if ln = some k then o else []) := by simp [hk]
      show TIs _ _ _ _ _ t v (if ln = some k ∧ k < ts.length then o else [])
      rw [e3]; exact r'
    · rw [slots0, List.getElem?_append_right (by omega), List.getElem?_replicate] at e
      split at e
      · refine .inl ⟨(Option.some.inj e).symm, ?_⟩
        have := l1; omega
      · cases e
  · have hj : a ∈ (if ln = some j ∧ j < ts.length then o else []) := hj
    have hk : a ∈ (if ln = some k ∧ k < ts.length then o else []) := hk
    split at hj
    · rename_i c
      split at hk
      · rename_i c'
        have := c.1.symm.trans c'.1
        cases this; exact hjk rfl
      · simp at hk
    · simp at hj
  · have h : a ∈ (if ln = some k ∧ k < ts.length then o else []) := h
    split at h
    · exact P.ot a h
    · simp at h
  · have h : a ∈ (if ln = some k ∧ k < ts.length then o else []) := h
    split at h
    · exact .inl h
    · simp at h
/-- the lent slot at an end -/
theorem lent_end {X : Cx} {Wd : Exn → List T → Prop} {N : List Str} {cv : List Nat} {σ : St} {H' : Hp} {ρ : List T} {xs : List V} {τ : List T} {ow : Nat → List Addr} (P : Pre X.K B0 H ln vs ts o) (hn : vs.length ≤ N.length) (hj : ∀ j, ln = some j → j < vs.length)
    (I : SI ⟨X, Wd, B0, H, o, lentL ln, L2.start N vs, cv⟩ σ H' ρ xs τ ow) (ro : List Addr) (hro : ∀ a ∈ ro, ∃ k, a ∈ ow k) (hd : ∀ j, ln = some j → ∀ a ∈ ow j, a ∉ ro) (hc : clean (lentOf ln ρ) = true) :
    ∃ go, (∀ j, ln = some j → (ρ[j]? = some .emp ∨ ρ[j]? = none) ∨ go = ow j) ∧ LentIs X.K (fun a => a ∈ go ∨ a ∈ ro ∨ B0 a) (fun a => a ∈ go ∨ a ∈ ro) ln vs H' (lentOf ln ρ) go ∧ go.Nodup ∧ (∀ a ∈ go, a ∉ ro) ∧ ∀ a ∈ go, ∃ k, a ∈ ow k := by
  cases ln with
  | none => exact ⟨[], (fun j z => by cases z), rfl, List.nodup_nil, fun _ z => by simp at z, fun _ z => by simp at z⟩
  | some j =>
    have hjv := hj j rfl
    have hσ : σ[j]? = (L2.start N vs)[j]? := I.le j (by simp [lentL])
    have hs : (L2.start N vs)[j]? = some (some vs[j]) := by
      rw [L2.start, List.getElem?_append_left (by simpa using hjv), List.getElem?_map, List.getElem?_eq_getElem hjv]; rfl
    cases e : ρ[j]? with
    | none => exact ⟨[], (fun k z => by cases z; exact .inl (.inr e)), ⟨hc, .inl ⟨by simp [lentOf, e], rfl⟩⟩, List.nodup_nil, fun _ z => by simp at z, fun _ z => by simp at z⟩
    | some t =>
      have nt : noAli t = true := noAliL_iff.mp I.na j t e
      rcases I.slot e with rfl | ⟨v, hv, r⟩
      · exact ⟨[], (fun k z => by cases z; exact .inl (.inl e)), ⟨hc, .inl ⟨by simp [lentOf, e], rfl⟩⟩, List.nodup_nil, fun _ z => by simp at z, fun _ z => by simp at z⟩
      · refine ⟨ow j, (fun k z => by cases z; exact .inr rfl), ⟨hc, .inr ⟨vs[j], List.getElem?_eq_getElem hjv, ?_⟩⟩, I.nd j, hd j rfl, fun a h => ⟨j, h⟩⟩
        have ev : v = vs[j] := by
          rw [hv, hs] at hσ
          exact Option.some.inj (Option.some.inj hσ)
        subst ev
        have et : lentOf (some j) ρ = t := by simp [lentOf, e]
        rw [et]
        exact r.move (fun b u q n => ⟨q, fun z => n (by
          rcases z with z | z | z
          · exact .inl ⟨j, z⟩
          · exact .inl (hro b z)
          · exact .inr z)⟩) (fun b u q n => ⟨q, fun z => n (by
          rcases z with z | z
          · exact ⟨j, z⟩
          · exact hro b z)⟩) (fun _ _ _ q => q) (.inr nt)
end

/-- if it may be handed out -/
def cl (t : T) (p : Prop) : Prop := match clean t with
  | true => p
  | false => False
theorem cl_is {t : T} {p : Prop} (h : cl t p) : clean t = true ∧ p := by
  unfold cl at h
  split at h
  · rename_i e; exact ⟨e, h⟩
  · exact h.elim
/-- a def's context -/
abbrev ctxOf (P : Program) (w : World) (K : PySem.W.Frag) (mg : Str → Option Value) (base : Heap) (N : List Str) (qual : Str) (sc : Scope) (f : Addr) (cdv : Value) (A : Around) (outer : List Env) (s : Shared) (H : Hp) (E : XK) (Wd : Exn → List T → Prop)
    (B0 : Addr → Prop) (o : List Addr) (ln : Option Nat) (vs : List V) (cv : List Nat) : Ctx := ⟨cxOf (L2.CX P w) P w K mg base N qual sc f cdv A outer s H E, Wd, B0, H, o, lentL ln, L2.start N vs, cv⟩
section
variable {P : Program} {w : World} {K : PySem.W.Frag} {mg : Str → Option Value} {base : Heap}
/-- a def's promise from its body -/
def OkBy (P : Program) (w : World) (K : PySem.W.Frag) (mg : Str → Option Value) (base : Heap) (N : List Str) (qual : Str) (st : Stmt) (f : Addr) (fd : FuncData) (ps : List Str) : Prop :=
  ∀ (k : Nat) (sp : Sp), (∀ vs H Q E, sp vs H Q E → vs.length = ps.length) →
    (∀ (cdv : Value) (A : Around) (outer : List Env) (s : Shared) (H : Hp) (vs : List V) (Q : VK) (E : XK), RoomG k (A.deeper (envOfC qual (defScope st) s.heap.objs.size f cdv)) → sp vs H Q E →
      ∃ t, PSs (cxOf (L2.CX P w) P w K mg base N qual (defScope st) f cdv A outer s H E) (defBody st) t ∧ t { nx := fun _ H' => Q .non H', rt := Q } (start N vs) H) → FnG P w K mg base (k + 1) f fd ps sp
/-- THE RULE for a def: its body's denotation keeps the promise -/
theorem fn_dataG {qual : Str} {st : Stmt} {f : Addr} {fd : FuncData} {N ps : List Str} {k : Nat} (ok : OkBy P w K mg base N qual st f fd ps) (S : FnScope N ps (defScope st)) (cv : List Nat) (ln : Option Nat) (hln : ∀ j, ln = some j → j < ps.length) {spd : DSp} (body : (Exn → List T → Prop) → DS)
    (hbody : ∀ (cdv : Value) (A : Around) (outer : List Env) (s : Shared) (H : Hp) (E : XK) (Wd : Exn → List T → Prop) (B0 : Addr → Prop) (o : List Addr) (vs : List V), RoomG k (A.deeper (envOfC qual (defScope st) s.heap.objs.size f cdv)) →
      DTk (ctxOf P w K mg base N qual (defScope st) f cdv A outer s H E Wd B0 o ln vs cv) → DPSs0 (ctxOf P w K mg base N qual (defScope st) f cdv A outer s H E Wd B0 o ln vs cv) (defBody st) (body Wd))
    (hsp : ∀ ts Q W, ts.length = ps.length → spd ts Q W → body (fun ex ρ => cl (lentOf ln ρ) (W ex (lentOf ln ρ))) { nx := fun ρ => cl (lentOf ln ρ) (Q (.dat .none) (lentOf ln ρ)), rt := fun r ρ => cl r (cl (lentOf ln ρ) (Q r (lentOf ln ρ))) } (slots0 N.length ts)) :
    FnG P w K mg base (k + 1) f fd ps (toSp K ps.length ln spd) := by
  have hpl : ps.length ≤ N.length := by have := congrArg List.length S.pre; rw [List.length_take] at this; omega
  refine ok k _ (fun vs H Q E h => ?_) (fun cdv A outer s H vs Q E hr h => ?_)
  · obtain ⟨B0, ts, o, hl, P, _⟩ := h
    rw [← P.len, hl]
  · obtain ⟨B0, ts, o, hl, Pr, hq⟩ := h
    have hvs : vs.length = ps.length := by rw [← Pr.len, hl]
    have hn : vs.length ≤ N.length := by omega
    have hj : ∀ j, ln = some j → j < vs.length := fun j e => by rw [hvs]; exact hln j e
    have q := hsp ts _ _ hl hq
    let Wd : Exn → List T → Prop := fun ex ρ => cl (lentOf ln ρ) (∀ cls d H', PostX K B0 H ln vs o ex (lentOf ln ρ) cls d H' → E cls d H')
    let C : Ctx := ctxOf P w K mg base N qual (defScope st) f cdv A outer s H E Wd B0 o ln vs cv
    have I0 : SS C (L2.start N vs) H (slots0 N.length ts) [] [] := Pr.start (X := C.X) (Wd := Wd) hn
    have co : ∀ {σ : St} {H' : Hp} {ρ : List T} {xs : List V} {τ : List T} {ow : Nat → List Addr}, SI C σ H' ρ xs τ ow → PostC H o H' := fun I => ⟨fun b u e n => I.kp b u e n, fun b n => I.tr b n⟩
    have tk : DTk C := by
      have t0 : Takes C.X (fun cls d _ H => E cls d H) := takes_of rfl rfl rfl rfl
      refine t0.imp fun cls d σ H' h => ?_
      obtain ⟨ex, ρ, hx, ⟨ow, I⟩, hw⟩ := h
      obtain ⟨hc, hw⟩ := cl_is hw
      obtain ⟨go, _, h1, h2, _, h4⟩ := lent_end (X := C.X) (ln := ln) (ts := ts) Pr hn hj I [] (fun _ z => by simp at z) (fun _ _ _ _ z => by simp at z) hc
      refine hw cls d H' ⟨hx, ⟨go, ?_, h2, fun a h => ?_, fun a h => ?_⟩, co I⟩
      · have e1 : (fun a => a ∈ go ∨ a ∈ ([] : List Addr) ∨ B0 a) = fun a => a ∈ go ∨ B0 a := by funext a; simp
        have e2 : (fun a => a ∈ go ∨ a ∈ ([] : List Addr)) = fun a => a ∈ go := by funext a; simp
        rw [e1, e2] at h1; exact h1
      · obtain ⟨k, hk⟩ := h4 a h; exact I.fr k a hk
      · obtain ⟨k, hk⟩ := h4 a h; exact I.ot k a hk
    obtain ⟨t, pt, sim⟩ := (hbody cdv A outer s H E Wd B0 o vs hr tk).ex
    have fin : ∀ {σ : St} {H' : Hp} {ρ : List T} {v : V} {r : T}, SS C σ H' ρ ([] ++ [v]) ([] ++ [r]) → clean r = true → clean (lentOf ln ρ) = true → Post K B0 H ln vs o r (lentOf ln ρ) v H' := fun {σ H' ρ v r} I na hc => by
      obtain ⟨ow, I⟩ := I
      have top := I.top
      have hρ : ρ.length + ([] : List T).length = ρ.length := by simp
      rw [hρ] at top
      have hjρ : ∀ j, ln = some j → j ≠ ρ.length := fun j e => by
        have hσ : σ[j]? = (L2.start N vs)[j]? := I.le j (by simp [C, ctxOf, lentL, e])
        have hs : (L2.start N vs)[j]? = some (some (vs[j]'(hj j e))) := by
          rw [L2.start, List.getElem?_append_left (by simpa using hj j e), List.getElem?_map, List.getElem?_eq_getElem (hj j e)]; rfl
        rw [hs] at hσ
        have := (List.getElem?_eq_some_iff.mp hσ).1
        rw [I.ln]; omega
      obtain ⟨go, g1, h1, h2, h3, h4⟩ := lent_end (X := C.X) (ln := ln) (ts := ts) Pr hn hj I (ow ρ.length) (fun a h => ⟨_, h⟩) (fun j e a ha => I.dj _ _ a (hjρ j e) ha) hc
      refine ⟨⟨go, ow ρ.length, ?_, h1, h2, I.nd _, h3, fun a h => ?_, fun a h => ?_⟩, na, co I⟩
      · exact top.move (fun b u q n => ⟨q, fun z => n (by
          rcases z with z | z | z
          · exact .inl (h4 b z)
          · exact .inl ⟨_, z⟩
          · exact .inr z)⟩) (fun b u q n => ⟨q, fun z => n (by
          rcases z with z | z
          · exact h4 b z
          · exact ⟨_, z⟩)⟩) (fun _ _ _ q => q) (.inr (clean_na na))
      · rcases h with h | h
        · obtain ⟨k, hk⟩ := h4 a h; exact I.fr k a hk
        · exact I.fr _ a h
      · rcases h with h | h
        · obtain ⟨k, hk⟩ := h4 a h; exact I.ot k a hk
        · exact I.ot _ a h
    refine ⟨t, pt, sim _ _ _ _ _ I0 q ⟨fun σ H' ρ I hq => ?_, fun σ H' ρ v x I hq => ?_, fun _ _ _ _ z => z.elim, fun _ _ _ _ z => z.elim⟩⟩
    · obtain ⟨hc, hq⟩ := cl_is hq
      exact hq _ _ (fin (r := .dat .none) (SS.non I) rfl hc)
    · obtain ⟨hr, hq⟩ := cl_is hq
      obtain ⟨hc, hq⟩ := cl_is hq
      exact hq _ _ (fin I hr hc)
theorem fn_data {x qual : Str} {st : Stmt} {f : Addr} {fd : FuncData} {N ps : List Str} {k : Nat} (F : Fun K x qual st f fd) (S : FnScope N ps (defScope st)) (cv : List Nat) (ln : Option Nat) (hln : ∀ j, ln = some j → j < ps.length) {spd : DSp} (body : (Exn → List T → Prop) → DS)
    (hbody : ∀ (cdv : Value) (A : Around) (outer : List Env) (s : Shared) (H : Hp) (E : XK) (Wd : Exn → List T → Prop) (B0 : Addr → Prop) (o : List Addr) (vs : List V), RoomG k (A.deeper (envOfC qual (defScope st) s.heap.objs.size f cdv)) →
      DTk (ctxOf P w K mg base N qual (defScope st) f cdv A outer s H E Wd B0 o ln vs cv) → DPSs (ctxOf P w K mg base N qual (defScope st) f cdv A outer s H E Wd B0 o ln vs cv) (defBody st) (body Wd))
    (hsp : ∀ ts Q W, ts.length = ps.length → spd ts Q W → body (fun ex ρ => cl (lentOf ln ρ) (W ex (lentOf ln ρ))) { nx := fun ρ => cl (lentOf ln ρ) (Q (.dat .none) (lentOf ln ρ)), rt := fun r ρ => cl r (cl (lentOf ln ρ) (Q r (lentOf ln ρ))) } (slots0 N.length ts)) :
    FnG P w K mg base (k + 1) f fd ps (toSp K ps.length ln spd) :=
  fn_dataG (fun _ _ len hb => FunG F S len hb) S cv ln hln body (fun cdv A outer s H E Wd B0 o vs hr tk => (hbody cdv A outer s H E Wd B0 o vs hr tk).z) hsp
theorem fn_data0 {x qual : Str} {st : Stmt} {f : Addr} {fd : FuncData} {N ps : List Str} {k : Nat} (F : Fun K x qual st f fd) (S : FnScope N ps (defScope st)) (cv : List Nat) (ln : Option Nat) (hln : ∀ j, ln = some j → j < ps.length) {spd : DSp} (body : (Exn → List T → Prop) → DS)
    (hbody : ∀ (cdv : Value) (A : Around) (outer : List Env) (s : Shared) (H : Hp) (E : XK) (Wd : Exn → List T → Prop) (B0 : Addr → Prop) (o : List Addr) (vs : List V), RoomG k (A.deeper (envOfC qual (defScope st) s.heap.objs.size f cdv)) →
      DTk (ctxOf P w K mg base N qual (defScope st) f cdv A outer s H E Wd B0 o ln vs cv) → DPSs0 (ctxOf P w K mg base N qual (defScope st) f cdv A outer s H E Wd B0 o ln vs cv) (defBody st) (body Wd))
    (hsp : ∀ ts Q W, ts.length = ps.length → spd ts Q W → body (fun ex ρ => cl (lentOf ln ρ) (W ex (lentOf ln ρ))) { nx := fun ρ => cl (lentOf ln ρ) (Q (.dat .none) (lentOf ln ρ)), rt := fun r ρ => cl r (cl (lentOf ln ρ) (Q r (lentOf ln ρ))) } (slots0 N.length ts)) :
    FnG P w K mg base (k + 1) f fd ps (toSp K ps.length ln spd) :=
  fn_dataG (fun _ _ len hb => FunG F S len hb) S cv ln hln body hbody hsp
theorem fn_dataD {x qual : Str} {st : Stmt} {f : Addr} {fd : FuncData} {N ps : List Str} {k : Nat} {dvs : List V} {kws : List (Str × V)} (F : FunD K x qual (defArgs st) (defBody st) (defScope st) dvs kws f fd) (S : FnScope N ps (defScope st)) (cv : List Nat) (ln : Option Nat) (hln : ∀ j, ln = some j → j < ps.length) {spd : DSp} (body : (Exn → List T → Prop) → DS)
    (hbody : ∀ (cdv : Value) (A : Around) (outer : List Env) (s : Shared) (H : Hp) (E : XK) (Wd : Exn → List T → Prop) (B0 : Addr → Prop) (o : List Addr) (vs : List V), RoomG k (A.deeper (envOfC qual (defScope st) s.heap.objs.size f cdv)) →
      DTk (ctxOf P w K mg base N qual (defScope st) f cdv A outer s H E Wd B0 o ln vs cv) → DPSs (ctxOf P w K mg base N qual (defScope st) f cdv A outer s H E Wd B0 o ln vs cv) (defBody st) (body Wd))
    (hsp : ∀ ts Q W, ts.length = ps.length → spd ts Q W → body (fun ex ρ => cl (lentOf ln ρ) (W ex (lentOf ln ρ))) { nx := fun ρ => cl (lentOf ln ρ) (Q (.dat .none) (lentOf ln ρ)), rt := fun r ρ => cl r (cl (lentOf ln ρ) (Q r (lentOf ln ρ))) } (slots0 N.length ts)) :
    FnG P w K mg base (k + 1) f fd ps (toSp K ps.length ln spd) :=
  fn_dataG (fun _ _ len hb => FunDG F S len hb) S cv ln hln body (fun cdv A outer s H E Wd B0 o vs hr tk => (hbody cdv A outer s H E Wd B0 o vs hr tk).z) hsp
end

/-! ### calls -/
inductive Md where
  | dat | bor | lend
def argT (ρ : List T) : Md → T → Option T
  | .dat, a => (frz a).map .dat
  | .bor, a => (lk ρ a).map .bor
  | .lend, .ali i => match ρ[i]? with
    | some .emp => none
    | o => o
  | .lend, t => match noAli t with
    | true => some t
    | false => none
def argsT (ρ : List T) : List Md → List T → Option (List T)
  | [], [] => some []
  | m :: ms, a :: as => match argT ρ m a with
    | some t => (argsT ρ ms as).map fun ts => t :: ts
    | none => none
  | _, _ => none
/-- the lent place, the lent slot -/
def lnOf : List Md → Option Nat
  | [] => none
  | .lend :: _ => some 0
  | _ :: ms => (lnOf ms).map (· + 1)
def slotOf (ms : List Md) (as : List T) : Option Nat := (lnOf ms).bind fun j => (as[j]?).bind fun a => match a with
  | .ali i => some i
  | _ => none
def putT (s : Option Nat) (t : T) (ρ : List T) : List T := match s with
  | some i => ρ.set i t
  | none => ρ
mutual
/-- the slots that t leans on -/
def alis : T → List Nat
  | .ali i => [i]
  | .lst ts => alisL ts
  | .tup ts => alisL ts
  | .ins _ _ ts => alisL ts
  | _ => []
def alisL : List T → List Nat
  | [] => []
  | t :: ts => alis t ++ alisL ts
end
/-- nothing but the lent argument leans on the lent slot; one argument is lent at most -/
def freeOf (s : Option Nat) : List Md → List T → Bool
  | .lend :: ms, _ :: as => freeOf s ms as && !(ms.any fun m => match m with | .lend => true | _ => false)
  | _ :: ms, a :: as => (match s with | some i => !(alis a).contains i | none => true) && freeOf s ms as
  | _, _ => true
end Ds
namespace Ds
open PySem L2

section
variable {K : PySem.W.Frag} {B B' Bb : Addr → Prop} {H : Hp} {σ : St} {ρ : List T}
mutual
theorem TIs.toDB (h1 : ∀ b o, H b = some o → ¬ B b → ¬ B' b) (h2 : ∀ b o, H b = some o → ¬ Bb b → ¬ B' b) : ∀ {t : T} {v : V} {os : List Addr} {d : D}, (∀ a ∈ os, ¬ B' a) → TIs K B Bb σ H t v os → Ds.toD t = some d → DIs K B' H d v
  | _, _, _, _, _, .dat h, e => by simp only [Ds.toD, Option.some.injEq] at e; subst e; exact h.move fun b o q n => ⟨q, h1 b o q n⟩
  | _, _, _, _, _, .bor h, e => by simp only [Ds.toD, Option.some.injEq] at e; subst e; exact h.move fun b o q n => ⟨q, h2 b o q n⟩
  | _, _, _, _, no, .own h t, e => by simp only [Ds.toD, Option.some.injEq] at e; subst e; exact .list h (no _ (by simp)) (t.move fun b o q n => ⟨q, h1 b o q n⟩)
  | _, _, _, _, no, .lbo h t, e => by simp only [Ds.toD, Option.some.injEq] at e; subst e; exact .list h (no _ (by simp)) (t.move fun b o q n => ⟨q, h2 b o q n⟩)
  | _, _, _, _, no, .lst h t, e => by
    simp only [Ds.toD, Option.map_eq_some_iff] at e
    obtain ⟨ds, e1, rfl⟩ := e
    exact .list h (no _ (by simp)) (TIsL.toDB h1 h2 (fun a ha => no a (by simp [ha])) t e1)
  | _, _, _, _, no, .tup h n t, e => by
    simp only [Ds.toD, Option.map_eq_some_iff] at e
    obtain ⟨ds, e1, rfl⟩ := e
    exact .tuple (.inl ⟨.inl h, h1 _ _ h n⟩) (TIsL.toDB h1 h2 no t e1)
  | _, _, _, _, no, .dct h t q, e => by
    simp only [Ds.toD, Option.some.injEq] at e
    subst e; subst q
    exact .dict h (no _ (by simp)) (t.move fun b o q n => ⟨q, h1 b o q n⟩) (zip_kvs (by have := t.length; simpa using this))
  | _, _, _, _, _, .scr h, e => by simp [Ds.toD] at e
  | _, _, _, _, _, .exc h, e => by simp [Ds.toD] at e
  | _, _, _, _, _, .ins _ _ _ _, e => by simp [Ds.toD] at e
  | _, _, _, _, _, .ali h, e => by simp [Ds.toD] at e
theorem TIsL.toDB (h1 : ∀ b o, H b = some o → ¬ B b → ¬ B' b) (h2 : ∀ b o, H b = some o → ¬ Bb b → ¬ B' b) : ∀ {ts : List T} {vs : List V} {os : List Addr} {ds : List D}, (∀ a ∈ os, ¬ B' a) → TIsL K B Bb σ H ts vs os → Ds.toDL ts = some ds → DIsL K B' H ds vs
  | _, _, _, _, _, .nil, e => by simp only [Ds.toDL, Option.some.injEq] at e; subst e; exact .nil
  | _, _, _, _, no, .cons r t, e => by
    simp only [Ds.toDL, Option.bind_eq_some_iff, Option.map_eq_some_iff] at e
    obtain ⟨d, e1, ds, e2, rfl⟩ := e
    exact .cons (TIs.toDB h1 h2 (fun a ha => no a (by simp [ha])) r e1) (TIsL.toDB h1 h2 (fun a ha => no a (by simp [ha])) t e2)
end
mutual
theorem TIs.lkB (h1 : ∀ b o, H b = some o → ¬ B b → ¬ B' b) (h2 : ∀ b o, H b = some o → ¬ Bb b → ¬ B' b) : ∀ {t : T} {v : V} {os : List Addr} {d : D}, (∀ a ∈ os, ¬ B' a) → (∀ (i : Nat) (t' : T) (v : V) (d : D), i ∈ alis t → ρ[i]? = some t' → σ[i]? = some (some v) → Ds.toD t' = some d → DIs K B' H d v) →
    TIs K B Bb σ H t v os → Ds.lk ρ t = some d → DIs K B' H d v
  | _, _, _, _, _, _, .dat h, e => by simp only [Ds.lk, Option.some.injEq] at e; subst e; exact h.move fun b o q n => ⟨q, h1 b o q n⟩
  | _, _, _, _, _, _, .bor h, e => by simp only [Ds.lk, Option.some.injEq] at e; subst e; exact h.move fun b o q n => ⟨q, h2 b o q n⟩
  | _, _, _, _, no, _, .own h t, e => by simp only [Ds.lk, Option.some.injEq] at e; subst e; exact .list h (no _ (by simp)) (t.move fun b o q n => ⟨q, h1 b o q n⟩)
  | _, _, _, _, no, _, .lbo h t, e => by simp only [Ds.lk, Option.some.injEq] at e; subst e; exact .list h (no _ (by simp)) (t.move fun b o q n => ⟨q, h2 b o q n⟩)
  | _, _, _, _, no, hs, .lst h t, e => by
    simp only [Ds.lk, Option.map_eq_some_iff] at e
    obtain ⟨ds, e1, rfl⟩ := e
    exact .list h (no _ (by simp)) (TIsL.lkB h1 h2 (fun a ha => no a (by simp [ha])) (fun i t' v d hi => hs i t' v d (by simpa [alis] using hi)) t e1)
  | _, _, _, _, no, hs, .tup h n t, e => by
    simp only [Ds.lk, Option.map_eq_some_iff] at e
    obtain ⟨ds, e1, rfl⟩ := e
    exact .tuple (.inl ⟨.inl h, h1 _ _ h n⟩) (TIsL.lkB h1 h2 no (fun i t' v d hi => hs i t' v d (by simpa [alis] using hi)) t e1)
  | _, _, _, _, no, _, .dct h t q, e => by
    simp only [Ds.lk, Option.some.injEq] at e
    subst e; subst q
    exact .dict h (no _ (by simp)) (t.move fun b o q n => ⟨q, h1 b o q n⟩) (zip_kvs (by have := t.length; simpa using this))
  | _, _, _, _, _, _, .scr h, e => by simp [Ds.lk] at e
  | _, _, _, _, _, _, .exc h, e => by simp [Ds.lk] at e
  | _, _, _, _, _, _, .ins _ _ _ _, e => by simp [Ds.lk] at e
  | _, _, _, _, _, hs, .ali h, e => by
    simp only [Ds.lk, Option.bind_eq_some_iff] at e
    obtain ⟨t, e1, e2⟩ := e
    exact hs _ _ _ _ (by simp [alis]) e1 h e2
theorem TIsL.lkB (h1 : ∀ b o, H b = some o → ¬ B b → ¬ B' b) (h2 : ∀ b o, H b = some o → ¬ Bb b → ¬ B' b) : ∀ {ts : List T} {vs : List V} {os : List Addr} {ds : List D}, (∀ a ∈ os, ¬ B' a) → (∀ (i : Nat) (t' : T) (v : V) (d : D), i ∈ alisL ts → ρ[i]? = some t' → σ[i]? = some (some v) → Ds.toD t' = some d → DIs K B' H d v) →
    TIsL K B Bb σ H ts vs os → Ds.lkL ρ ts = some ds → DIsL K B' H ds vs
  | _, _, _, _, _, _, .nil, e => by simp only [Ds.lkL, Option.some.injEq] at e; subst e; exact .nil
  | _, _, _, _, no, hs, .cons r t, e => by
    simp only [Ds.lkL, Option.bind_eq_some_iff, Option.map_eq_some_iff] at e
    obtain ⟨d, e1, ds, e2, rfl⟩ := e
    exact .cons (TIs.lkB h1 h2 (fun a ha => no a (by simp [ha])) (fun i t' v d hi => hs i t' v d (by simp [alisL, hi])) r e1) (TIsL.lkB h1 h2 (fun a ha => no a (by simp [ha])) (fun i t' v d hi => hs i t' v d (by simp [alisL, hi])) t e2)
end
end

theorem argsT_len {ρ : List T} : ∀ {ms : List Md} {as ts : List T}, argsT ρ ms as = some ts → ts.length = as.length ∧ ms.length = as.length
  | [], [], ts, e => by simp [argsT] at e; subst e; exact ⟨rfl, rfl⟩
  | [], _ :: _, ts, e => by simp [argsT] at e
  | _ :: _, [], ts, e => by simp [argsT] at e
  | m :: ms, a :: as, ts, e => by
    unfold argsT at e
    split at e
    · simp only [Option.map_eq_some_iff] at e
      obtain ⟨ts', e1, rfl⟩ := e
      have := argsT_len e1
      simp; omega
    · simp at e
theorem argsT_get {ρ : List T} : ∀ {ms : List Md} {as ts : List T} {j : Nat} {t : T}, argsT ρ ms as = some ts → ts[j]? = some t → ∃ m a, ms[j]? = some m ∧ as[j]? = some a ∧ argT ρ m a = some t
  | [], [], ts, j, t, e, h => by simp [argsT] at e; subst e; simp at h
  | [], _ :: _, ts, _, _, e, _ => by simp [argsT] at e
  | _ :: _, [], ts, _, _, e, _ => by simp [argsT] at e
  | m :: ms, a :: as, ts, j, t, e, h => by
    unfold argsT at e
    split at e
    · rename_i t0 e0
      simp only [Option.map_eq_some_iff] at e
      obtain ⟨ts', e1, rfl⟩ := e
      cases j with
      | zero => simp at h; subst h; exact ⟨m, a, rfl, rfl, e0⟩
      | succ j => exact argsT_get (j := j) e1 (by simpa using h)
    · simp at e
theorem lnOf_mode : ∀ {ms : List Md} {j : Nat}, lnOf ms = some j → ms[j]? = some .lend
  | [], _, e => by simp [lnOf] at e
  | .lend :: _, _, e => by simp [lnOf] at e; subst e; rfl
  | .dat :: ms, j, e => by
    simp only [lnOf, Option.map_eq_some_iff] at e
    obtain ⟨k, e1, rfl⟩ := e
    simpa using lnOf_mode e1
  | .bor :: ms, j, e => by
    simp only [lnOf, Option.map_eq_some_iff] at e
    obtain ⟨k, e1, rfl⟩ := e
    simpa using lnOf_mode e1
theorem noLend_any : ∀ {ms : List Md} {j : Nat} {m : Md}, (ms.any fun m => match m with | .lend => true | _ => false) = false → ms[j]? = some m → m ≠ .lend
  | [], _, _, _, e => by simp at e
  | m :: ms, 0, _, h, e => by
    simp at e; subst e
    rintro rfl
    simp at h
  | m :: ms, j + 1, _, h, e => by
    rw [List.any_cons, Bool.or_eq_false_iff] at h
    exact noLend_any h.2 (by simpa using e)
theorem freeOf_ok : ∀ {s : Option Nat} {ms : List Md} {as : List T}, freeOf s ms as = true → (∀ (j : Nat) (a : T) (m : Md), ms[j]? = some m → m ≠ Md.lend → as[j]? = some a → ∀ i, s = some i → i ∉ alis a) ∧ ∀ (j : Nat), ms[j]? = some Md.lend → j < as.length → lnOf ms = some j
  | _, [], _, _ => ⟨fun j a m e => by simp at e, fun j e => by simp at e⟩
  | _, _ :: _, [], _ => ⟨fun j a m _ _ e => by simp at e, fun j _ h => by simp at h⟩
  | s, .lend :: ms, a :: as, h => by
    simp only [freeOf, Bool.and_eq_true, Bool.not_eq_true'] at h
    obtain ⟨h1, h2⟩ := freeOf_ok h.1
    refine ⟨fun j b m e n eb => ?_, fun j e hj => ?_⟩
    · cases j with
      | zero => simp at e; exact absurd e.symm n
      | succ j => exact h1 j b m (by simpa using e) n (by simpa using eb)
    · cases j with
      | zero => rfl
      | succ j => exact absurd rfl (noLend_any h.2 (show ms[j]? = some .lend by simpa using e))
  | s, .dat :: ms, a :: as, h => by
    simp only [freeOf, Bool.and_eq_true] at h
    obtain ⟨h1, h2⟩ := freeOf_ok h.2
    refine ⟨fun j b m e n eb => ?_, fun j e hj => ?_⟩
    · cases j with
      | zero =>
        simp at eb; subst eb
        intro i es
        have := h.1
        rw [es] at this
        simpa using this
      | succ j => exact h1 j b m (by simpa using e) n (by simpa using eb)
    · cases j with
      | zero => simp at e
      | succ j => simp [lnOf, h2 j (by simpa using e) (by simpa using hj)]
  | s, .bor :: ms, a :: as, h => by
    simp only [freeOf, Bool.and_eq_true] at h
    obtain ⟨h1, h2⟩ := freeOf_ok h.2
    refine ⟨fun j b m e n eb => ?_, fun j e hj => ?_⟩
    · cases j with
      | zero =>
        simp at eb; subst eb
        intro i es
        have := h.1
        rw [es] at this
        simpa using this
      | succ j => exact h1 j b m (by simpa using e) n (by simpa using eb)
    · cases j with
      | zero => simp at e
      | succ j => simp [lnOf, h2 j (by simpa using e) (by simpa using hj)]

section
variable {C : Ctx} {σ : St} {H H' : Hp} {ρ : List T} {vs xs : List V} {τ as ts : List T} {ow : Nat → List Addr} {ms : List Md}
/-- where the lent argument's lists are: its key among the cells -/
def kOf (n j : Nat) (a : T) : Nat := match a with
  | .ali i => i
  | _ => n + j
def lkey (n : Nat) (ms : List Md) (as : List T) : Option Nat := (lnOf ms).bind fun j => (as[j]?).map fun a => kOf n j a
theorem SI.atA (I : SI C σ H ρ (vs ++ xs) (τ ++ as) ow) (hτ : τ.length = vs.length) {j : Nat} {a : T} (e : as[j]? = some a) : ∃ v, xs[j]? = some v ∧ TIs C.K (Bar C ow) (BarB C ow) (wipe σ C.cv) H a v (ow (ρ.length + τ.length + j)) := by
  obtain ⟨v, hv, r⟩ := I.temp (j := τ.length + j) (t := a) (by rw [List.getElem?_append_right (by omega)]; simpa using e)
  rw [hτ, List.getElem?_append_right (by omega)] at hv
  simp at hv
  exact ⟨v, hv, by rw [Nat.add_assoc]; exact r⟩
/-- what the callee may not touch -/
def B0c (C : Ctx) (ow : Nat → List Addr) (n : Nat) (o : List Addr) (a : Addr) : Prop := Bar C ow a ∧ a ∉ o ∧ ∀ k, n ≤ k → a ∉ ow k
theorem argT_na {ρ : List T} {m : Md} {a t : T} (e : argT ρ m a = some t) (hρ : noAliL ρ = true) : noAli t = true := by
  cases m with
  | dat => simp only [argT, Option.map_eq_some_iff] at e; obtain ⟨d, _, rfl⟩ := e; rfl
  | bor => simp only [argT, Option.map_eq_some_iff] at e; obtain ⟨d, _, rfl⟩ := e; rfl
  | lend =>
    cases a with
    | ali i =>
      simp only [argT] at e
      split at e
      · simp at e
      · exact noAliL_iff.mp hρ i t e
    | _ =>
      simp only [argT] at e
      split at e
      · rename_i h
        simp at e; subst e; exact h
      · simp at e
theorem SI.pre (I : SI C σ H ρ (vs ++ xs) (τ ++ as) ow) (hτ : τ.length = vs.length) (hl : as.length = xs.length) (ea : argsT ρ ms as = some ts) (hf : freeOf (slotOf ms as) ms as = true) :
    ∃ o : List Addr, (match lkey (ρ.length + τ.length) ms as with | some k => o = ow k | none => o = []) ∧ Pre C.K (B0c C ow (ρ.length + τ.length) o) H (lnOf ms) xs ts o := by
  obtain ⟨f1, f2⟩ := freeOf_ok hf
  obtain ⟨l1, l2⟩ := argsT_len ea
  let n := ρ.length + τ.length
  have hk : ∃ o : List Addr, (match lkey n ms as with | some k => o = ow k | none => o = []) := by
    cases lkey n ms as with
    | none => exact ⟨[], rfl⟩
    | some k => exact ⟨ow k, rfl⟩
  obtain ⟨o, ho⟩ := hk
  have hok : ∀ a ∈ o, ∃ k, lkey n ms as = some k ∧ a ∈ ow k ∧ o = ow k := fun a ha => by
    cases e : lkey n ms as with
    | none => rw [e] at ho; rw [ho] at ha; simp at ha
    | some k => rw [e] at ho; exact ⟨k, rfl, by rw [← ho]; exact ha, ho⟩
  have keyj : ∀ {j k : Nat} {a : T}, lkey n ms as = some k → as[j]? = some a → ms[j]? ≠ some .lend → k ≠ n + j := fun {j k a} e eja hm z => by
    unfold lkey at e
    simp only [Option.bind_eq_some_iff, Option.map_eq_some_iff] at e
    obtain ⟨j', e1, a', e2, e3⟩ := e
    have hm' := lnOf_mode e1
    unfold kOf at e3
    split at e3
    · rename_i i
      -- an alias: a slot
      obtain ⟨v, hv, r⟩ := I.atA hτ e2
      generalize ow (ρ.length + τ.length + j') = oo at r
      cases r with
      | ali h =>
        have := (List.getElem?_eq_some_iff.mp (wipe_some h).1).1
        have := I.ln
        omega
    · have : j' = j := by omega
      subst this
      exact hm hm'
  refine ⟨o, ho, ⟨by omega, ?_, fun j t et => ?_, ?_, fun a ha z => z.2.1 ha, fun a ha => ?_, fun a ha => ?_⟩⟩
  · refine noAliL_iff.mpr fun j t et => ?_
    obtain ⟨m, a, _, _, e3⟩ := argsT_get ea et
    exact argT_na e3 I.na
  · obtain ⟨m, a, em, eA, e3⟩ := argsT_get ea et
    obtain ⟨v, hv, r⟩ := I.atA hτ eA
    refine ⟨v, hv, ?_⟩
    have bar1 : ∀ b u, H b = some u → ¬ Bar C ow b → ¬ (b ∈ o ∨ B0c C ow n o b) := fun b u q nb z => by
      rcases z with z | z
      · obtain ⟨k, _, h, _⟩ := hok b z; exact nb (.inl ⟨k, h⟩)
      · exact nb z.1
    have bar2 : ∀ b u, H b = some u → ¬ Bar C ow b → ¬ b ∈ o := fun b u q nb z => bar1 b u q nb (.inl z)
    have bar3 : ∀ b u, H b = some u → ¬ BarB C ow b → ¬ b ∈ o := fun b u q nb z => by
      obtain ⟨k, _, h, _⟩ := hok b z; exact nb ⟨k, h⟩
    by_cases hm : m = .lend
    · subst hm
      have hj : j < as.length := (List.getElem?_eq_some_iff.mp eA).1
      have hln := f2 j em hj
      rw [if_pos hln]
      have nt := argT_na e3 I.na
      have key : lkey n ms as = some (kOf n j a) := by
        unfold lkey
        rw [hln]
        show (as[j]?).map _ = _
        rw [eA]; rfl
      have go : ∀ {k : Nat} {s : St}, lkey n ms as = some k → TIs C.K (Bar C ow) (BarB C ow) s H t v (ow k) → TIs C.K (fun a => a ∈ o ∨ B0c C ow n o a) (fun a => a ∈ o) [] H t v o := fun {k s} ek r => by
        rw [ek] at ho
        have ho : o = ow k := ho
        rw [← ho] at r
        exact r.move (fun b u q nb => ⟨q, bar1 b u q nb⟩) (fun b u q nb => ⟨q, bar3 b u q nb⟩) (fun _ _ _ q => q) (.inr nt)
      cases a with
      | ali i =>
        have hvi : σ[i]? = some (some v) := by
          generalize ow (ρ.length + τ.length + j) = oo at r
          cases r with | ali h => exact (wipe_some h).1
        simp only [argT] at e3
        split at e3
        · simp at e3
        · rcases I.slot e3 with rfl | ⟨w, hw, r2⟩
          · rename_i z; exact absurd e3 z
          · rw [hvi] at hw; cases hw
            exact go key r2
      | dat d => exact go key (by cases e3; exact r)
      | bor d => exact go key (by cases e3; exact r)
      | own d => exact go key (by cases e3; exact r)
      | lbo d => exact go key (by cases e3; exact r)
      | dct d => exact go key (by cases e3; exact r)
      | scr d => exact go key (by cases e3; exact r)
      | exc d => exact go key (by cases e3; exact r)
      | emp => exact go key (by cases e3; exact r)
      | lst d =>
        simp only [argT] at e3
        split at e3
        · cases e3; exact go key r
        · cases e3
      | tup d =>
        simp only [argT] at e3
        split at e3
        · cases e3; exact go key r
        · cases e3
      | ins c ks d =>
        simp only [argT] at e3
        split at e3
        · cases e3; exact go key r
        · cases e3
    · have hln : lnOf ms ≠ some j := fun z => hm (by
        have := lnOf_mode z
        rw [em] at this; exact Option.some.inj this)
      rw [if_neg hln]
      have noTemp : ∀ b ∈ ow (n + j), ¬ b ∈ o := fun b hb z => by
        obtain ⟨k, ek, h, _⟩ := hok b z
        exact I.dj k (n + j) b (keyj ek eA (by rw [em]; simpa using hm)) h hb
      cases m with
      | dat =>
        simp only [argT, Option.map_eq_some_iff] at e3
        obtain ⟨d, e4, rfl⟩ := e3
        refine .dat (r.frz I.tupOk bar1 (fun b hb z => ?_) e4)
        rcases z with z | z
        · exact noTemp b hb z
        · exact z.2.2 (n + j) (by omega) hb
      | bor =>
        simp only [argT, Option.map_eq_some_iff] at e3
        obtain ⟨d, e4, rfl⟩ := e3
        refine .bor (r.lkB bar2 bar3 (fun b hb => noTemp b hb) (fun i t' w d' hi et' ew ed => ?_) e4)
        rcases I.slot et' with rfl | ⟨w', hw', r2⟩
        · simp [toD] at ed
        · rw [(wipe_some ew).1] at hw'; cases hw'
          refine r2.toDB bar2 bar3 (fun b hb z => ?_) ed
          obtain ⟨k, ek, h, _⟩ := hok b z
          refine I.dj k i b (fun z => ?_) h hb
          subst z
          -- the key is slot i: so the lent argument is an alias of it
          unfold lkey at ek
          simp only [Option.bind_eq_some_iff, Option.map_eq_some_iff] at ek
          obtain ⟨j', e5, a', e6, e7⟩ := ek
          unfold kOf at e7
          split at e7
          · rename_i i'
            subst e7
            refine f1 j a .bor em (by simp) eA _ ?_ hi
            simp [slotOf, e5, e6]
          · have := (List.getElem?_eq_some_iff.mp et').1
            omega
      | lend => exact absurd rfl hm
  · cases e : lkey n ms as with
    | none => rw [e] at ho; rw [ho]; exact List.nodup_nil
    | some k => rw [e] at ho; rw [ho]; exact I.nd k
  · obtain ⟨k, _, h, _⟩ := hok a ha
    exact I.ot k a h
  · rcases ha.1 with ⟨k, h⟩ | h
    · exact I.ot k a h
    · obtain ⟨u, e, c⟩ := I.ok.b0 a h
      exact ⟨u, I.kp a u e fun z => I.ok.ob a z h, c⟩
/-- behind the call: the lent slot has t', (and the result on top) -/
theorem SI.post (I : SI C σ H ρ (vs ++ xs) (τ ++ as) ow) (hτ : τ.length = vs.length) (hl : as.length = xs.length) {o : List Addr} (ho : match lkey (ρ.length + τ.length) ms as with | some k => o = ow k | none => o = []) {go ro : List Addr} {t' : T} {ys : List V} {us : List T}
    (hco : PostC H o H') (hL : LentIs C.K (fun a => a ∈ go ∨ a ∈ ro ∨ B0c C ow (ρ.length + τ.length) o a) (fun a => a ∈ go ∨ a ∈ ro) (lnOf ms) xs H' t' go) (n1 : go.Nodup) (n2 : ro.Nodup) (dj : ∀ a ∈ go, a ∉ ro) (src : ∀ a, a ∈ go ∨ a ∈ ro → a ∈ o ∨ H a = none) (ot : ∀ a, a ∈ go ∨ a ∈ ro → ∃ u, H' a = some u ∧ Chg u)
    (hu : (us = [] ∧ ys = [] ∧ ro = []) ∨ ∃ r v, us = [r] ∧ ys = [v] ∧ clean r = true ∧ TIs C.K (fun a => a ∈ go ∨ a ∈ ro ∨ B0c C ow (ρ.length + τ.length) o a) (fun a => a ∈ go ∨ a ∈ ro) [] H' r v ro) :
    SS C σ H' (putT (slotOf ms as) t' ρ) (vs ++ ys) (τ ++ us) := by
  let n := ρ.length + τ.length
  have hul : us.length = ys.length := by rcases hu with ⟨rfl, rfl, _⟩ | ⟨r, v, rfl, rfl, _⟩ <;> rfl
  -- the lent slot
  have hslot : ∀ i, slotOf ms as = some i → i < ρ.length ∧ lkey n ms as = some i ∧ ∃ j v, lnOf ms = some j ∧ xs[j]? = some v ∧ σ[i]? = some (some v) := fun i e => by
    unfold slotOf at e
    simp only [Option.bind_eq_some_iff] at e
    obtain ⟨j, e1, a, e2, e3⟩ := e
    split at e3
    · rename_i i'
      simp at e3; subst e3
      obtain ⟨v, hv, r⟩ := I.atA hτ e2
      generalize ow (ρ.length + τ.length + j) = oo at r
      cases r with
      | ali h => exact ⟨(by have := (List.getElem?_eq_some_iff.mp (wipe_some h).1).1; have := I.ln; omega), (by unfold lkey; rw [e1]; show (as[j]?).map _ = _; rw [e2]; rfl), j, v, e1, hv, (wipe_some h).1⟩
    · simp at e3
  have ho2 : ∀ a ∈ o, ∃ k, lkey n ms as = some k ∧ a ∈ ow k := fun a ha => by
    cases e : lkey n ms as with
    | none => rw [show o = [] by rw [e] at ho; exact ho] at ha; simp at ha
    | some k => exact ⟨k, rfl, by rw [e] at ho; rw [← (show o = ow k from ho)]; exact ha⟩
  have hkey : ∀ k, lkey n ms as = some k → (slotOf ms as = some k) ∨ n ≤ k := fun k e => by
    unfold lkey at e
    simp only [Option.bind_eq_some_iff, Option.map_eq_some_iff] at e
    obtain ⟨j, e1, a, e2, e3⟩ := e
    unfold kOf at e3
    split at e3
    · subst e3; exact .inl (by simp [slotOf, e1, e2])
    · exact .inr (by omega)
  let S : Nat → Prop := fun k => slotOf ms as = some k ∨ n ≤ k
  have hS : ∀ k, slotOf ms as = some k → k < n := fun k e => by have := (hslot k e).1; omega
  -- when no slot is lent (a temporary was), what it ended as is dropped
  let go' : List Addr := if (slotOf ms as).isSome then go else []
  have go'sub : ∀ a ∈ go', a ∈ go := fun a h => by
    have h : a ∈ (if (slotOf ms as).isSome then go else []) := h
    split at h
    · exact h
    · simp at h
  have lenput : (putT (slotOf ms as) t' ρ).length = ρ.length := by
    unfold putT; split <;> simp
  have inS : ∀ a ∈ o, ∃ j, S j ∧ a ∈ ow j := fun a ha => by
    obtain ⟨k, ek, h⟩ := ho2 a ha
    exact ⟨k, hkey k ek, h⟩
  let ow' : Nat → List Addr := fun k => if slotOf ms as = some k then go' else if k < n then ow k else if k = n then ro else []
  have put : ∀ k, slotOf ms as ≠ some k → (putT (slotOf ms as) t' ρ)[k]? = ρ[k]? := fun k hk => by
    unfold putT
    split
    · rename_i i e
      refine List.getElem?_set_ne fun z => hk ?_
      rw [z] at e; exact e
    · rfl
  have bars : ∀ b, Bar C ow' b → b ∈ go ∨ b ∈ ro ∨ B0c C ow n o b := fun b z => by
    rcases z with ⟨k, z⟩ | z
    · have z : b ∈ (if slotOf ms as = some k then go' else if k < n then ow k else if k = n then ro else []) := z
      split at z
      · exact .inl (go'sub b z)
      · rename_i hk
        split at z
        · refine .inr (.inr ⟨.inl ⟨k, z⟩, fun q => ?_, fun k' hk' q => I.dj k k' b (by omega) z q⟩)
          obtain ⟨k', ek, h⟩ := ho2 b q
          refine I.dj k k' b (fun w => ?_) z h
          subst w
          rcases hkey k ek with w | w
          · exact hk w
          · omega
        · split at z
          · exact .inr (.inl z)
          · simp at z
    · refine .inr (.inr ⟨.inr z, fun q => ?_, fun k' _ q => I.nb0 q z⟩)
      obtain ⟨k, _, h⟩ := ho2 b q
      exact I.nb0 h z
  have barsB : ∀ b, (∃ k, b ∈ ow' k) → b ∈ go ∨ b ∈ ro ∨ ∃ k, b ∈ ow k := fun b ⟨k, z⟩ => by
    have z : b ∈ (if slotOf ms as = some k then go' else if k < n then ow k else if k = n then ro else []) := z
    split at z
    · exact .inl (go'sub b z)
    · split at z
      · exact .inr (.inr ⟨k, z⟩)
      · split at z
        · exact .inr (.inl z)
        · simp at z
  have nb : ∀ b u, H' b = some u → ¬ (b ∈ go ∨ b ∈ ro ∨ B0c C ow n o b) → H' b = some u ∧ ¬ Bar C ow' b := fun b u q z => ⟨q, fun w => z (bars b w)⟩
  have hS2 : ∀ k, ¬ S k → slotOf ms as ≠ some k ∧ k < n := fun k h => ⟨fun z => h (.inl z), by by_cases z : k < n; exact z; exact absurd (.inr (by omega)) h⟩
  have owS : ∀ k, slotOf ms as = some k → ow' k = go := fun k e => by
    show (if slotOf ms as = some k then go' else _) = go
    rw [if_pos e]
    show (if (slotOf ms as).isSome then go else []) = go
    rw [if_pos (by rw [e]; rfl)]
  have own_ : ow' n = ro := by
    show (if slotOf ms as = some n then go' else if n < n then ow n else if n = n then ro else []) = ro
    rw [if_neg (fun z => by have := hS n z; omega), if_neg (Nat.lt_irrefl _), if_pos rfl]
  have owHi : ∀ k, n < k → ow' k = [] := fun k hk => by
    show (if slotOf ms as = some k then go' else if k < n then ow k else if k = n then ro else []) = []
    rw [if_neg (fun z => by have := hS k z; omega), if_neg (by omega), if_neg (by omega)]
  have inGR : ∀ k a, S k → a ∈ ow' k → (slotOf ms as = some k ∧ a ∈ go) ∨ (k = n ∧ a ∈ ro) := fun k a hk h => by
    rcases hk with e | e
    · rw [owS k e] at h; exact .inl ⟨e, h⟩
    · by_cases z : k = n
      · subst z; rw [own_] at h; exact .inr ⟨rfl, h⟩
      · rw [owHi k (by omega)] at h; simp at h
  refine ⟨ow', I.next (S := S) (by rw [lenput, I.ln]) (by simp [hτ, hul]) ?_ (fun k hk => ?_) (fun k t hk e => ?_) lenput (fun b u e h => ?_) hco.tr (fun k a hk h => ?_) (fun m1 m2 k t hk e => ?_) (fun k hk => ?_) (fun j k a hj hk hjk h => ?_) (fun k a hk h => ?_) (fun _ _ => rfl)⟩
  · unfold putT
    split
    · rename_i i e
      exact noAliL_set I.na (clean_na (by
        obtain ⟨_, _, j, v, e1, _⟩ := hslot i e
        rw [e1] at hL; exact hL.1))
    · exact I.na
  · obtain ⟨h1, h2⟩ := hS2 k hk
    show (if slotOf ms as = some k then go' else if k < n then ow k else if k = n then ro else []) = ow k
    rw [if_neg h1, if_pos h2]
  · obtain ⟨h1, h2⟩ := hS2 k hk
    refine ⟨?_, ?_, .inl rfl⟩
    · by_cases hk2 : k < ρ.length
      · rw [List.getElem?_append_left (by rw [lenput]; exact hk2), put k h1] at e
        rw [List.getElem?_append_left hk2]; exact e
      · rw [List.getElem?_append_right (by rw [lenput]; omega), lenput] at e
        rw [List.getElem?_append_right (by omega)]
        rw [List.getElem?_append_left (by omega)] at e ⊢
        exact e
    · have z : k < (σ ++ List.map some vs).length := by simp [← I.ln, ← hτ]; exact h2
      simp only [List.map_append, ← List.append_assoc]
      exact (List.getElem?_append_left z).trans (List.getElem?_append_left z).symm
  · exact hco.sm b u e fun z => by
      obtain ⟨j, hj, q⟩ := inS b z
      exact h j hj q
  · have : a ∈ go ∨ a ∈ ro := (inGR k a hk h).imp (·.2) (·.2)
    rcases src a this with z | z
    · exact .inl (inS a z)
    · exact .inr z
  · rcases hk with ek | ek
    · obtain ⟨hi, _, j, v, e1, ev, es⟩ := hslot k ek
      have et : (putT (slotOf ms as) t' ρ)[k]? = some t' := by
        rw [ek]; show (ρ.set k t')[k]? = some t'
        exact List.getElem?_set_self hi
      rw [List.getElem?_append_left (by rw [lenput]; exact hi), et] at e
      cases e
      rw [e1] at hL
      obtain ⟨hc, hL⟩ := hL
      rcases hL with ⟨z, _⟩ | ⟨w, hw, r⟩
      · exact .inl ⟨z, by rw [lenput]; exact hi⟩
      · rw [ev] at hw; cases hw
        refine .inr ⟨v, ?_, ?_⟩
        · rw [List.getElem?_append_left (by rw [← I.ln]; exact hi)]; exact es
        · rw [owS k ek]
          exact r.clean nb (fun _ _ _ q => q) hc
    · have hlen : k < (putT (slotOf ms as) t' ρ ++ (τ ++ us)).length := (List.getElem?_eq_some_iff.mp e).1
      simp [lenput] at hlen
      rcases hu with ⟨rfl, rfl, _⟩ | ⟨r, v, rfl, rfl, hr, q⟩
      · simp at hlen; omega
      · simp at hlen
        have ek2 : k = n := by omega
        subst ek2
        rw [List.getElem?_append_right (by rw [lenput]; omega), lenput, List.getElem?_append_right (by omega)] at e
        have z : n - ρ.length - τ.length = 0 := by omega
        rw [z] at e
        simp at e; subst e
        refine .inr ⟨v, ?_, ?_⟩
        · simp only [List.map_append, ← List.append_assoc]
          rw [List.getElem?_append_right (by simp [← I.ln, ← hτ]; omega)]
          have z : n - (σ ++ List.map some vs).length = 0 := by simp [← I.ln, ← hτ]; omega
          rw [z]; rfl
        · rw [own_]
          exact q.clean nb (fun _ _ _ q => q) hr
  · rcases hk with ek | ek
    · rw [owS k ek]; exact n1
    · by_cases z : k = n
      · subst z; rw [own_]; exact n2
      · rw [owHi k (by omega)]; exact List.nodup_nil
  · intro h2
    rcases inGR j a hj h with ⟨e1, g1⟩ | ⟨e1, g1⟩ <;> rcases inGR k a hk h2 with ⟨e2, g2⟩ | ⟨e2, g2⟩
    · rw [e1] at e2; cases e2; exact hjk rfl
    · exact dj a g1 g2
    · exact dj a g2 g1
    · exact hjk (e1.trans e2.symm)
  · exact ot a ((inGR k a hk h).imp (·.2) (·.2))
end

/-! ### f(..) -/
/-- a contract asked at a call; it does not unfold by itself -/
structure Spc (spd : DSp) (ts : List T) (Q : T → T → Prop) (W : Exn → T → Prop) : Prop where
  of : spd ts Q W
def dCall (ms : List Md) (spd : DSp) (Wd : Exn → List T → Prop) (fs : DA) : DE := fun ρ Q => fs ρ fun as ρ1 => wO (argsT ρ1 ms as) fun ts => match freeOf (slotOf ms as) ms as with
  | true => Spc spd ts (fun r t' => Q r (putT (slotOf ms as) t' ρ1)) (fun ex t' => Wd ex (putT (slotOf ms as) t' ρ1))
  | false => False
theorem mb_true {b : Bool} {p : Prop} (h : match b with | true => p | false => False) : b = true ∧ p := by
  cases b with
  | true => exact ⟨rfl, h⟩
  | false => exact h.elim
theorem PostC.nil (K : PySem.W.Frag) : True := trivial
section
variable {C : Ctx} {k : Nat} {f : Addr} {fd : FuncData} {ps : List Str} {x : Str} {p pos : Pos} {e : Expr} {es : List Expr} {fs : DA} {ms : List Md} {spd : DSp} {n : Nat}
theorem sim_call {σ : St} {H : Hp} {ρ : List T} {vs xs : List V} {τ as : List T} {Qd : DQ} {Q : VK} (hn : n = ms.length) (I : SS C σ H ρ (vs ++ xs) (τ ++ as)) (hl : as.length = xs.length) (hτ : τ.length = vs.length)
    (q : wO (argsT ρ ms as) fun ts => match freeOf (slotOf ms as) ms as with
      | true => Spc spd ts (fun r t' => Qd r (putT (slotOf ms as) t' ρ)) (fun ex t' => C.Wd ex (putT (slotOf ms as) t' ρ))
      | false => False) (k : ∀ v H' x ρ', SS C σ H' ρ' (vs ++ [v]) (τ ++ [x]) → Qd x ρ' → Q v H') (hmono : ∀ (ts : List T) (R R' : T → T → Prop) (W W' : Exn → T → Prop), (∀ r t, R r t → R' r t) → (∀ r t, W r t → W' r t) → spd ts R W → spd ts R' W') :
    toSp C.K n (lnOf ms) spd xs H Q (WE (relW C) σ) := by
  obtain ⟨ts, ea, q⟩ := wO_some q
  obtain ⟨hf, ⟨q⟩⟩ := mb_true q
  obtain ⟨ow, J⟩ := I
  obtain ⟨o, ho, P⟩ := J.pre hτ hl ea hf
  obtain ⟨l1, l2⟩ := argsT_len ea
  refine ⟨_, ts, o, by omega, P, hmono ts _ _ _ _ (fun r t' hq v H' Po => ?_) (fun ex t' hw cls d H' Po => ?_) q⟩
  · obtain ⟨go, ro, h1, h2, h3, h4, h5, h6, h7⟩ := Po.ex
    exact k v H' r _ (J.post hτ hl ho Po.co h2 h3 h4 h5 h6 h7 (.inr ⟨r, v, rfl, rfl, Po.na, h1⟩)) hq
  · obtain ⟨go, h1, h2, h3, h4⟩ := Po.ex
    have e1 : (fun a => a ∈ go ∨ B0c C ow (ρ.length + τ.length) o a) = fun a => a ∈ go ∨ a ∈ ([] : List Addr) ∨ B0c C ow (ρ.length + τ.length) o a := by funext a; simp
    have e2 : (fun a => a ∈ go) = fun a => a ∈ go ∨ a ∈ ([] : List Addr) := by funext a; simp
    rw [e1, e2] at h1
    have S := J.post (ro := []) (ys := []) (us := []) hτ hl ho Po.co h1 h2 List.nodup_nil (fun _ _ z => by simp at z) (fun a z => h3 a (by simpa using z)) (fun a z => h4 a (by simpa using z)) (.inl ⟨rfl, rfl, rfl⟩)
    refine ⟨ex, _, Po.is, ?_, hw⟩
    have S' : SS C σ H' (putT (slotOf ms as) t' ρ) ([] ++ vs) ([] ++ τ) := by simpa using S
    exact S'.drop rfl
/-- a contract's ends may be weakened -/
def Mono (spd : DSp) : Prop := ∀ (ts : List T) (R R' : T → T → Prop) (W W' : Exn → T → Prop), (∀ r t, R r t → R' r t) → (∀ r t, W r t → W' r t) → spd ts R W → spd ts R' W'
theorem de_call (F : FnG C.X.prog C.X.w C.X.K C.X.mg C.X.base k f fd ps (toSp C.X.K n (lnOf ms) spd)) (hr : RoomG k C.X.A) (hm0 : Mono spd) (hn : n = ms.length) (hg : Gl C.X x) (hm : C.X.mg x = some (.ref f)) (hk : PySem.W.keepIn C.X.K (.ref f) = true) (hb : Binds C.X.K fd ps [])
    (tk : DTk C) (ha : DPA C (e :: es) fs) (hdb : (x == ("__debug__" : Str)) = false := by decide) (he : starEach (e :: es) C.X.env = (false, eval e C.X.env) :: starEach es C.X.env := by rfl) (hpl : (backTo pos (starEach es C.X.env)).any (·.1) = false := by rfl) :
    DPE C (.Call (.Name x p) (e :: es) [] pos) (dCall ms spd C.Wd fs) :=
  let ⟨_, pa, sa⟩ := ha.ex
  ⟨_, pe_callG F hr hg hm hk hb .nil (fun σ => passAt tk σ) pa hdb he hpl, fun σ H ρ vs τ Qd Q I h kk => sa σ H ρ vs τ _ _ I h fun xs H1 as ρ1 I1 hl q => by
    have := sim_call hn I1 hl (I1.lenA hl) q kk hm0
    rw [← List.append_nil xs] at this
    exact this⟩
/-- scalars behind the arguments -/
theorem SS.scs {σ : St} {H : Hp} {ρ : List T} {vs : List V} {τ : List T} : ∀ {dds : List D} {dvs : List V} {xs : List V} {as : List T}, dds.map sv = dvs.map some → SS C σ H ρ (vs ++ xs) (τ ++ as) → SS C σ H ρ (vs ++ (xs ++ dvs)) (τ ++ (as ++ dds.map .dat))
  | [], [], xs, as, _, I => by simpa using I
  | [], _ :: _, _, _, e, _ => by simp at e
  | _ :: _, [], _, _, e, _ => by simp at e
  | d :: dds, v :: dvs, xs, as, e, I => by
    simp only [List.map_cons, List.cons.injEq] at e
    have I2 : SS C σ H ρ (vs ++ (xs ++ [v])) (τ ++ (as ++ [.dat d])) := by simpa using I.sc e.1
    simpa using SS.scs e.2 I2
/-- a call that leaves the last parameters to their defaults -/
def dCallD (dds : List D) (ms : List Md) (spd : DSp) (Wd : Exn → List T → Prop) (fs : DA) : DE := dCall (ms ++ dds.map fun _ => .dat) spd Wd fun ρ Q => fs ρ fun as ρ1 => Q (as ++ dds.map .dat) ρ1
theorem de_callD {dds : List D} {dvs : List V} (F : FnG C.X.prog C.X.w C.X.K C.X.mg C.X.base k f fd ps (toSp C.X.K n (lnOf (ms ++ dds.map fun _ => .dat)) spd)) (hr : RoomG k C.X.A) (hm0 : Mono spd) (hn : n = (ms ++ dds.map fun _ => Md.dat).length) (hg : Gl C.X x) (hm : C.X.mg x = some (.ref f)) (hk : PySem.W.keepIn C.X.K (.ref f) = true)
    (hb : ∃ dsv, Vals dvs dsv ∧ Binds C.X.K fd ps dsv) (hdv : dds.map sv = dvs.map some)
    (tk : DTk C) (ha : DPA C (e :: es) fs) (hdb : (x == ("__debug__" : Str)) = false := by decide) (he : starEach (e :: es) C.X.env = (false, eval e C.X.env) :: starEach es C.X.env := by rfl) (hpl : (backTo pos (starEach es C.X.env)).any (·.1) = false := by rfl) :
    DPE C (.Call (.Name x p) (e :: es) [] pos) (dCallD dds ms spd C.Wd fs) :=
  let ⟨_, pa, sa⟩ := ha.ex
  let ⟨_, hv, hb⟩ := hb
  ⟨_, pe_callG F hr hg hm hk hb hv (fun σ => passAt tk σ) pa hdb he hpl, fun σ H ρ vs τ Qd Q I h kk => sa σ H ρ vs τ _ _ I h fun xs H1 as ρ1 I1 hl q => by
    have hdl : dds.length = dvs.length := by simpa using congrArg List.length hdv
    exact sim_call hn (SS.scs hdv I1) (by simp [hl, hdl]) (I1.lenA hl) q kk hm0⟩
end
end Ds
namespace Ds
open PySem L2

def wipeT (ρ : List T) : List Nat → List T
  | [] => ρ
  | i :: is => (wipeT ρ is).set i .emp
theorem wipeT_len (ρ : List T) : ∀ is, (wipeT ρ is).length = ρ.length
  | [] => rfl
  | i :: is => by unfold wipeT; rw [List.length_set, wipeT_len ρ is]
theorem wipeT_get {ρ : List T} {i : Nat} : ∀ {is : List Nat}, i ∉ is → (wipeT ρ is)[i]? = ρ[i]?
  | [], _ => rfl
  | j :: is, h => by
    unfold wipeT
    rw [List.getElem?_set_ne (fun z => h (by simp [z])), wipeT_get (fun z => h (by simp [z]))]
theorem wipeT_in {ρ : List T} {i : Nat} {t : T} : ∀ {is : List Nat}, i ∈ is → (wipeT ρ is)[i]? = some t → t = .emp
  | [], h, _ => by simp at h
  | j :: is, h, e => by
    unfold wipeT at e
    by_cases z : j = i
    · subst z
      by_cases hj : j < (wipeT ρ is).length
      · rw [List.getElem?_set_self hj] at e; exact (Option.some.inj e).symm
      · rw [List.getElem?_eq_none (by simpa using hj)] at e; cases e
    · rw [List.getElem?_set_ne z] at e
      exact wipeT_in (by simpa [Ne.symm z] using h) e
theorem wipeT_na {ρ : List T} : ∀ {is : List Nat}, noAliL ρ = true → noAliL (wipeT ρ is) = true
  | [], h => h
  | i :: is, h => by unfold wipeT; exact noAliL_set (wipeT_na h) rfl
section
variable {C : Ctx} {σ σ' σ2 : St} {H H' : Hp} {ρ ρ' : List T} {vs xs : List V} {τ ts : List T} {own : List Nat} {v w : V} {x t : T}
/-- to slots that differ in the block's own names alone; these forgotten -/
theorem SS.toW (h : SS C σ2 H ρ vs τ) (hw : wipe σ2 own = wipe σ own) (hc : ∀ i ∈ own, i ∈ C.cv) (hl : ∀ i ∈ own, i ∉ C.lent) : SS C σ H (wipeT ρ own) vs τ := by
  obtain ⟨ow, I⟩ := h
  have len : σ2.length = σ.length := by have := congrArg List.length hw; rwa [wipe_length, wipe_length] at this
  have out : ∀ i, i ∉ own → σ2[i]? = σ[i]? := fun i hi => by rw [← wipe_out hi, hw, wipe_out hi]
  have wcv : wipe σ C.cv = wipe σ2 C.cv := wipe_ext len.symm fun i hi => (out i fun z => hi (hc i z)).symm
  have keep : ∀ k (u : T), ¬ (k ∈ own ∧ k < ρ.length) → (wipeT ρ own ++ τ)[k]? = some u → (ρ ++ τ)[k]? = some u := fun k u hk e => by
    by_cases z : k < ρ.length
    · rw [List.getElem?_append_left (by rw [wipeT_len]; exact z), wipeT_get (fun q => hk ⟨q, z⟩)] at e
      rw [List.getElem?_append_left z]; exact e
    · rw [List.getElem?_append_right (by rw [wipeT_len]; omega), wipeT_len] at e
      rw [List.getElem?_append_right (by omega)]; exact e
  refine ⟨fun k => if k ∈ own ∧ k < ρ.length then [] else ow k, I.next (S := fun k => k ∈ own ∧ k < ρ.length) (by rw [wipeT_len, I.ln, len]) I.lt (wipeT_na I.na) (fun k hk => ?_) (fun k u hk e => ?_) (wipeT_len _ _) (fun b o e _ => e) (fun b z => z)
    (fun k a hk h => ?_) (fun m1 m2 k u hk e => ?_) (fun k hk => ?_) (fun j k a hj hk hjk h => ?_) (fun k a hk h => ?_) (fun i hi => ?_)⟩
  · simp only [if_neg hk]
  · refine ⟨keep k u hk e, ?_, .inl wcv⟩
    by_cases z : k < ρ.length
    · have a1 : k < σ.length := by rw [← len, ← I.ln]; exact z
      have a2 : k < σ2.length := by rw [← I.ln]; exact z
      exact (List.getElem?_append_left a1).trans ((out k fun q => hk ⟨q, z⟩).symm.trans (List.getElem?_append_left a2).symm)
    · have a1 : σ.length ≤ k := by rw [← len, ← I.ln]; omega
      have a2 : σ2.length ≤ k := by rw [← I.ln]; omega
      refine (List.getElem?_append_right a1).trans (Eq.trans ?_ (List.getElem?_append_right a2).symm)
      rw [len]
  · simp only [if_pos hk] at h; simp at h
  · refine .inl ⟨?_, by rw [wipeT_len]; exact hk.2⟩
    rw [List.getElem?_append_left (by rw [wipeT_len]; exact hk.2)] at e
    exact wipeT_in hk.1 e
  · simp only [if_pos hk]; exact List.nodup_nil
  · simp only [if_pos hj] at h; simp at h
  · simp only [if_pos hk] at h; simp at h
  · exact (out i fun z => hl i z hi).symm
theorem wipe_idem (σ : St) (own : List Nat) : wipe (wipe σ own) own = wipe σ own := wipe_ext (wipe_length _ _) fun i hi => wipe_out hi
/-- the top goes under -/
theorem SS.under {sv : List V} {sx : List T} (hl : sx.length = sv.length) : ∀ {sv2 : List V} {sx2 : List T}, sx2.length = sv2.length → SS C σ H ρ (vs ++ sv ++ [v] ++ sv2) (τ ++ sx ++ [t] ++ sx2) → SS C σ H ρ (vs ++ [v] ++ sv2 ++ sv) (τ ++ [t] ++ sx2 ++ sx) := by
  induction sv generalizing sx with
  | nil =>
    intro sv2 sx2 hl2 h
    have : sx = [] := List.length_eq_zero_iff.mp hl
    subst this
    simpa using h
  | cons s sv ih =>
    intro sv2 sx2 hl2 h
    match sx, hl with
    | u :: sx, hl =>
      have h1 : SS C σ H ρ (vs ++ (s :: (sv ++ [v] ++ sv2))) (τ ++ (u :: (sx ++ [t] ++ sx2))) := by simpa using h
      have h2 := h1.first (by simp at hl ⊢; omega)
      have h3 := ih (sx := sx) (by simpa using hl) (sv2 := sv2 ++ [s]) (sx2 := sx2 ++ [u]) (by simp [hl2]) (by simpa using h2)
      simpa using h3
theorem TIs.own_inv {K : PySem.W.Frag} {B Bb : Addr → Prop} {σ : St} {H : Hp} {ds : List D} {v : V} : ∀ {os : List Addr}, TIs K B Bb σ H (.own ds) v os → ∃ a zs, v = .ref a ∧ H a = some (.lst zs) ∧ DIsL K B H ds zs ∧ os = [a]
  | _, .own e q => ⟨_, _, rfl, e, q, rfl⟩
/-- the list below the top takes the top in -/
theorem SS.grow (h : SS C σ H ρ (vs ++ [.ref l] ++ xs ++ [w]) (τ ++ [.own acc] ++ ts ++ [x])) (hτ : τ.length = vs.length) {d : D} (hd : frz x = some d) :
    ∃ zs, H l = some (.lst zs) ∧ zs.length = acc.length ∧ SS C σ (upd H l (.lst (zs ++ [w]))) ρ (vs ++ [.ref l] ++ xs) (τ ++ [.own (acc ++ [d])] ++ ts) := by
  obtain ⟨ow, I⟩ := h
  have hl := I.lt
  simp at hl
  have hts : ts.length = xs.length := by omega
  let n := ρ.length + τ.length
  let m := ρ.length + (τ.length + 1 + ts.length)
  obtain ⟨v, hv, r⟩ := I.temp (j := τ.length) (t := .own acc) (by simp)
  have ev : v = .ref l := by rw [hτ] at hv; simp at hv; exact hv.symm
  subst ev
  have rtop := I.top
  have em : ρ.length + (τ ++ [T.own acc] ++ ts).length = m := by simp [m]; omega
  rw [em] at rtop
  have own_inv : ∃ zs, H l = some (.lst zs) ∧ DIsL C.K (Bar C ow) H acc zs ∧ ow n = [l] := by
    obtain ⟨a, zs, ea, e, q, eo⟩ := r.own_inv
    cases ea
    exact ⟨zs, e, q, eo⟩
  obtain ⟨zs, hz, dz, on⟩ := own_inv
  have lb : ∀ k, k ≠ n → l ∉ ow k := fun k hk q => I.dj n k l (Ne.symm hk) (by rw [on]; simp) q
  have hnm : n < m := by simp [n, m]; omega
  have low : ∀ (k : Nat) (α : Type) (A B E : List α), k < A.length → (A ++ B)[k]? = (A ++ E)[k]? := fun k α A B E h => by rw [List.getElem?_append_left h, List.getElem?_append_left h]
  let ow' : Nat → List Addr := fun k => if k = n then [l] else if k = m then [] else ow k
  have barN : ∀ b, Bar C ow' b → b = l ∨ (∃ k, k ≠ n ∧ k ≠ m ∧ b ∈ ow k) ∨ C.B0 b := fun b z => by
    rcases z with ⟨k, z⟩ | z
    · have z : b ∈ (if k = n then [l] else if k = m then [] else ow k) := z
      split at z
      · exact .inl (by simpa using z)
      · split at z
        · simp at z
        · exact .inr (.inl ⟨k, by assumption, by assumption, z⟩)
    · exact .inr (.inr z)
  have lN : Bar C ow' l := .inl ⟨n, by show l ∈ (if n = n then [l] else if n = m then [] else ow n); rw [if_pos rfl]; simp⟩
  refine ⟨zs, hz, dz.length.symm, ow', I.next (S := fun k => k = n ∨ m ≤ k) I.ln (by simp; omega) I.na (fun k hk => ?_) (fun k u hk e => ?_) rfl (fun b o e hb => ?_) (fun b z => ?_)
    (fun k a hk h => ?_) (fun m1 m2 k u hk e => ?_) (fun k hk => ?_) (fun j k a hj hk hjk h => ?_) (fun k a hk h => ?_) (fun i hi => rfl)⟩
  · show (if k = n then [l] else if k = m then [] else ow k) = ow k
    rw [if_neg (fun z => hk (.inl z)), if_neg (fun z => hk (.inr (by omega)))]
  · have h1 : k ≠ n := fun z => hk (.inl z)
    have h2 : k < m := by by_cases z : k < m; exact z; exact absurd (.inr (by omega)) hk
    refine ⟨?_, ?_, .inl rfl⟩
    · by_cases z : k < n
      · simp only [← List.append_assoc] at e ⊢
        rw [List.getElem?_append_left (by simp; omega), List.getElem?_append_left (by simp; omega)] at e
        rw [List.getElem?_append_left (by simp; omega), List.getElem?_append_left (by simp; omega), List.getElem?_append_left (by simp; omega)]
        exact e
      · simp only [← List.append_assoc] at e ⊢
        rw [List.getElem?_append_right (by simp; omega)] at e
        rw [List.getElem?_append_left (by simp; omega), List.getElem?_append_right (by simp; omega)]
        simpa using e
    · have z : k < (σ ++ List.map some (vs ++ [V.ref l] ++ xs)).length := by simp [← I.ln, ← hτ]; omega
      have e3 : (σ ++ List.map some (vs ++ [V.ref l] ++ xs ++ [w])) = (σ ++ List.map some (vs ++ [V.ref l] ++ xs)) ++ [some w] := by simp
      rw [e3]
      exact (List.getElem?_append_left z).symm
  · have : b ≠ l := fun z => hb n (.inl rfl) (by rw [on, z]; simp)
    rw [upd_ne this]; exact e
  · by_cases q : b = l
    · subst q; rw [upd_same]; simp
    · rw [upd_ne q]; exact z
  · have h : a ∈ (if k = n then [l] else if k = m then [] else ow k) := h
    split at h
    · simp at h; subst h; exact .inl ⟨n, .inl rfl, by rw [on]; simp⟩
    · split at h
      · simp at h
      · rename_i h1 h2
        exact .inl ⟨k, hk, h⟩
  · refine .inr ?_
    rcases hk with rfl | hk
    · have eu : u = .own (acc ++ [d]) := by
        simp only [← List.append_assoc] at e
        rw [List.getElem?_append_left (by simp [n]), List.getElem?_append_right (by simp [n])] at e
        simp [n] at e; exact e.symm
      subst eu
      refine ⟨.ref l, ?_, ?_⟩
      · simp only [List.map_append, ← List.append_assoc]
        rw [List.getElem?_append_left (by simp [← I.ln, ← hτ, n]), List.getElem?_append_right (by simp [← I.ln, ← hτ, n])]
        simp [← I.ln, ← hτ, n]
      · show TIs _ _ _ _ _ _ _ (if n = n then [l] else if n = m then [] else ow n)
        rw [if_pos rfl]
        refine .own upd_same ((dz.move m1).snoc ?_)
        have q : DIs C.K (Bar C ow') H d w := rtop.frz I.tupOk (fun b o e nb z => (m1 b o e nb).2 z) (fun a ha z => by
          rcases barN a z with rfl | ⟨k, h1, h2, h3⟩ | h
          · exact lb m (by omega) ha
          · exact I.dj k m a h2 h3 ha
          · exact I.nb0 ha h) hd
        exact q.move fun b o e nb => ⟨(by rw [upd_ne (fun z => nb (by rw [z]; exact lN))]; exact e), nb⟩
    · have : k < (ρ ++ (τ ++ [T.own (acc ++ [d])] ++ ts)).length := (List.getElem?_eq_some_iff.mp e).1
      simp at this
      omega
  · show (if k = n then [l] else if k = m then [] else ow k).Nodup
    split
    · simp
    · split
      · exact List.nodup_nil
      · exact I.nd k
  · have h : a ∈ (if j = n then [l] else if j = m then [] else ow j) := h
    show a ∉ (if k = n then [l] else if k = m then [] else ow k)
    split at h
    · simp at h; subst h
      rw [if_neg (by omega)]
      split
      · simp
      · exact lb k (by omega)
    · split at h
      · simp at h
      · split
        · simp only [List.mem_singleton]; intro z; exact lb j (by assumption) (by rw [← z]; exact h)
        · split
          · simp
          · exact I.dj j k a hjk h
  · have h : a ∈ (if k = n then [l] else if k = m then [] else ow k) := h
    split at h
    · simp at h; subst h; exact ⟨_, upd_same, trivial⟩
    · split at h
      · simp at h
      · obtain ⟨o, e, c⟩ := I.ot k a h
        rename_i h1 h2
        exact ⟨o, (by rw [upd_ne (fun z => lb k h1 (by rw [← z]; exact h))]; exact e), c⟩
end

/-! ### the rule -/
theorem wipeT_idem (ρ : List T) (own : List Nat) : wipeT (wipeT ρ own) own = wipeT ρ own := by
  refine List.ext_getElem? fun i => ?_
  by_cases h : i ∈ own
  · cases e : (wipeT (wipeT ρ own) own)[i]? with
    | none =>
      have := List.getElem?_eq_none_iff.mp e
      rw [wipeT_len] at this
      exact (List.getElem?_eq_none_iff.mpr this).symm
    | some t =>
      have h1 := wipeT_in h e
      have hi := (List.getElem?_eq_some_iff.mp e).1
      rw [wipeT_len] at hi
      have e2 : (wipeT ρ own)[i]? = some (wipeT ρ own)[i] := List.getElem?_eq_getElem hi
      rw [e2, wipeT_in h e2, h1]
  · exact wipeT_get h
def dLcGo (g : DG) (tt : DTt) (fe : DE) (own : List Nat) (K : List D → List T → Prop) : List T → List D → List T → Prop
  | [], acc, ρ => K acc ρ
  | t :: its, acc, ρ => g t ρ fun ρ1 => tt ρ1 fun b ρ2 => br b (fe ρ2 fun y ρ3 => wD (frz y) fun d => acc.length < sizeLine ∧ dLcGo g tt fe own K its (acc ++ [d]) (wipeT ρ3 own)) (dLcGo g tt fe own K its acc (wipeT ρ2 own))
def dLc (fi : DI) (g : DG) (tt : DTt) (fe : DE) (own : List Nat) : DE := fun ρ Q => fi ρ fun its ρ1 => dLcGo g tt fe own (fun ds ρ2 => Q (.own ds) ρ2) its [] (wipeT ρ1 own)
def dYes : DTt := fun ρ Q => Q true ρ
/-- targets that are names -/
def gNs : List Nat → TGs
  | [] => gNil
  | i :: is => gCons (gName i) (gNs is)
def dgNs : List Nat → DGs
  | [] => dgNil
  | i :: is => dgCons (dgName i) (dgNs is)
inductive Tgt where
  | one (i : Nat)
  | many (is : List Nat)
def Tgt.sl : Tgt → List Nat
  | .one i => [i]
  | .many is => is
def Tgt.g (K : PySem.W.Frag) : Tgt → TG
  | .one i => gName i
  | .many is => fun v σ H Q => gTup K is.length (gNs is) v σ H Q ∨ gLst K is.length (gNs is) v σ H Q
def Tgt.d : Tgt → DG
  | .one i => dgName i
  | .many is => dgTup is.length (dgNs is)
theorem tgt_mono {K : PySem.W.Frag} {tg : Tgt} {v : V} {σ : St} {H : Hp} {Q Q' : St → Hp → Prop} (h : tg.g K v σ H Q) (hq : ∀ σ' H', Q σ' H' → Q' σ' H') : tg.g K v σ H Q' := by
  have ns : ∀ {is : List Nat} {xs : List V} {σ : St} {H : Hp}, gNs is xs σ H Q → gNs is xs σ H Q' := by
    intro is
    induction is with
    | nil => intro xs σ H h; exact ⟨h.1, hq _ _ h.2⟩
    | cons i is ih => intro xs σ H h; obtain ⟨v, r, e, h⟩ := h; exact ⟨v, r, e, ih h⟩
  cases tg with
  | one i => exact hq _ _ h
  | many is =>
    rcases h with ⟨a, xs, e, h1, h2, h⟩ | ⟨a, xs, e, h1, h2, h⟩
    · exact .inl ⟨a, xs, e, h1, h2, ns h⟩
    · exact .inr ⟨a, xs, e, h1, h2, ns h⟩
theorem tgd_na {tg : Tgt} {t : T} {ρ : List T} {Q : List T → Prop} (h : tg.d t ρ Q) : noAli t = true := by
  cases tg with
  | one i => exact (na_ok h).1
  | many is => exact (na_ok h).1
section
variable {C : Ctx}
theorem gNs_only {own : List Nat} : ∀ {is : List Nat} {xs : List V} {σ : St} {H : Hp} {Q : St → Hp → Prop}, (∀ i ∈ is, i ∈ own) → gNs is xs σ H Q → gNs is xs σ H fun σ' H' => Q σ' H' ∧ wipe σ' own = wipe σ own
  | [], xs, σ, H, Q, _, h => ⟨h.1, h.2, rfl⟩
  | i :: is, xs, σ, H, Q, hi, h => by
    obtain ⟨v, r, rfl, h⟩ := h
    refine ⟨v, r, rfl, ?_⟩
    have := gNs_only (own := own) (is := is) (fun j hj => hi j (by simp [hj])) (show gNs is r (σ.set i (some v)) H Q from h)
    rw [set_wipe (hi i (by simp))] at this
    exact this
theorem Tgt.only {K : PySem.W.Frag} {own : List Nat} {tg : Tgt} {v : V} {σ : St} {H : Hp} {Q : St → Hp → Prop} (hs : ∀ i ∈ tg.sl, i ∈ own) (h : tg.g K v σ H Q) : tg.g K v σ H fun σ' H' => Q σ' H' ∧ wipe σ' own = wipe σ own := by
  cases tg with
  | one i => exact ⟨h, set_wipe (hs i (by simp [Tgt.sl]))⟩
  | many is =>
    rcases h with ⟨a, xs, e, h1, h2, h⟩ | ⟨a, xs, e, h1, h2, h⟩
    · exact .inl ⟨a, xs, e, h1, h2, gNs_only hs h⟩
    · exact .inr ⟨a, xs, e, h1, h2, gNs_only hs h⟩
/-- temporaries with aliases may lie below -/
def SimG' (C : Ctx) (g : TG) (f : DG) : Prop := ∀ (σ : St) (H : Hp) (ρ : List T) (vs : List V) (τ : List T) (v : V) (t : T) (Qd : List T → Prop) (Q : St → Hp → Prop), SS C σ H ρ (vs ++ [v]) (τ ++ [t]) → noAli t = true → f t ρ Qd →
  (∀ σ' H' ρ', SS C σ' H' ρ' vs τ → Qd ρ' → Q σ' H') → g v σ H Q
theorem sim_one {i : Nat} (nl : i ∉ C.lent) (hc : i ∈ C.cv) : SimG' C (gName i) (dgName i) := fun σ H ρ vs τ v t Qd Q I _ q k => by
  obtain ⟨nt, q⟩ := na_ok q
  by_cases z : i < ρ.length
  · exact k _ _ _ (I.assign z nt (.inr hc) nl) q
  · refine k _ _ ρ ?_ (by rw [getElem?_of_set z] at q; exact q)
    rw [getElem?_of_set (by rw [← I.lnN]; exact z)]
    exact I.pop
theorem sim_ns : ∀ {is : List Nat}, (∀ i ∈ is, i ∉ C.lent ∧ i ∈ C.cv) → ∀ (σ : St) (H : Hp) (ρ : List T) (vs : List V) (τ : List T) (xs : List V) (ts : List T) (Qd : List T → Prop) (Q : St → Hp → Prop), SS C σ H ρ (vs ++ xs) (τ ++ ts) → ts.length = xs.length → noAliL ts = true →
    dgNs is ts ρ Qd → (∀ σ' H' ρ', SS C σ' H' ρ' vs τ → Qd ρ' → Q σ' H') → gNs is xs σ H Q
  | [], _ => fun σ H ρ vs τ xs ts Qd Q I hl nt q k => by
    unfold dgNs dgNil at q
    split at q
    · have : xs = [] := List.length_eq_zero_iff.mp hl.symm
      subst this
      exact ⟨rfl, k _ _ _ (by simpa using I) q⟩
    · exact q.elim
  | i :: is, h => fun σ H ρ vs τ xs ts Qd Q I hl nt q k => by
    unfold dgNs dgCons at q
    split at q
    · rename_i t ts
      match xs, hl with
      | v :: xs, hl =>
        simp [noAliL] at nt
        refine ⟨v, xs, rfl, sim_one (h i (by simp)).1 (h i (by simp)).2 σ H ρ (vs ++ xs) (τ ++ ts) v t _ _ (I.first (by simpa using hl)) nt.1 q fun σ' H' ρ' I' q' => ?_⟩
        exact sim_ns (is := is) (fun j hj => h j (by simp [hj])) σ' H' ρ' vs τ xs ts _ _ I' (by simpa using hl) nt.2 q' k
    · exact q.elim
theorem Tgt.sim {tg : Tgt} (h : ∀ i ∈ tg.sl, i ∉ C.lent ∧ i ∈ C.cv) : SimG' C (tg.g C.K) tg.d := by
  cases tg with
  | one i => exact sim_one (h i (by simp [Tgt.sl])).1 (h i (by simp [Tgt.sl])).2
  | many is =>
    intro σ H ρ vs τ v t Qd Q I na q k
    obtain ⟨nt, q⟩ := na_ok q
    obtain ⟨us, e, hl, q⟩ := wO_some q
    obtain ⟨a, xs, rfl, hq, hlen, I'⟩ := I.apart e
    have fin := sim_ns (is := is) h σ H ρ vs τ xs us Qd Q I' hlen (noAli_parts nt e) q k
    rcases hq with hq | hq
    · exact .inl ⟨a, xs, rfl, hq, by omega, fin⟩
    · exact .inr ⟨a, xs, rfl, hq, by omega, fin⟩
/-- the transformer that a denotation is -/
def derE (C : Ctx) (f : DE) : TE := fun σ H Q => ∃ (ρ : List T) (vs : List V) (τ : List T) (Qd : DQ), SS C σ H ρ vs τ ∧ f ρ Qd ∧ ∀ v H' x ρ', SS C σ H' ρ' (vs ++ [v]) (τ ++ [x]) → Qd x ρ' → Q v H'
def derT (C : Ctx) (f : DTt) : TT := fun σ H Q => ∃ (ρ : List T) (vs : List V) (τ : List T) (Qd : Bool → List T → Prop), SS C σ H ρ vs τ ∧ f ρ Qd ∧ ∀ b H' ρ', SS C σ H' ρ' vs τ → Qd b ρ' → Q b H'
/-- a block's context -/
abbrev Ctx.blk (C : Ctx) (s : Shared) (H : Hp) (scope : Scope) (Cc : Addr) (cl : List (Str × Addr)) (fp : List Addr) : Ctx := { C with X := C.X.blk s H scope (compEnvC scope cl Cc C.X.env) fp, Wd := fun _ _ => False }
theorem SI.blk {σ : St} {H : Hp} {ρ : List T} {vs : List V} {τ : List T} {ow : Nat → List Addr} {s : Shared} {H1 : Hp} {scope : Scope} {Cc : Addr} {cl : List (Str × Addr)} {fp : List Addr} (I : SI C σ H ρ vs τ ow) : SI (C.blk s H1 scope Cc cl fp) σ H ρ vs τ ow :=
  ⟨⟨I.ok.b0, I.ok.ob⟩, I.ln, I.lt, I.na, I.cl, I.nd, I.dj, I.ot, I.fr, I.kp, I.tr, I.le⟩
theorem SI.unblk {σ : St} {H : Hp} {ρ : List T} {vs : List V} {τ : List T} {ow : Nat → List Addr} {s : Shared} {H1 : Hp} {scope : Scope} {Cc : Addr} {cl : List (Str × Addr)} {fp : List Addr} (I : SI (C.blk s H1 scope Cc cl fp) σ H ρ vs τ ow) : SI C σ H ρ vs τ ow :=
  ⟨⟨I.ok.b0, I.ok.ob⟩, I.ln, I.lt, I.na, I.cl, I.nd, I.dj, I.ot, I.fr, I.kp, I.tr, I.le⟩
theorem tk_blk {s : Shared} {H1 : Hp} {scope : Scope} {Cc : Addr} {cl : List (Str × Addr)} {fp : List Addr} : DTk (C.blk s H1 scope Cc cl fp) := takes0.imp fun _ _ _ _ ⟨_, _, _, _, h⟩ => h
structure DPTs (C : Ctx) (ifs : List Expr) (f : DTt) : Prop where
  ex : ∃ t, PTs C.X ifs t ∧ SimT C t f
theorem dts_nil : DPTs C [] dYes := ⟨_, pts_nil, fun σ H ρ vs τ Qd Q I h k => k _ _ _ I h⟩
theorem dts_one {c : Expr} {f : DTt} (h : DPT C c f) : DPTs C [c] f := let ⟨_, p, s⟩ := h.ex; ⟨_, pts_one p, s⟩
variable {elt tge iter : Expr} {ifs : List Expr} {scope : Scope} {own : List (Str × Nat)} {pos : Pos} {fi : DI} {tt : DTt} {fe : DE} {tg : Tgt}
theorem sim_lc {wi : TI} (hi : SimI C wi fi) (h1 : ∀ i ∈ tg.sl, i ∈ own.map (·.2)) (h2 : ∀ i ∈ own.map (·.2), i ∉ C.lent ∧ i ∈ C.cv) :
    Sim C (tLc wi (tg.g C.K) (derT C tt) (derE C fe) (own.map (·.2))) (dLc fi tg.d tt fe (own.map (·.2))) := fun σ H ρ vs τ Qd Q I h k => hi σ H ρ vs τ _ _ I h fun J H1 sv sx its ρ1 I1 nx wk q A hD => by
  let os := own.map (·.2)
  have hτ := I.ltE
  have hsx : sx.length = sv.length := by have := I1.ltE; simp at this; omega
  have hc : ∀ i ∈ os, i ∈ C.cv := fun i hi => (h2 i hi).2
  have hl : ∀ i ∈ os, i ∉ C.lent := fun i hi => (h2 i hi).1
  -- the new list under the sources
  have I2 : SS C σ (upd H1 A (.lst [])) (wipeT ρ1 os) (vs ++ [.ref A] ++ sv) (τ ++ [.own []] ++ sx) := by
    obtain ⟨ow, J1⟩ := id I1
    have J2 : SS C σ (upd H1 A (.lst [])) ρ1 (vs ++ sv ++ [.ref A]) (τ ++ sx ++ [.own []]) := by
      have J1' : SI C σ H1 ρ1 (vs ++ sv ++ []) (τ ++ sx ++ []) ow := by simpa using J1
      exact J1'.newL J1.lt hD .nil
    have J3 := SS.under (vs := vs) (τ := τ) (sv := sv) (sx := sx) hsx (sv2 := []) (sx2 := []) rfl (by simpa using J2)
    have J4 : SS C σ (upd H1 A (.lst [])) ρ1 (vs ++ [.ref A] ++ sv) (τ ++ [.own []] ++ sx) := by simpa using J3
    exact J4.toW rfl hc hl
  have hτ2 : (τ ++ [T.own []]).length = (vs ++ [V.ref A]).length := by simp [hτ]
  refine ⟨fun i m H => m = its.length - i ∧ i ≤ its.length ∧ ∃ acc ρ, SS C σ H ρ (vs ++ [.ref A] ++ sv) (τ ++ [.own acc] ++ sx) ∧ wipeT ρ os = ρ ∧ dLcGo tg.d tt fe os (fun ds ρ2 => Qd (.own ds) ρ2) (its.drop i) acc ρ, ⟨_, rfl, Nat.zero_le _, [], _, I2, wipeT_idem _ _, q⟩, ?_⟩
  rintro i m H3 ⟨rfl, hle, acc, ρ3, I3, hw3, q3⟩
  have hτ3 : (τ ++ [T.own acc]).length = (vs ++ [V.ref A]).length := by simp [hτ]
  have I3w : SS C (wipe σ os) H3 ρ3 (vs ++ [.ref A] ++ sv) (τ ++ [.own acc] ++ sx) := by
    have := I3.toW (σ := wipe σ os) (own := os) (wipe_idem σ os).symm hc hl
    rwa [hw3] at this
  obtain ⟨st, go⟩ := wk i (wipe σ os) H3 ρ3 (vs ++ [.ref A]) (τ ++ [.own acc]) hτ3 I3w
  by_cases hlt : i < its.length
  · have e : its[i]? = some its[i] := List.getElem?_eq_getElem hlt
    obtain ⟨g1, y⟩ := go _ e
    refine .inr ⟨g1, fun H' => ∃ acc ρ, SS C σ H' ρ (vs ++ [.ref A] ++ sv) (τ ++ [.own acc] ++ sx) ∧ wipeT ρ os = ρ ∧ dLcGo tg.d tt fe os (fun ds ρ2 => Qd (.own ds) ρ2) (its.drop (i + 1)) acc ρ, fun H' ⟨acc, ρ', I', hw', q'⟩ => ⟨_, by omega, rfl, by omega, acc, ρ', I', hw', q'⟩, fun w H4 hy => ?_⟩
    have I4 := y w H4 hy
    have nt : noAli its[i] = true ∨ noAli its[i] = false := by cases noAli its[i] <;> simp
    rw [List.drop_eq_getElem_cons hlt] at q3
    have back : ∀ {σ2 : St} {H5 : Hp} {ρ5 : List T} {acc5 : List D}, wipe σ2 os = wipe σ os → SS C σ2 H5 ρ5 (vs ++ [.ref A] ++ sv) (τ ++ [.own acc5] ++ sx) → dLcGo tg.d tt fe os (fun ds ρ2 => Qd (.own ds) ρ2) (its.drop (i + 1)) acc5 (wipeT ρ5 os) →
        ∃ acc ρ, SS C σ H5 ρ (vs ++ [.ref A] ++ sv) (τ ++ [.own acc] ++ sx) ∧ wipeT ρ os = ρ ∧ dLcGo tg.d tt fe os (fun ds ρ2 => Qd (.own ds) ρ2) (its.drop (i + 1)) acc ρ := fun {σ2 H5 ρ5 acc5} hw I5 q5 => ⟨acc5, _, I5.toW hw hc hl, wipeT_idem _ _, q5⟩
    have hgo := Tgt.sim (C := C) (tg := tg) (fun i hi => h2 i (h1 i hi)) (wipe σ os) H4 ρ3 _ _ w its[i] _ (fun σ2 H2 => ∀ (hw : wipe σ2 os = wipe σ os), derT C tt σ2 H2 fun b H3 => if b = true then derE C fe σ2 H3 fun y H4 => ∃ acc, H4 A = some (.lst acc) ∧ acc.length < sizeLine ∧
        (∃ acc2 ρ, SS C σ (upd H4 A (.lst (acc ++ [y]))) ρ (vs ++ [.ref A] ++ sv) (τ ++ [.own acc2] ++ sx) ∧ wipeT ρ os = ρ ∧ dLcGo tg.d tt fe os (fun ds ρ2 => Qd (.own ds) ρ2) (its.drop (i + 1)) acc2 ρ) else
        (∃ acc ρ, SS C σ H3 ρ (vs ++ [.ref A] ++ sv) (τ ++ [.own acc] ++ sx) ∧ wipeT ρ os = ρ ∧ dLcGo tg.d tt fe os (fun ds ρ2 => Qd (.own ds) ρ2) (its.drop (i + 1)) acc ρ)) I4 (tgd_na q3) q3 fun σ5 H5 ρ5 I5 q5 hw => ⟨ρ5, _, _, _, I5, q5, fun b H6 ρ6 I6 q6 => ?_⟩
    · have hon := Tgt.only (K := C.K) (own := os) h1 hgo
      exact tgt_mono hon fun σ' H' ⟨hq, hw⟩ => ⟨by rw [hw, wipe_idem], hq (by rw [hw, wipe_idem])⟩
    · cases b with
      | true =>
        rw [if_pos rfl]
        refine ⟨ρ6, _, _, _, I6, q6.t rfl, fun v7 H7 x7 ρ7 I7 q7 => ?_⟩
        obtain ⟨d, ed, hlen, q7⟩ := wD_some q7
        obtain ⟨zs, hz, hzl, I8⟩ := I7.grow hτ ed
        exact ⟨zs, hz, by omega, back hw I8 q7⟩
      | false =>
        rw [if_neg (by decide)]
        exact back hw I6 (q6.f rfl)
  · have e : i = its.length := by omega
    subst e
    rw [List.drop_length] at q3
    have I5 : SS C σ H3 ρ3 (vs ++ [.ref A]) (τ ++ [.own acc]) := I3.drop hτ3
    exact .inl ⟨st (Nat.le_refl _), k _ _ _ _ I5 q3⟩
end
end Ds
namespace Ds
open PySem L2
section
variable {C : Ctx}
/-- a target, in every block -/
structure TgtOk (C : Ctx) (tge : Expr) (tg : Tgt) (scope : Scope) : Prop where
  pg : ∀ (s : Shared) (H : Hp) (Cc : Addr) (cl : List (Str × Addr)) (fp : List Addr), PG (C.blk s H scope Cc cl fp).X tge (tg.g C.K)
theorem tgt_one {i : Nat} {x : Str} {pos : Pos} {scope : Scope} (hN : C.X.N.Nodup) (hi : C.X.N[i]? = some x) (hx : Loc (relabel scope C.X.env) x) (hf : (relabel scope C.X.env).names.lookup x = some .local) : TgtOk C (.Name x pos) (.one i) scope :=
  ⟨fun s H Cc cl fp => pg_name (X := (C.blk s H scope Cc cl fp).X) hN hi hx (.inr hf)⟩
inductive NmsOk (N : List Str) (scope : Scope) : List Expr → List Nat → Prop
  | nil : NmsOk N scope [] []
  | cons {i : Nat} {x : Str} {pos : Pos} {es : List Expr} {is : List Nat} : N[i]? = some x → Loc scope x → scope.names.lookup x = some .local → NmsOk N scope es is → NmsOk N scope (.Name x pos :: es) (i :: is)
theorem pgs_ns {scope : Scope} (hN : C.X.N.Nodup) : ∀ {es : List Expr} {is : List Nat}, NmsOk C.X.N (relabel scope C.X.env) es is → ∀ (s : Shared) (H : Hp) (Cc : Addr) (cl : List (Str × Addr)) (fp : List Addr), PGs (C.blk s H scope Cc cl fp).X es (gNs is)
  | _, _, .nil, _, _, _, _, _ => pgs_nil
  | _, _, .cons h1 h2 h3 r, s, H, Cc, cl, fp => pgs_cons (pg_name (X := (C.blk s H scope Cc cl fp).X) hN h1 h2 (.inr h3)) (pgs_ns hN r s H Cc cl fp)
theorem tgt_many {es : List Expr} {is : List Nat} {k : Nat} {pos : Pos} {scope : Scope} (hc : C.X.calm = true) (hN : C.X.N.Nodup) (h : NmsOk C.X.N (relabel scope C.X.env) es is) (hn : ∀ env : Env, (assignEach es env).length = is.length := by intro _; rfl) (hst : ∀ env : Env, (assignEach es env).findIdx? (·.1) = none := by intro _; rfl) : TgtOk C (.Tuple es k pos) (.many is) scope :=
  ⟨fun s H Cc cl fp => pg_or (pg_tup (X := (C.blk s H scope Cc cl fp).X) hc (pgs_ns hN h s H Cc cl fp) (hn _) (hst _)) (pg_lst (X := (C.blk s H scope Cc cl fp).X) hc (pgs_ns hN h s H Cc cl fp) (hn _) (hst _))⟩
variable {elt tge iter : Expr} {ifs : List Expr} {scope : Scope} {own : List (Str × Nat)} {pos : Pos} {fi : DI} {tt : DTt} {fe : DE} {tg : Tgt}
theorem pe_der {s : Shared} {H : Hp} {Cc : Addr} {cl : List (Str × Addr)} {fp : List Addr} {e : Expr} {f : DE} (h : DPE (C.blk s H scope Cc cl fp) e f) : PE (C.blk s H scope Cc cl fp).X e (derE C f) :=
  let ⟨_, p, sm⟩ := h.ex
  ⟨fun pins s1 σ H1 Q I ⟨ρ, vs, τ, Qd, ⟨ow, J⟩, q, k⟩ => p.run pins s1 σ H1 Q I (sm σ H1 ρ vs τ Qd Q ⟨ow, J.blk⟩ q fun v H' x ρ' ⟨ow', J'⟩ q' => k v H' x ρ' ⟨ow', J'.unblk⟩ q')⟩
theorem pts_der {s : Shared} {H : Hp} {Cc : Addr} {cl : List (Str × Addr)} {fp : List Addr} {es : List Expr} {f : DTt} (h : DPTs (C.blk s H scope Cc cl fp) es f) : PTs (C.blk s H scope Cc cl fp).X es (derT C f) :=
  let ⟨_, p, sm⟩ := h.ex
  ⟨fun pins s1 σ H1 Q I ⟨ρ, vs, τ, Qd, ⟨ow, J⟩, q, k⟩ => p.run pins s1 σ H1 Q I (sm σ H1 ρ vs τ Qd Q ⟨ow, J.blk⟩ q fun v H' ρ' ⟨ow', J'⟩ q' => k v H' ρ' ⟨ow', J'.unblk⟩ q')⟩
theorem de_lc (hc : C.X.calm = true) (hN : C.X.N.Nodup) (hi : DPI C tge iter fi) (ok : BlkOk C.X.N C.X.env.scope scope own) (hg : TgtOk C tge tg scope)
    (ht : ∀ (s : Shared) (H : Hp) (Cc : Addr) (cl : List (Str × Addr)) (fp : List Addr), DPTs (C.blk s H scope Cc cl fp) ifs tt) (he : ∀ (s : Shared) (H : Hp) (Cc : Addr) (cl : List (Str × Addr)) (fp : List Addr), DPE (C.blk s H scope Cc cl fp) elt fe)
    (h1 : ∀ i ∈ tg.sl, i ∈ own.map (·.2)) (h2 : ∀ i ∈ own.map (·.2), i ∉ C.lent ∧ i ∈ C.cv) (hs : ∀ x, foldedSetIterable iter C.X.env x = pure x := by intro _; rfl) :
    DPE C (.ListComp elt [⟨tge, iter, ifs, 0⟩] scope pos) (dLc fi tg.d tt fe (own.map (·.2))) :=
  let ⟨_, p, s⟩ := hi.ex
  ⟨_, pe_lc hc hN p ok (fun s H Cc cl fp => hg.pg s H Cc cl fp) (fun s H Cc cl fp => pts_der (ht s H Cc cl fp)) (fun s H Cc cl fp => pe_der (he s H Cc cl fp)) hs, sim_lc s h1 h2⟩
end
end Ds
namespace Ds
open PySem L2
section
variable {C : Ctx} {σ : St} {H : Hp} {ρ : List T} {vs xs : List V} {τ ts : List T} {i : Nat} {ds : List D}
theorem DIsL.getD' {K : PySem.W.Frag} {B : Addr → Prop} {H : Hp} {ds : List D} {vs : List V} {i : Nat} {d : D} (h : DIsL K B H ds vs) (e : ds[i]? = some d) : ∃ v, vs[i]? = some v ∧ DIs K B H d v := h.get e
theorem SS.mut (I : SS C σ H ρ (vs ++ xs) (τ ++ ts)) (hτ : τ.length = vs.length) (ei : ρ[i]? = some (.own ds)) :
    ∃ l zs, σ[i]? = some (some (.ref l)) ∧ H l = some (.lst zs) ∧ zs.length = ds.length ∧ ∀ ds' zs' es ys, (∀ B', DIsL C.K B' H ds zs → (∀ (j : Nat) (x : T) (v : V) (d : D), ts[j]? = some x → xs[j]? = some v → frz x = some d → DIs C.K B' H d v) → DIsL C.K B' H ds' zs' ∧ DIsL C.K B' H es ys) →
      SS C σ (upd H l (.lst zs')) (ρ.set i (.own ds')) (vs ++ ys) (τ ++ es.map .dat) := by
  obtain ⟨ow, I⟩ := I
  have hlt := I.lt
  simp at hlt
  have hts : ts.length = xs.length := by omega
  have hi : i < ρ.length := (List.getElem?_eq_some_iff.mp ei).1
  let m := ρ.length + τ.length
  rcases I.slot ei with z | ⟨v, hv, r⟩
  · cases z
  · have own_inv : ∃ l zs, v = .ref l ∧ H l = some (.lst zs) ∧ DIsL C.K (Bar C ow) H ds zs ∧ ow i = [l] := by
      obtain ⟨a, zs, ea, e, q, eo⟩ := r.own_inv
      exact ⟨a, zs, ea, e, q, eo⟩
    obtain ⟨l, zs, rfl, hz, dz, on⟩ := own_inv
    refine ⟨l, zs, hv, hz, dz.length.symm, fun ds' zs' es ys nw => ?_⟩
    have lb : ∀ k, k ≠ i → l ∉ ow k := fun k hk q => I.dj i k l (Ne.symm hk) (by rw [on]; simp) q
    let ow' : Nat → List Addr := fun k => if k = i then [l] else if m ≤ k then [] else ow k
    have owi : ow' i = [l] := if_pos rfl
    have barN : ∀ b, Bar C ow' b → b = l ∨ (∃ k, k ≠ i ∧ k < m ∧ b ∈ ow k) ∨ C.B0 b := fun b z => by
      rcases z with ⟨k, z⟩ | z
      · have z : b ∈ (if k = i then [l] else if m ≤ k then [] else ow k) := z
        split at z
        · exact .inl (by simpa using z)
        · split at z
          · simp at z
          · exact .inr (.inl ⟨k, by assumption, by omega, z⟩)
      · exact .inr (.inr z)
    have lN : Bar C ow' l := .inl ⟨i, by rw [owi]; simp⟩
    have him : i < m := by simp [m]; omega
    -- the elements, at the new barrier, in the old heap
    have old : ∀ b o, H b = some o → ¬ Bar C ow b → ¬ Bar C ow' b := fun b o e n z => by
      rcases barN b z with rfl | ⟨k, _, _, h3⟩ | h
      · exact n (.inl ⟨i, by rw [on]; simp⟩)
      · exact n (.inl ⟨k, h3⟩)
      · exact n (.inr h)
    have q1 : DIsL C.K (Bar C ow') H ds zs := dz.move fun b o e n => ⟨e, old b o e n⟩
    have q2 : ∀ (j : Nat) (x : T) (v : V) (d : D), ts[j]? = some x → xs[j]? = some v → frz x = some d → DIs C.K (Bar C ow') H d v := fun j x v d e1 e2 e3 => by
      have et : (τ ++ ts)[τ.length + j]? = some x := by rw [List.getElem?_append_right (by omega)]; simpa using e1
      obtain ⟨v', hv', r'⟩ := I.temp et
      rw [List.getElem?_append_right (by omega), show τ.length + j - vs.length = j by omega, e2] at hv'
      cases hv'
      refine r'.frz I.tupOk old (fun a ha z => ?_) e3
      rcases barN a z with rfl | ⟨k, h1, h2, h3⟩ | h
      · exact lb _ (by omega) ha
      · exact I.dj k (ρ.length + (τ.length + j)) a (by omega) h3 ha
      · exact I.nb0 ha h
    obtain ⟨n1, n2⟩ := nw _ q1 q2
    have mv : ∀ b o, H b = some o → ¬ Bar C ow' b → upd H l (.lst zs') b = some o ∧ ¬ Bar C ow' b := fun b o e nb => ⟨(by rw [upd_ne (fun z => nb (by rw [z]; exact lN))]; exact e), nb⟩
    have hey : es.length = ys.length := n2.length
    refine ⟨ow', I.next (S := fun k => k = i ∨ m ≤ k) (by rw [List.length_set]; exact I.ln) (by simp [hτ, hey]) (noAliL_set I.na rfl) (fun k hk => ?_) (fun k u hk e => ?_) (List.length_set ..) (fun b o e hb => ?_) (fun b z => ?_)
      (fun k a hk h => ?_) (fun m1 m2 k u hk e => ?_) (fun k hk => ?_) (fun j k a hj hk hjk h => ?_) (fun k a hk h => ?_) (fun i hi => rfl)⟩
    · show (if k = i then [l] else if m ≤ k then [] else ow k) = ow k
      rw [if_neg (fun z => hk (.inl z)), if_neg (fun z => hk (.inr z))]
    · have h1 : k ≠ i := fun z => hk (.inl z)
      have h2 : k < m := by by_cases z : k < m; exact z; exact absurd (.inr (by omega)) hk
      refine ⟨?_, ?_, .inl rfl⟩
      · by_cases z : k < ρ.length
        · rw [List.getElem?_append_left (by simpa using z), List.getElem?_set_ne (Ne.symm h1)] at e
          rw [List.getElem?_append_left z]; exact e
        · rw [List.getElem?_append_right (by simp; omega), List.length_set, List.getElem?_append_left (by simp [m] at h2; omega)] at e
          rw [List.getElem?_append_right (by omega), List.getElem?_append_left (by simp [m] at h2; omega)]; exact e
      · have z : k < (σ ++ List.map some vs).length := by simp [← I.ln, ← hτ]; omega
        rw [List.map_append, List.map_append, ← List.append_assoc, ← List.append_assoc, List.getElem?_append_left z, List.getElem?_append_left z]
    · have : b ≠ l := fun z => hb i (.inl rfl) (by rw [on, z]; simp)
      rw [upd_ne this]; exact e
    · by_cases q : b = l
      · subst q; rw [upd_same]; simp
      · rw [upd_ne q]; exact z
    · have h : a ∈ (if k = i then [l] else if m ≤ k then [] else ow k) := h
      split at h
      · simp at h; subst h; exact .inl ⟨i, .inl rfl, by rw [on]; simp⟩
      · split at h
        · simp at h
        · exact absurd hk (fun z => z.elim (by assumption) (by assumption))
    · refine .inr ?_
      rcases hk with rfl | hk
      · rw [List.getElem?_append_left (by simpa using hi), List.getElem?_set_self hi] at e
        cases e
        refine ⟨.ref l, ?_, ?_⟩
        · rw [List.getElem?_append_left (by rw [← I.ln]; exact hi)]; exact hv
        · rw [owi]
          exact .own upd_same (n1.move mv)
      · have e2 : (List.map T.dat es)[k - m]? = some u := by
          rw [List.getElem?_append_right (by simp; omega), List.length_set, List.getElem?_append_right (by omega)] at e
          rw [show k - m = k - ρ.length - τ.length by omega]; exact e
        rw [List.getElem?_map, Option.map_eq_some_iff] at e2
        obtain ⟨d, ed, rfl⟩ := e2
        obtain ⟨w, hw, rw1⟩ := n2.get ed
        have oe : ow' k = [] := by
          show (if k = i then [l] else if m ≤ k then [] else ow k) = []
          rw [if_neg (by omega), if_pos hk]
        refine ⟨w, ?_, ?_⟩
        · rw [List.map_append, ← List.append_assoc, List.getElem?_append_right (by simp [← I.ln, ← hτ]; omega)]
          simp only [List.length_append, List.length_map, ← I.ln, ← hτ]
          rw [List.getElem?_map, show k - (ρ.length + τ.length) = k - m from rfl, hw]
          rfl
        · rw [oe]
          exact .dat (rw1.move mv)
    · show (if k = i then [l] else if m ≤ k then [] else ow k).Nodup
      split
      · simp
      · split
        · exact List.nodup_nil
        · exact I.nd k
    · have h : a ∈ (if j = i then [l] else if m ≤ j then [] else ow j) := h
      show a ∉ (if k = i then [l] else if m ≤ k then [] else ow k)
      split at h
      · simp at h; subst h
        rw [if_neg (by omega)]
        split
        · simp
        · exact lb k (by omega)
      · split at h
        · simp at h
        · exact absurd hj (fun z => z.elim (by assumption) (by assumption))
    · have h : a ∈ (if k = i then [l] else if m ≤ k then [] else ow k) := h
      split at h
      · simp at h; subst h; exact ⟨_, upd_same, trivial⟩
      · split at h
        · simp at h
        · exact absurd hk (fun z => z.elim (by assumption) (by assumption))
end

/-! ### methods of a list that a local holds -/
abbrev DLm := List T → List D → List T → (List D → D → Prop) → Prop
def dLm (i : Nat) (g : DLm) (fs : DA) : DE := fun ρ Q => match ρ[i]? with
  | some (.own _) => fs ρ fun ts ρ1 => match ρ1[i]? with
    | some (.own ds) => g ρ1 ds ts fun ds' r => Q (.dat r) (ρ1.set i (.own ds'))
    | _ => False
  | _ => False
structure LmIn (C : Ctx) (H : Hp) (ρ : List T) (xs : List V) (ts : List T) (ds : List D) (l : Addr) (zs : List V) : Prop where
  tl : ts.length = xs.length
  at_ : H l = some (.lst zs)
  zl : zs.length = ds.length
  lk : ∀ (j : Nat) (x : T) (d : D), ts[j]? = some x → Ds.lk ρ x = some d → ∃ v, xs[j]? = some v ∧ DIs C.K N0 H d v
  is : DIsL C.K N0 H ds zs
def LmNw (C : Ctx) (H : Hp) (xs : List V) (ts : List T) (ds : List D) (zs : List V) (ds' : List D) (e : D) (zs' : List V) (y : V) : Prop :=
  ∀ B', DIsL C.K B' H ds zs → (∀ (j : Nat) (x : T) (v : V) (d : D), ts[j]? = some x → xs[j]? = some v → frz x = some d → DIs C.K B' H d v) → DIsL C.K B' H ds' zs' ∧ DIs C.K B' H e y
def SimLm (C : Ctx) (r : V → List V → Hp → VK → Prop) (g : DLm) : Prop := ∀ (H : Hp) (ρ : List T) (xs : List V) (ts : List T) (ds : List D) (l : Addr) (zs : List V) (Qd : List D → D → Prop) (Q : VK), LmIn C H ρ xs ts ds l zs → g ρ ds ts Qd →
  (∀ (ds' : List D) (e : D) (zs' : List V) (y : V), LmNw C H xs ts ds zs ds' e zs' y → Qd ds' e → Q y (upd H l (.lst zs'))) → r (.ref l) xs H Q
section
variable {C : Ctx} {σ : St} {H : Hp} {ρ : List T} {vs xs : List V} {τ ts : List T} {i : Nat} {ds : List D}
theorem slot_own {ρ : List T} {i : Nat} {P : List D → Prop} (h : match ρ[i]? with | some (.own ds) => P ds | _ => False) : ∃ ds, ρ[i]? = some (.own ds) ∧ P ds := by
  split at h
  · exact ⟨_, by assumption, h⟩
  · exact h.elim
theorem lm_core {r : V → List V → Hp → VK → Prop} {g : DLm} {Q : VK} {Qd : List D → D → Prop} (hg : SimLm C r g) (I1 : SS C σ H ρ (vs ++ xs) (τ ++ ts)) (hl : ts.length = xs.length) (e1 : ρ[i]? = some (.own ds)) {l : Addr} (hv : σ[i]? = some (some (.ref l))) (q2 : g ρ ds ts Qd)
    (k : ∀ ds' e y H', SS C σ H' (ρ.set i (.own ds')) (vs ++ [y]) (τ ++ [.dat e]) → Qd ds' e → Q y H') : r (.ref l) xs H Q := by
  have hτ := I1.lenA hl
  obtain ⟨l', zs', hv', hz', hlen, mk⟩ := I1.mut hτ e1
  rw [hv] at hv'
  cases hv'
  obtain ⟨ow, J⟩ := id I1
  have isz : DIsL C.K N0 H ds zs' := by
    rcases J.slot e1 with z | ⟨v, hv2, r⟩
    · cases z
    · rw [hv] at hv2
      cases hv2
      obtain ⟨a, zs, ea, e, q, eo⟩ := r.own_inv
      cases ea
      rw [hz'] at e
      cases e
      exact q.free
  refine hg H ρ xs ts ds l zs' _ _ ⟨hl, hz', hlen, fun j x d ej ed => ?_, isz⟩ q2 fun ds' e zs2 y nw q3 => ?_
  · exact I1.lkA hτ ej ed
  · have := mk ds' zs2 [e] [y] fun B' a b => ⟨(nw B' a b).1, .cons (nw B' a b).2 .nil⟩
    exact k _ _ _ _ (by simpa using this) q3
theorem sim_lm {r : V → List V → Hp → VK → Prop} {g : DLm} {fs : DA} {t : TA} (hg : SimLm C r g) (ha : SimA C t fs) : Sim C (tBM C.K "list" r (tVar i) t) (dLm i g fs) := fun σ H ρ vs τ Qd Q I q k => by
  obtain ⟨ds0, e0, q⟩ := slot_own q
  obtain ⟨l, zs, hv, hz, _, _⟩ := SS.mut (xs := []) (ts := []) (by simpa using I) I.ltE e0
  refine ⟨.ref l, hv, .inl ⟨rfl, zs, .inl (.inl hz)⟩, ha σ H ρ vs τ _ _ I q fun xs H1 ts ρ1 I1 hl q1 => ?_⟩
  obtain ⟨ds, e1, q2⟩ := slot_own q1
  exact lm_core hg I1 hl e1 hv q2 fun ds' e y H' I' q' => k _ _ _ _ I' q'
theorem sim_lm0 {r : V → List V → Hp → VK → Prop} {g : DLm} (hg : SimLm C r g) : Sim C (tBM0 C.K "list" r (tVar i)) (dLm i g dNil) := fun σ H ρ vs τ Qd Q I q k => by
  obtain ⟨ds0, e0, q⟩ := slot_own q
  obtain ⟨l, zs, hv, hz, _, _⟩ := SS.mut (xs := []) (ts := []) (by simpa using I) I.ltE e0
  obtain ⟨ds, e1, q2⟩ := slot_own q
  refine ⟨.ref l, hv, .inl ⟨rfl, zs, .inl (.inl hz)⟩, ?_⟩
  exact lm_core (xs := []) (ts := []) hg (by simpa using I) rfl e1 hv q2 fun ds' e y H' I' q' => k _ _ _ _ I' q'
def lmAppend : DLm := fun _ ds ts k => match ts with
  | [x] => wD (frz x) fun d => ds.length < sizeLine ∧ k (ds ++ [d]) .none
  | _ => False
theorem sl_append : SimLm C rAppend lmAppend := fun H ρ xs ts ds l zs Qd Q I q k => by
  unfold lmAppend at q
  split at q
  · rename_i x
    obtain ⟨v, rfl⟩ := len1 I.tl
    obtain ⟨d, ed, hz, q⟩ := wD_some q
    exact ⟨l, zs, v, rfl, rfl, I.at_, by rw [I.zl]; exact hz, k _ _ _ _ (fun B' a b => ⟨a.append (.cons (b 0 x v d rfl rfl ed) .nil), .none⟩) q⟩
  · exact q.elim
def lmExtend : DLm := fun _ ds ts k => match ts with
  | [x] => wD (frz x) fun d => match d with
    | .list es => ds.length + es.length ≤ sizeLine ∧ k (ds ++ es) .none
    | _ => False
  | _ => False
mutual
theorem frz_lk {ρ : List T} : ∀ {t : T} {d : D}, frz t = some d → lk ρ t = some d
  | .dat _, _, e => e
  | .bor d', d, e => by
    unfold frz at e
    cases z : safe d' with
    | false => rw [z] at e; simp at e
    | true => rw [z] at e; exact e
  | .own _, _, e => e
  | .lst ts, d, e => by
    simp only [frz, Option.map_eq_some_iff] at e
    obtain ⟨ds, e1, rfl⟩ := e
    simp only [lk, frzL_lk e1, Option.map_some]
  | .tup ts, d, e => by
    simp only [frz, Option.map_eq_some_iff] at e
    obtain ⟨ds, e1, rfl⟩ := e
    simp only [lk, frzL_lk e1, Option.map_some]
  | .dct _, _, e => e
  | .lbo _, _, e => by simp [frz] at e
  | .scr _, _, e => by simp [frz] at e
  | .exc _, _, e => by simp [frz] at e
  | .ins _ _ _, _, e => by simp [frz] at e
  | .ali _, _, e => by simp [frz] at e
  | .emp, _, e => by simp [frz] at e
theorem frzL_lk {ρ : List T} : ∀ {ts : List T} {ds : List D}, frzL ts = some ds → lkL ρ ts = some ds
  | [], _, e => e
  | t :: ts, _, e => by
    simp only [frzL, Option.bind_eq_some_iff, Option.map_eq_some_iff] at e
    obtain ⟨d, e1, ds, e2, rfl⟩ := e
    simp only [lkL, frz_lk e1, frzL_lk e2, Option.bind_some, Option.map_some]
end
theorem sl_extend : SimLm C rExtend lmExtend := fun H ρ xs ts ds l zs Qd Q I q k => by
  unfold lmExtend at q
  split at q
  · rename_i x
    obtain ⟨v, rfl⟩ := len1 I.tl
    obtain ⟨d, ed, q⟩ := wD_some q
    cases d <;> first | exact q.elim | skip
    rename_i es
    obtain ⟨hz, q⟩ := q
    obtain ⟨w, ew, r⟩ := I.lk 0 x _ rfl (frz_lk ed)
    cases ew
    cases r with
    | @list a ws _ ha nb t =>
      refine ⟨l, a, zs, ws, rfl, rfl, I.at_, ha, by rw [I.zl, ← t.length]; exact hz, k _ _ _ _ (fun B' a1 b => ⟨a1.append ?_, .none⟩) q⟩
      have r2 := b 0 x _ _ rfl rfl ed
      cases r2 with
      | list ha2 nb2 t2 => rw [ha] at ha2; cases ha2; exact t2
  · exact q.elim
def lmPop : DLm := fun _ ds ts k => match ts with
  | [] => wD ds.getLast? fun d => k ds.dropLast d
  | _ => False
theorem sl_pop : SimLm C rPop lmPop := fun H ρ xs ts ds l zs Qd Q I q k => by
  unfold lmPop at q
  split at q
  · have : xs = [] := List.length_eq_zero_iff.mp I.tl.symm
    subst this
    obtain ⟨d, ed, q⟩ := wD_some q
    rw [List.getLast?_eq_getElem?] at ed
    obtain ⟨v, ev, _⟩ := I.is.get ed
    refine ⟨l, zs, v, rfl, rfl, I.at_, by rw [I.zl]; exact ev, k _ _ _ _ (fun B' a b => ⟨a.dropLast, ?_⟩) q⟩
    obtain ⟨v', ev', r⟩ := a.get ed
    rw [ev] at ev'
    cases ev'
    exact r
  · exact q.elim
def lmPopAt : DLm := fun ρ ds ts k => match ts with
  | [x] => wI (lk ρ x) fun i => -(2 ^ 63) ≤ i ∧ i < 2 ^ 63 ∧ wO (seqIndex? i ds.length) fun n => wD ds[n]? fun d => k (ds.eraseIdx n) d
  | _ => False
theorem sl_popAt : SimLm C rPopAt lmPopAt := fun H ρ xs ts ds l zs Qd Q I q k => by
  unfold lmPopAt at q
  split at q
  · rename_i x
    obtain ⟨v, rfl⟩ := len1 I.tl
    obtain ⟨i, ei, h1, h2, q⟩ := wI_some q
    obtain ⟨n, en, q⟩ := wO_some q
    obtain ⟨d, ed, q⟩ := wD_some q
    obtain ⟨w, ew, r⟩ := I.lk 0 x _ rfl ei
    cases ew
    rw [r.int_eq]
    obtain ⟨v, ev, _⟩ := I.is.get ed
    refine ⟨l, zs, i, n, v, rfl, rfl, I.at_, h1, h2, by rw [I.zl]; exact en, ev, k _ _ _ _ (fun B' a b => ⟨a.eraseIdx n, ?_⟩) q⟩
    obtain ⟨v', ev', r⟩ := a.get ed
    rw [ev] at ev'
    cases ev'
    exact r
  · exact q.elim
def lmReverse : DLm := fun _ ds ts k => match ts with
  | [] => k ds.reverse .none
  | _ => False
theorem sl_reverse : SimLm C rReverse lmReverse := fun H ρ xs ts ds l zs Qd Q I q k => by
  unfold lmReverse at q
  split at q
  · have : xs = [] := List.length_eq_zero_iff.mp I.tl.symm
    subst this
    exact ⟨l, zs, rfl, rfl, I.at_, k _ _ _ _ (fun B' a b => ⟨a.reverse, .none⟩) q⟩
  · exact q.elim
def lmInsert : DLm := fun ρ ds ts k => match ts with
  | [x, y] => wI (lk ρ x) fun i => wD (frz y) fun d => ds.length < sizeLine ∧ 0 ≤ i ∧ i < 2 ^ 63 ∧ k (ds.take i.toNat ++ [d] ++ ds.drop i.toNat) .none
  | _ => False
theorem sl_insert : SimLm C (fun x vs H Q => ∃ (l : Addr) (xs : List V) (i : Int) (y : V), x = .ref l ∧ vs = [.int i, y] ∧ H l = some (.lst xs) ∧ xs.length < sizeLine ∧ 0 ≤ i ∧ i < 2 ^ 63 ∧
    Q .non (upd H l (.lst (xs.take i.toNat ++ [y] ++ xs.drop i.toNat)))) lmInsert := fun H ρ xs ts ds l zs Qd Q I q k => by
  unfold lmInsert at q
  split at q
  · rename_i x y
    obtain ⟨v, w, rfl⟩ := len2 I.tl
    obtain ⟨i, ei, q⟩ := wI_some q
    obtain ⟨d, ed, h1, h2, h3, q⟩ := wD_some q
    obtain ⟨u, eu, r⟩ := I.lk 0 x _ rfl ei
    cases eu
    rw [r.int_eq]
    exact ⟨l, zs, i, w, rfl, rfl, I.at_, by rw [I.zl]; exact h1, h2, h3, k _ _ _ _ (fun B' a b => ⟨((a.take _).append (.cons (b 1 y w d rfl rfl ed) .nil)).append (a.drop _), .none⟩) q⟩
  · exact q.elim
variable {e : Expr} {es : List Expr} {x name : Str} {p apos cpos : Pos} {fs : DA} {id : String} {r : V → List V → Hp → VK → Prop} {g : DLm}
theorem de_lm (i : Nat) (slot : PySem.Slot "list" name id) (hty : typeOf (.builtin id) = pure (.type "method_descriptor")) (hm : MtR C.X id r) (hg : SimLm C r g) (hN : C.X.N[i]? = some x) (hv : Vis C.X.env.scope x) (ha : DPA C (e :: es) fs)
    (hd : (x == ("__debug__" : Str)) = false := by decide) (hcd : (x == ("__classdict__" : Str)) = false := by decide)
    (hbase : attributeBase (.Name x p) name C.X.env (eval (.Name x p) C.X.env) = eval (.Name x p) C.X.env := by rfl)
    (hfew : ((backTo cpos (starEach (e :: es) C.X.env)).all (fun x => !x.1) && (backToKw cpos (keywordEach [] C.X.env)).all (fun x => x.1.isSome)
      && decide ((e :: es).length + ([] : List Keyword).length + (if ([] : List Keyword).isEmpty then 0 else 1) < 30)) = true := by rfl)
    (hline : (apos.endLine == cpos.line) = true := by rfl) (hs : starEach (e :: es) C.X.env = (false, eval e C.X.env) :: starEach es C.X.env := by rfl) (hplain : (backTo cpos (starEach es C.X.env)).any (·.1) = false := by rfl) :
    DPE C (.Call (.Attribute (.Name x p) name apos) (e :: es) [] cpos) (dLm i g fs) :=
  let ⟨_, pa, sa⟩ := ha.ex
  ⟨_, pe_bm PySem.F.plainAttrs_list slot hty hm (pe_var hN hv hd hcd) pa hbase hfew hline hs hplain, sim_lm hg sa⟩
theorem de_lm0 (i : Nat) (slot : PySem.Slot "list" name id) (hty : typeOf (.builtin id) = pure (.type "method_descriptor")) (hm : MtR C.X id r) (hg : SimLm C r g) (hN : C.X.N[i]? = some x) (hv : Vis C.X.env.scope x)
    (hd : (x == ("__debug__" : Str)) = false := by decide) (hcd : (x == ("__classdict__" : Str)) = false := by decide)
    (hbase : attributeBase (.Name x p) name C.X.env (eval (.Name x p) C.X.env) = eval (.Name x p) C.X.env := by rfl)
    (hline : (apos.endLine == cpos.line) = true := by rfl) :
    DPE C (.Call (.Attribute (.Name x p) name apos) [] [] cpos) (dLm i g dNil) :=
  ⟨_, pe_bm0 PySem.F.plainAttrs_list slot hty hm (pe_var hN hv hd hcd) hbase hline, sim_lm0 hg⟩
end
end Ds
namespace Ds
open PySem L2
def dSetIx (i : Nat) (fi : DE) : DG := fun t ρ Q => wD (frz t) fun d => match ρ[i]? with
  | some (.own _) => fi ρ fun x ρ1 => match ρ1[i]? with
    | some (.own ds) => wI (lk ρ1 x) fun n => wO (ixN ds.length n) fun j => Q (ρ1.set i (.own (ds.set j d)))
    | _ => False
  | _ => False
def dAugIx (i : Nat) (op : Int → Int → Int) (fi fe : DE) : DS := fun D ρ => match ρ[i]? with
  | some (.own _) => fi ρ fun x ρ1 => match ρ1[i]? with
    | some (.own ds) => wI (lk ρ1 x) fun n => wI (gI ds n) fun m => fe ρ1 fun y ρ2 => wI (lk ρ2 y) fun k => match ρ2[i]? with
      | some (.own ds2) => wO (ixN ds2.length n) fun j => D.nx (ρ2.set i (.own (ds2.set j (.int (op m k)))))
      | _ => False
    | _ => False
  | _ => False
theorem get_list {X : Cx} : PGet X (rIxL X.K) := by
  intro pins s σ H x y v u Q I rx ry h
  obtain ⟨p, xs, i, z, rfl, rfl, hq, he, q⟩ := h
  cases rx
  obtain ⟨t, rfl⟩ := ry
  obtain ⟨its, r, pl, hz⟩ := I.list hq
  obtain ⟨j, h1, h2, h3, h4, h5⟩ := atI_get he
  obtain ⟨w, ew, rw'⟩ := r.get h2
  have hl := r.length
  have hn := line63
  have fin : EP X pins σ Q w s := ⟨z, H, I, rw', q⟩
  by_cases h0 : 0 ≤ i
  · have hj : i.toNat = j := by
      rw [seqIndex_of h0 h5] at h1
      exact Option.some.inj h1
    exact wpAny_getItem_list pl.isList h0 (by omega) (by rw [hj]; simpa using ew) fin
  · have hj : (i + (its.toArray.size : Int)).toNat = j := by
      rw [seqIndex_neg (by omega) h4] at h1
      rw [List.size_toArray, ← hl]
      exact Option.some.inj h1
    exact wpAny_getItem_list_neg pl.isList (by omega) (by rw [List.size_toArray] <;> omega) (by omega) (by rw [hj]; simpa using ew) fin
section
variable {C : Ctx} {i : Nat} {x : Str} {e ei : Expr} {fe fi : DE} {p pos tpos : Pos}
theorem dg_setIx (i : Nat) (hN : C.X.N[i]? = some x) (hv : Vis C.X.env.scope x) (hi : DPE C ei fi) (hd : (x == ("__debug__" : Str)) = false := by decide) (hcd : (x == ("__classdict__" : Str)) = false := by decide)
    (ha : ∀ v, assign (.Subscript (.Name x p) ei pos) C.X.env v = (do
      let ov ← holding [v] (eval (.Name x p) C.X.env)
      let iv ← holding [v, ov] (eval ei C.X.env)
      standAt pos
      holding [v, ov, iv] (setItem ov iv v)
      release [v, ov, iv] []) := by intro _; rfl) : DPG C (.Subscript (.Name x p) ei pos) (dSetIx i fi) :=
  let ⟨_, pi, si⟩ := hi.ex
  ⟨_, pg_sub (pe_var hN hv hd hcd) pi set_list ha, fun σ H ρ vs τ v t Qd Q I na q k => by
    obtain ⟨d, ed, q⟩ := wD_some q
    obtain ⟨ds0, e0, q⟩ := slot_own q
    obtain ⟨l, zs, hv, hz, _, _⟩ := SS.mut (xs := []) (ts := []) (by simpa using I) I.ltE e0
    refine ⟨.ref l, hv, si σ H ρ _ _ _ _ I q fun w H1 y ρ1 I1 q1 => ?_⟩
    obtain ⟨ds, e1, q2⟩ := slot_own q1
    obtain ⟨n, en, q3⟩ := wI_some q2
    obtain ⟨j, ej, q4⟩ := wO_some q3
    have wv := (I1.lk1 en).int_eq
    subst wv
    have I2 : SS C σ H1 ρ1 (vs ++ [v, .int n]) (τ ++ [t, y]) := by simpa using I1
    obtain ⟨l', zs', hv', hz', hlen, mk⟩ := I2.mut (I2.lenA rfl) e1
    rw [hv] at hv'
    cases hv'
    refine ⟨l, zs', n, j, rfl, rfl, hz', by rw [hlen]; exact ej, ?_⟩
    have I3 := mk (ds.set j d) (zs'.set j v) [] [] fun B' a b => ⟨a.set j (b 0 t v d rfl rfl ed), .nil⟩
    exact k _ _ _ (by simpa using I3) q4⟩
theorem ds_augIx (i : Nat) {op : Operator} {g : Int → Int → Int} (hp : PIp C.X op (ipI g)) (hN : C.X.N[i]? = some x) (hv : Vis C.X.env.scope x) (hi : DPE C ei fi) (he : DPE C e fe) (hd : (x == ("__debug__" : Str)) = false := by decide) (hcd : (x == ("__classdict__" : Str)) = false := by decide)
    (ha : ∀ ov iv new, augStore ei ov iv new = (do holding [new, ov, iv] (setItem ov iv new); release [new, ov, iv] []; pure Flow.next) := by intros; rfl) : DPS C (.AugAssign (.Subscript (.Name x p) ei tpos) op e pos) (dAugIx i g fi fe) :=
  let ⟨_, pi, si⟩ := hi.ex; let ⟨_, pe, se⟩ := he.ex
  ⟨_, ps_augS (pe_var hN hv hd hcd) pi get_list pe hp set_list ha, fun σ H ρ vs τ Dd D I na q k => by
    obtain ⟨ds0, e0, q⟩ := slot_own q
    obtain ⟨l, zs, hv, hz, _, _⟩ := SS.mut (xs := []) (ts := []) (by simpa using I) I.ltE e0
    refine ⟨.ref l, hv, si σ H ρ _ _ _ _ I q fun w H1 y ρ1 I1 q1 => ?_⟩
    obtain ⟨ds, e1, q2⟩ := slot_own q1
    obtain ⟨n, en, q3⟩ := wI_some q2
    obtain ⟨m, em, q4⟩ := wI_some q3
    rw [gI_at] at em
    have wv := (I1.lk1 en).int_eq
    subst wv
    obtain ⟨l', zs', hv', hz', hlen, _⟩ := SS.mut (xs := [V.int n]) (ts := [y]) I1 I.ltE e1
    rw [hv] at hv'
    cases hv'
    have isz : DIsL C.K N0 H1 ds zs' := by
      obtain ⟨ow, J⟩ := I1
      rcases J.slot e1 with z | ⟨v, hv2, r⟩
      · cases z
      · rw [hv] at hv2
        cases hv2
        obtain ⟨a, zs, ea, e, q, eo⟩ := r.own_inv
        cases ea
        rw [hz'] at e
        cases e
        exact q.free
    obtain ⟨v, ev, rv⟩ := atI_getD isz em
    refine ⟨l, zs', n, v, rfl, rfl, .inl (.inl hz'), ev, ?_⟩
    refine se σ H1 ρ1 _ _ _ _ I1 q4 fun w2 H2 y2 ρ2 I2 q5 => ?_
    obtain ⟨kk, ek, q6⟩ := wI_some q5
    obtain ⟨ds2, e2, q7⟩ := slot_own q6
    obtain ⟨j, ej, q8⟩ := wO_some q7
    have wv2 := (I2.lk1 ek).int_eq
    subst wv2
    have I3 : SS C σ H2 ρ2 (vs ++ [.int n, .int kk]) (τ ++ [y, y2]) := by simpa using I2
    obtain ⟨l2, zs2, hv2, hz2, hlen2, mk⟩ := I3.mut (I3.lenA rfl) e2
    rw [hv] at hv2
    cases hv2
    refine ⟨m, kk, rv.int_eq, rfl, l, zs2, n, j, rfl, rfl, hz2, by rw [hlen2]; exact ej, ?_⟩
    have I4 := mk (ds2.set j (.int (g m kk))) (zs2.set j (.int (g m kk))) [] [] fun B' a b => ⟨a.set j (.int _), .nil⟩
    exact k.nx _ _ _ (by simpa using I4) q8⟩
end
end Ds
namespace Ds
open PySem L2
/-! ### isinstance -/
def tyD : D → String
  | .none => "NoneType"
  | .bool _ => "bool"
  | .int _ => "int"
  | .str _ => "str"
  | .list _ => "list"
  | .tuple _ => "tuple"
  | .dict _ => "dict"
/-- is a value of type u one of T -/
def isT (u : String) : String → Bool
  | "int" => u == "int" || u == "bool"
  | T => u == T
theorem tyD_mem (d : D) : tyD d ∈ ["NoneType", "bool", "int", "str", "list", "tuple", "dict"] := by cases d <;> simp [tyD]
theorem kitB_all : ∀ T ∈ ["bool", "int", "str", "list", "tuple", "dict"], ∀ u ∈ ["NoneType", "bool", "int", "str", "list", "tuple", "dict"], kitB u T = some (isT u T) := by decide +kernel
theorem kit_is {T : String} (hT : T ∈ ["bool", "int", "str", "list", "tuple", "dict"]) (d : D) {K : PySem.W.Frag} : PySem.W.kitOne K (.type (tyD d)) (.type T) = some (isT (tyD d) T) := kit_ty (kitB_all T hT _ (tyD_mem d))
theorem DIs.tyx {K : PySem.W.Frag} {B : Addr → Prop} {H : Hp} {d : D} {v : V} (h : DIs K B H d v) : TyX K H v (.type (tyD d)) := by
  cases h with
  | none => exact .base .non
  | bool b => exact .base (.bl b)
  | int i => exact .base (.int i)
  | str x => exact .base (.str x)
  | list e _ _ => exact .base (.lst e)
  | tuple e _ =>
    rcases e with ⟨e | ⟨o, e⟩, _⟩ | ⟨o, its, n, e, c, _⟩
    · exact .base (.tup e)
    · exact .fTuple e
    · exact .kTuple e c
  | dict e _ _ _ => exact .base (.dK e)
def dIsi (Ts : List String) (fe : DE) : DE := fun ρ Q => fe ρ fun x ρ1 => wD (lk ρ1 x) fun d => Q (.dat (.bool (Ts.any fun T => isT (tyD d) T))) ρ1
section
variable {C : Ctx} {e : Expr} {fe : DE} {p p1 p2 pos tpos : Pos} {x y z : Str} {T U : String}
theorem de_isi (hg : Gl C.X "isinstance") (hm : C.X.mg "isinstance" = none) (he : DPE C e fe) (hgT : Gl C.X x) (hmT : C.X.mg x = none) (hT : T ∈ ["bool", "int", "str", "list", "tuple", "dict"]) (hv : bootBuiltins x = some (.type T)) (hn : x ≠ "__name__" := by decide) (hd : (x == ("__debug__" : Str)) = false := by decide)
    (hs : starEach [e, .Name x p1] C.X.env = (false, eval e C.X.env) :: starEach [.Name x p1] C.X.env := by rfl) (hs2 : starEach [.Name x p1] C.X.env = (false, eval (.Name x p1) C.X.env) :: starEach [] C.X.env := by rfl) (hpl : (backTo pos (starEach [.Name x p1] C.X.env)).any (·.1) = false := by rfl) :
    DPE C (.Call (.Name "isinstance" p) [e, .Name x p1] [] pos) (dIsi [T] fe) :=
  let ⟨_, pe, se⟩ := he.ex
  ⟨_, pe_callB call_isi hg hm PyProof.Rows.boot_isinstance (pa_cons pe (pa_cons (pe_bltn hgT hmT hv (v := .ty T) rfl hn hd) pa_nil hs2) hs) (by decide) (by decide) hs hpl, fun σ H ρ vs τ Qd Q I h k => se σ H ρ vs τ _ _ I h fun v H1 t ρ1 I1 q => by
    obtain ⟨d, ed, q⟩ := wD_some q
    refine ⟨v, .ty T, _, _, isT (tyD d) T, rfl, .ty T, (I1.lk1 ed).tyx, kit_is hT d, ?_⟩
    exact k _ _ _ _ (I1.pop.bool _) (by simpa using q)⟩
theorem de_isi2 {kk : Nat} (hg : Gl C.X "isinstance") (hm : C.X.mg "isinstance" = none) (he : DPE C e fe) (hgT : Gl C.X x) (hmT : C.X.mg x = none) (hT : T ∈ ["bool", "int", "str", "list", "tuple", "dict"]) (hv : bootBuiltins x = some (.type T))
    (hgU : Gl C.X y) (hmU : C.X.mg y = none) (hU : U ∈ ["bool", "int", "str", "list", "tuple", "dict"]) (hvU : bootBuiltins y = some (.type U))
    (hn : x ≠ "__name__" := by decide) (hd : (x == ("__debug__" : Str)) = false := by decide) (hn2 : y ≠ "__name__" := by decide) (hd2 : (y == ("__debug__" : Str)) = false := by decide)
    (hsx : starEach [.Name x p1, .Name y p2] C.X.env = (false, eval (.Name x p1) C.X.env) :: starEach [.Name y p2] C.X.env := by rfl) (hsy : starEach [.Name y p2] C.X.env = (false, eval (.Name y p2) C.X.env) :: starEach [] C.X.env := by rfl)
    (hs : starEach [e, .Tuple [.Name x p1, .Name y p2] kk tpos] C.X.env = (false, eval e C.X.env) :: starEach [.Tuple [.Name x p1, .Name y p2] kk tpos] C.X.env := by rfl)
    (hs2 : starEach [.Tuple [.Name x p1, .Name y p2] kk tpos] C.X.env = (false, eval (.Tuple [.Name x p1, .Name y p2] kk tpos) C.X.env) :: starEach [] C.X.env := by rfl)
    (hpl : (backTo pos (starEach [.Tuple [.Name x p1, .Name y p2] kk tpos] C.X.env)).any (·.1) = false := by rfl) :
    DPE C (.Call (.Name "isinstance" p) [e, .Tuple [.Name x p1, .Name y p2] kk tpos] [] pos) (dIsi [T, U] fe) :=
  let ⟨_, pe, se⟩ := he.ex
  ⟨_, pe_callB call_isiT hg hm PyProof.Rows.boot_isinstance (pa_cons pe (pa_cons (pe_tup (pa_cons (pe_bltn hgT hmT hv (v := .ty T) rfl hn hd) (pa_cons (pe_bltn hgU hmU hvU (v := .ty U) rfl hn2 hd2) pa_nil hsy) hsx)) pa_nil hs2) hs) (by decide) (by decide) hs hpl, fun σ H ρ vs τ Qd Q I h k => se σ H ρ vs τ _ _ I h fun v H1 t ρ1 I1 q => by
    obtain ⟨d, ed, q⟩ := wD_some q
    refine ⟨by show 2 ≤ sizeLine; decide, fun tp htp => ?_⟩
    have ty := (I1.lk1 ed).tyx
    have ty2 : TyX C.K (upd H1 tp (.tup [.ty T, .ty U])) v (.type (tyD d)) := by
      have r := (I1.lk1 ed).move (H' := upd H1 tp (.tup [.ty T, .ty U])) (B' := N0) fun b o e _ => ⟨same_upd htp b o e, id⟩
      exact r.tyx
    refine ⟨v, tp, [.ty T, .ty U], _, [.type T, .type U], isT (tyD d) T || isT (tyD d) U, rfl, upd_same, .cons (.ty T) (.cons (.ty U) .nil), ty2, ?_, ?_⟩
    · refine kitAny_cons (kit_is hT d) (fun h1 => kitAny_cons (kit_is hU d) (fun h2 => by rw [h1, h2]; exact kitAny_nil) (fun h2 => by rw [h1, h2]; rfl)) (fun h1 => by rw [h1]; rfl)
    · exact k _ _ _ _ (I1.pop.push (v := .bl _) (t := .dat (.bool _)) [] (same_upd htp) (fun _ _ _ _ _ _ _ => .dat (.bool _)) List.nodup_nil (fun _ z => by simp at z) fun _ z => by simp at z) (by simpa using q)⟩
end
/-! ### tuple(x), list(x) -/
def dTupOf : DOn := fun ρ ts Q => match ts with
  | [x] => match dr ρ x with
    | .scr ns => Q (.dat (.tuple (ns.map .int))) ρ
    | .dat (.tuple ds) => Q (.dat (.tuple ds)) ρ
    | .bor (.tuple ds) => Q (.bor (.tuple ds)) ρ
    | .bor (.list ds) => Q (.bor (.tuple ds)) ρ
    | t => wL t fun ds => Q (.dat (.tuple ds)) ρ
  | _ => False
def dLstOf : DOn := fun ρ ts Q => match ts with
  | [x] => match dr ρ x with
    | .scr ns => Q (.own (ns.map .int)) ρ
    | .dat (.tuple ds) => Q (.own ds) ρ
    | .bor (.tuple ds) => match safeL ds with
      | true => Q (.own ds) ρ
      | false => Q (.lbo ds) ρ
    | .bor (.list ds) => match safeL ds with
      | true => Q (.own ds) ρ
      | false => Q (.lbo ds) ρ
    | t => wL t fun ds => Q (.own ds) ρ
  | _ => False
section
variable {C : Ctx} {e : Expr} {fs : DA} {p pos : Pos}
theorem sim_tupOf : SimC C (fun xs H Q => ∃ p ys, xs = [.ref p] ∧ ((SqL C.K H p ys ∧ ∀ l, H l = none → Q (.ref l) (upd H l (.tup ys))) ∨ (SqT C.K H p ys ∧ Q (.ref p) H))) dTupOf := by
  intro σ H ρ vs τ xs ts Qd Q I hl hτ q k
  unfold dTupOf at q
  split at q
  · rename_i x
    obtain ⟨v, rfl⟩ := len1 hl
    obtain ⟨ow, J⟩ := id I
    rcases J.dr1 with z | ⟨os, r⟩
    · rw [z] at q; exact q.elim
    · generalize Ds.dr ρ x = t at q r
      have J' : SI C σ H ρ (vs ++ [v]) (τ ++ [x]) ow := J
      have gen : Ds.wL t (fun ds => Qd (.dat (.tuple ds)) ρ) → ∃ p ys, [v] = [.ref p] ∧ ((SqL C.K H p ys ∧ ∀ l, H l = none → Q (.ref l) (upd H l (.tup ys))) ∨ (SqT C.K H p ys ∧ Q (.ref p) H)) := fun q => by
        obtain ⟨l, zs, ds, rfl, e, t, q⟩ := J.wL r q
        exact ⟨l, zs, rfl, .inl ⟨.of e, fun p hp => k _ _ _ _ (J.newT hτ hp t) q⟩⟩
      cases r with
      | scr e => exact ⟨_, _, rfl, .inl ⟨e.sq, fun p hp => k _ _ _ _ (J.newT hτ hp ints_is) q⟩⟩
      | dat d =>
        cases d with
        | tuple e t => exact ⟨_, _, rfl, .inr ⟨e.sq, k _ _ _ _ (J.oneD hτ (.tuple e t)) q⟩⟩
        | list e n t => exact gen q
        | _ => exact q.elim
      | bor d =>
        cases d with
        | tuple e t => exact ⟨_, _, rfl, .inr ⟨e.sq, k _ _ _ _ (J.oneB hτ (.tuple e t)) q⟩⟩
        | list e n t => exact ⟨_, _, rfl, .inl ⟨.of e, fun p hp => k _ _ _ _ (J.newTB hτ hp t) q⟩⟩
        | _ => exact q.elim
      | own e t => exact gen q
      | lbo e t => exact gen q
      | lst e t => exact gen q
      | _ => exact q.elim
  · exact q.elim
theorem sim_lstOf : SimC C (fun xs H Q => ∃ p ys, xs = [.ref p] ∧ (SqL C.K H p ys ∨ SqT C.K H p ys) ∧ ∀ l, H l = none → Q (.ref l) (upd H l (.lst ys))) dLstOf := by
  intro σ H ρ vs τ xs ts Qd Q I hl hτ q k
  unfold dLstOf at q
  split at q
  · rename_i x
    obtain ⟨v, rfl⟩ := len1 hl
    obtain ⟨ow, J⟩ := id I
    rcases J.dr1 with z | ⟨os, r⟩
    · rw [z] at q; exact q.elim
    · generalize Ds.dr ρ x = t at q r
      have gen : Ds.wL t (fun ds => Qd (.own ds) ρ) → ∃ p ys, [v] = [.ref p] ∧ (SqL C.K H p ys ∨ SqT C.K H p ys) ∧ ∀ l, H l = none → Q (.ref l) (upd H l (.lst ys)) := fun q => by
        obtain ⟨l, zs, ds, rfl, e, t, q⟩ := J.wL r q
        exact ⟨l, zs, rfl, .inl (.of e), fun p hp => k _ _ _ _ (J.newL hτ hp t) q⟩
      cases r with
      | scr e => exact ⟨_, _, rfl, .inl e.sq, fun p hp => k _ _ _ _ (J.newL hτ hp ints_is) q⟩
      | dat d =>
        cases d with
        | tuple e t => exact ⟨_, _, rfl, .inr e.sq, fun p hp => k _ _ _ _ (J.newL hτ hp t) q⟩
        | list e n t => exact gen q
        | _ => exact q.elim
      | bor d =>
        cases d with
        | @tuple a zs ds e t =>
          refine ⟨_, _, rfl, .inr e.sq, fun p hp => ?_⟩
          have q : (match safeL ds with | true => Qd (.own ds) ρ | false => Qd (.lbo ds) ρ) := q
          cases z : safeL ds with
          | true => rw [z] at q; exact k _ _ _ _ (J.newL hτ hp (J.safeL t z)) q
          | false => rw [z] at q; exact k _ _ _ _ (J.newLB hτ hp t) q
        | @list a zs ds e n t =>
          refine ⟨_, _, rfl, .inl (.of e), fun p hp => ?_⟩
          have q : (match safeL ds with | true => Qd (.own ds) ρ | false => Qd (.lbo ds) ρ) := q
          cases z : safeL ds with
          | true => rw [z] at q; exact k _ _ _ _ (J.newL hτ hp (J.safeL t z)) q
          | false => rw [z] at q; exact k _ _ _ _ (J.newLB hτ hp t) q
        | _ => exact q.elim
      | own e t => exact gen q
      | lbo e t => exact gen q
      | lst e t => exact gen q
      | _ => exact q.elim
  · exact q.elim
theorem de_tupOf (hg : Gl C.X "tuple") (hm : C.X.mg "tuple" = none) (ha : DPA C [e] fs) (he : starEach [e] C.X.env = [(false, eval e C.X.env)] := by rfl) : DPE C (.Call (.Name "tuple" p) [e] [] pos) (dCB dTupOf fs) :=
  de_callTy call_tuple_of sim_tupOf hg hm PyProof.Rows.boot_tuple ha (by decide) (by decide) he
theorem de_lstOf (hg : Gl C.X "list") (hm : C.X.mg "list" = none) (ha : DPA C [e] fs) (he : starEach [e] C.X.env = [(false, eval e C.X.env)] := by rfl) : DPE C (.Call (.Name "list" p) [e] [] pos) (dCB dLstOf fs) :=
  de_callTy call_list_of sim_lstOf hg hm PyProof.Rows.boot_list ha (by decide) (by decide) he
end
end Ds
namespace Ds
open PySem L2
variable {X : Cx} {pins : List (Addr × Obj)} {σ : St} {H : Hp} {s : Shared} {B : Addr → Prop}
/-- a value's text, from the heap at hand -/
def Tells (P : Program) (w : World) (h : Heap) (u : Value) (d : D) : Prop := ∃ as, Reads h u d as ∧ (d.showable = true → d.shown.length ≤ sizeLine → ∃ bs, ReadAtMost h d.depth bs ∧ ReprK P w bs h d.depth u d.shown)
def TellsL (P : Program) (w : World) (h : Heap) (us : List Value) (ds : List D) : Prop := ∃ as, ReadsAll h us ds as ∧ (PyData.showableAll ds = true → (∀ t ∈ PyData.shownAll ds, t.length ≤ sizeLine) → ∃ bs, ReadAtMost h (PyData.depthAll ds) bs ∧ ReprAllK P w bs h (PyData.depthAll ds) us (PyData.shownAll ds))
section
variable {P : Program} {w : World} {h : Heap} {u : Value} {us : List Value} {d : D} {ds : List D}
theorem tells_leaf {as : List Addr} (r : Reads h u d as) (q : d.showable = true → d.shown.length ≤ sizeLine → ReprIs P w u d.shown) : Tells P w h u d :=
  ⟨as, r, fun a b => ⟨[], (fun _ z => nomatch z), .of_is (q a b) _ _ _⟩⟩
theorem tells_nil : TellsL P w h [] [] := ⟨[], .nil, fun _ _ => ⟨[], (fun _ z => nomatch z), by simp only [PyData.shownAll]; exact .nil⟩⟩
theorem tells_cons (a : Tells P w h u d) (b : TellsL P w h us ds) : TellsL P w h (u :: us) (d :: ds) := by
  obtain ⟨as1, r1, q1⟩ := a
  obtain ⟨as2, r2, q2⟩ := b
  refine ⟨as1 ++ as2, .cons r1 r2, fun sh len => ?_⟩
  rw [PyData.showableAll, Bool.and_eq_true] at sh
  rw [PyData.shownAll] at len
  obtain ⟨b1, m1, k1⟩ := q1 sh.1 (len _ (List.mem_cons_self ..))
  obtain ⟨b2, m2, k2⟩ := q2 sh.2 fun t ht => len t (List.mem_cons_of_mem _ ht)
  rw [PyData.depthAll, PyData.shownAll]
  have l1 : d.depth ≤ max d.depth (PyData.depthAll ds) := Nat.le_max_left ..
  have l2 : PyData.depthAll ds ≤ max d.depth (PyData.depthAll ds) := Nat.le_max_right ..
  exact ⟨b1 ++ b2, (m1.mono l1).append (m2.mono l2), .cons ((k1.more fun _ z => List.mem_append_left _ z).level_le l1) (k2.more_le (fun _ z => List.mem_append_right _ z) l2)⟩
theorem listText0 {ds : List D} (h : PyData.shownAll ds = []) : listText (PyData.shownAll ds) = "[]" := by rw [h]; exact listText_nil
structure LstAt (h : Heap) (a : Addr) (us : List Value) : Prop where
  ex : ∃ o n, h.get? a = some o ∧ o.cls = .type "list" ∧ o.data = .seq us.toArray n
theorem tells_list {a : Addr} (at_ : LstAt h a us) (q : TellsL P w h us ds) : Tells P w h (.ref a) (.list ds) := by
  obtain ⟨o, n, e1, e2, e3⟩ := at_.ex
  obtain ⟨as, rd, q⟩ := q
  have r : Reads h (.ref a) (.list ds) (a :: as) := .list e1 e2 e3 rd
  refine ⟨_, r, fun sh len => ?_⟩
  rw [PyData.showable] at sh
  rw [PyData.shown] at len
  obtain ⟨bs, m, k⟩ := q sh fun t ht => Nat.le_trans (listText_mem_le ht) len
  have lt : PyData.depthAll ds < (PyData.list ds).depth := by rw [PyData.depth]; omega
  refine ⟨a :: bs, ReadAtMost.cons r (Nat.le_of_lt lt) m, ?_⟩
  rw [PyData.depth, PyData.shown]
  match us, k with
  | [], k =>
    cases rd
    rw [listText0 rfl]
    exact .listEmpty e1 e2 e3
  | u :: us, k => exact .list e1 e2 e3 (not_mem_of_deeper r lt m) (by simpa using k.length_eq) fun i y e => k.item i y (by simpa using e)
theorem tells_tuple {a : Addr} {o : Obj} {n : Nat} (e1 : h.get? a = some o) (e2 : o.cls = .type "tuple") (e3 : o.data = .seq us.toArray n) (q : TellsL P w h us ds) : Tells P w h (.ref a) (.tuple ds) := by
  obtain ⟨as, rd, q⟩ := q
  have r : Reads h (.ref a) (.tuple ds) as := .tuple e1 e2 e3 rd
  refine ⟨_, r, fun sh len => ?_⟩
  rw [PyData.showable] at sh
  rw [PyData.shown] at len
  obtain ⟨bs, m, k⟩ := q sh fun t ht => Nat.le_trans (tupleText_mem_le ht) len
  have lt : PyData.depthAll ds < (PyData.tuple ds).depth := by rw [PyData.depth]; omega
  refine ⟨a :: bs, ReadAtMost.cons r (Nat.le_of_lt lt) m, ?_⟩
  rw [PyData.depth, PyData.shown]
  exact .tuple e1 e2 e3 (not_mem_of_deeper r lt m) k
/-- a dict's two sides -/
structure DctAt (P : Program) (w : World) (h : Heap) (a : Addr) (kvs : List (D × D)) : Prop where
  ex : ∃ o es n, h.get? a = some o ∧ o.cls = .type "dict" ∧ o.data = .dict es n ∧ (a == sysModules) = false ∧ TellsL P w h (es.toList.map (·.key)) (kvs.map (·.1)) ∧ TellsL P w h (es.toList.map (·.val)) (kvs.map (·.2))
theorem dct_parts {a : Addr} {kvs : List (D × D)} (c : DctAt P w h a kvs) : ∃ (o : Obj) (es : Array DictEntry) (n : Nat) (as : List Addr), h.get? a = some o ∧ o.cls = .type "dict" ∧ o.data = .dict es n ∧ (a == sysModules) = false ∧ Reads h (.ref a) (.dict kvs) as ∧
    ((PyData.dict kvs).showable = true → (PyData.dict kvs).shown.length ≤ sizeLine → ∃ bs, ReadAtMost h (PyData.depthKv kvs) bs ∧ a ∉ bs ∧ ReprEntriesK P w bs h (PyData.depthKv kvs) es.toList (PyData.shownKv kvs)) := by
  obtain ⟨o, es, n, e1, e2, e3, e4, ⟨as1, r1, q1⟩, ⟨as2, r2, q2⟩⟩ := c.ex
  have r : Reads h (.ref a) (.dict kvs) (a :: as1 ++ as2) := .dict e1 e2 e3 r1 r2
  refine ⟨o, es, n, _, e1, e2, e3, e4, r, fun sh len => ?_⟩
  rw [PyData.showable] at sh
  rw [PyData.shown] at len
  obtain ⟨s1, s2⟩ := PyData.showableKv_split kvs sh
  obtain ⟨b1, m1, k1⟩ := q1 s1 fun t ht => by
    obtain ⟨p, hp, hl⟩ := PyData.shownKv_key_le kvs t ht
    exact Nat.le_trans hl (Nat.le_trans (dictText_mem_le hp) len)
  obtain ⟨b2, m2, k2⟩ := q2 s2 fun t ht => by
    obtain ⟨p, hp, hl⟩ := PyData.shownKv_val_le kvs t ht
    exact Nat.le_trans hl (Nat.le_trans (dictText_mem_le hp) len)
  have m := (m1.mono (PyData.depthAll_keys_le kvs)).append (m2.mono (PyData.depthAll_vals_le kvs))
  have lt : PyData.depthKv kvs < (PyData.dict kvs).depth := by rw [PyData.depth]; omega
  refine ⟨b1 ++ b2, m, not_mem_of_deeper r lt m, ?_⟩
  rw [PyData.shownKv_eq]
  exact ReprEntriesK.of_two es.toList _ _ (k1.more_le (fun _ z => List.mem_append_left _ z) (PyData.depthAll_keys_le kvs)) (k2.more_le (fun _ z => List.mem_append_right _ z) (PyData.depthAll_vals_le kvs))
theorem tells_dict {a : Addr} {kvs : List (D × D)} (c : DctAt P w h a kvs) : Tells P w h (.ref a) (.dict kvs) := by
  obtain ⟨o, es, n, as, e1, e2, e3, e4, r, q⟩ := dct_parts c
  refine ⟨as, r, fun sh len => ?_⟩
  obtain ⟨bs, m, na, k⟩ := q sh len
  have lt : PyData.depthKv kvs < (PyData.dict kvs).depth := by rw [PyData.depth]; omega
  refine ⟨a :: bs, ReadAtMost.cons r (Nat.le_of_lt lt) m, ?_⟩
  rw [PyData.depth, PyData.shown]
  exact .dict e1 e2 e3 e4 na k
end
theorem key_tell {P : Program} {w : World} {h : Heap} {k : Key} {u : Value} (hk : keyIs k u = true) : Tells P w h u (kD k) := by
  rcases keyIs_shape hk with ⟨i, t, rfl, rfl⟩ | ⟨x, t, rfl, rfl⟩
  · exact tells_leaf (.int i t) fun sh _ => ReprIs.int t (by simp only [kD, PyData.showable] at sh; exact of_decide_eq_true sh)
  · exact tells_leaf (.str x t) fun _ len => ReprIs.str x t (by simp only [kD, PyData.shown] at len; exact len)
theorem keys_tell {P : Program} {w : World} {h : Heap} {es : List DictEntry} {kvs : List (Key × V)} {vs : List (Key × Value)} (a : KV kvs vs) (b : Pairs (mixKind P w) es vs) : TellsL P w h (es.map (·.key)) (kvs.map fun p => kD p.1) ∧ Vals (kvs.map (·.2)) (es.map (·.val)) := by
  induction b generalizing kvs with
  | nil => cases a; exact ⟨tells_nil, .nil⟩
  | cons hk hv rs ih =>
    cases a with
    | cons p r =>
      obtain ⟨i1, i2⟩ := ih r
      refine ⟨tells_cons ?_ i1, .cons ?_ i2⟩
      · dsimp only; rw [p.1]; exact key_tell hk
      · dsimp only; rw [hv]; exact p.2
theorem zip_fst {α β : Type} : ∀ {as : List α} {bs : List β}, as.length = bs.length → (as.zip bs).map (·.1) = as ∧ (as.zip bs).map (·.2) = bs
  | [], [], _ => ⟨rfl, rfl⟩
  | a :: as, b :: bs, h => by
    obtain ⟨h1, h2⟩ := zip_fst (as := as) (bs := bs) (by simpa using h)
    simp only [List.zip_cons_cons, List.map_cons, h1, h2, and_self]
mutual
theorem DIs.tells (I : Inv X pins σ H s) : ∀ {d : D} {v : V} {u : Value}, DIs X.K B H d v → RelV v u → Tells X.prog X.w s.heap u d
  | _, _, _, .none, r => by cases r; exact tells_leaf .none fun _ _ => ReprIs.none
  | _, _, _, .bool b, r => by cases r; exact tells_leaf (.bool b) fun _ _ => ReprIs.bool b
  | _, _, _, .int i, r => by
    obtain ⟨t, rfl⟩ := r
    exact tells_leaf (.int i t) fun sh _ => ReprIs.int t (by rw [PyData.showable] at sh; exact of_decide_eq_true sh)
  | _, _, _, .str x, r => by
    obtain ⟨t, rfl⟩ := r
    exact tells_leaf (.str x t) fun _ len => ReprIs.str x t (by rw [PyData.shown] at len; exact len)
  | _, _, _, .list e n t, r => by
    cases r
    obtain ⟨its, rv, ⟨o, m, ho, hc, _, hd⟩, _⟩ := I.list (SqL.of e)
    exact tells_list ⟨o, m, ho, hc, hd⟩ (DIsL.tells I t rv)
  | _, _, _, .tuple e t, r => by
    cases r
    obtain ⟨its, rv, ⟨o, ho, hc, m, hd⟩, _⟩ := I.tuple e.sq
    exact tells_tuple ho hc hd (DIsL.tells I t rv)
  | _, _, _, .dict (kvs := kvs) (ds := ds) e n t q, r => by
    cases r
    obtain ⟨_, sy, vs, rel, o, es, m, ho, hc, hd, _, pr, _⟩ := dk_of I.hok e
    have hl : (kvs.map fun p => kD p.1).length = ds.length := by have := t.length; simpa using this.symm
    obtain ⟨z1, z2⟩ := zip_fst hl
    refine tells_dict ⟨o, es, m, ho, hc.1, hd, sy, ?_, ?_⟩
    · rw [q, z1]; exact (keys_tell rel pr).1
    · rw [q, z2]; exact DIsL.tells I t (keys_tell (h := s.heap) rel pr).2
theorem DIsL.tells (I : Inv X pins σ H s) : ∀ {ds : List D} {vs : List V} {us : List Value}, DIsL X.K B H ds vs → Vals vs us → TellsL X.prog X.w s.heap us ds
  | _, _, _, .nil, .nil => tells_nil
  | _, _, _, .cons a b, .cons r rs => tells_cons (DIs.tells I a r) (DIsL.tells I b rs)
end
/-- repr of data -/
theorem call_reprD (hgd : X.A.guards = some []) (hu : X.A.units + 64 < cLine) : CallR X (.builtin "repr") (fun xs H Q => ∃ v d, xs = [v] ∧ DIs X.K N0 H d v ∧ d.showable = true ∧ d.shown.length ≤ sizeLine ∧ d.depth < 60 ∧ Q (.str d.shown) H) := by
  intro pins s σ H xs us Q I r h
  obtain ⟨v, d, rfl, dv, sh, len, dp, q⟩ := h
  obtain ⟨u, rfl, ru⟩ := r.one
  have fin : ∀ h' u tk, (∀ b o, s.heap.get? b = some o → h'.get? b = some o) → EP X pins σ Q (.str d.shown u) { s with heap := h', toks := tk } := fun h' t tk keep => ⟨.str d.shown, H, I.kept keep, ⟨t, rfl⟩, q⟩
  have fin0 : ∀ t tk, EP X pins σ Q (.str d.shown t) { s with toks := tk } := fun t tk => ⟨.str d.shown, H, I.tok tk, ⟨t, rfl⟩, q⟩
  have hu1 : X.A.units + 1 < cLine := by omega
  cases dv with
  | none =>
    cases ru
    rw [PyData.shown] at fin0
    exact PySem.P.repr_of_none (fin0 _ _)
  | bool b =>
    cases ru
    rw [PyData.shown] at fin0
    exact PySem.P.repr_of_bool (fin0 _ _)
  | int i =>
    obtain ⟨t, rfl⟩ := ru
    rw [PyData.shown] at fin0
    rw [PyData.showable] at sh
    exact PySem.P.repr_of_int (of_decide_eq_true sh) (fin0 _ _)
  | str x =>
    obtain ⟨t, rfl⟩ := ru
    rw [PyData.shown] at fin0 len
    exact PySem.P.repr_of_str (fin0 _ _) len
  | @list a zs ds e n t =>
    cases ru
    obtain ⟨its, rv, ⟨o, m, ho, hc, _, hd⟩, _⟩ := I.list (SqL.of e)
    obtain ⟨as, rd, q2⟩ := DIsL.tells I t rv
    rw [PyData.showable] at sh
    rw [PyData.shown] at len fin
    rw [PyData.depth] at dp
    obtain ⟨bs, m1, k⟩ := q2 sh fun t ht => Nat.le_trans (listText_mem_le ht) len
    have rr : Reads s.heap (.ref a) (.list ds) (a :: as) := .list ho hc hd rd
    have lt : PyData.depthAll ds < (PyData.list ds).depth := by rw [PyData.depth]; omega
    refine call_repr_slot hu1 ⟨o, ho, hc⟩ F.slot_list_repr.toG ?_
    match its, k with
    | [], k =>
      cases rd
      rw [listText0 rfl] at fin
      exact call_list_repr_empty ⟨o, ho, hc⟩ ho hd ⟨_, _, rfl, fin s.heap _ _ fun _ _ z => z⟩
    | u :: us, k =>
      exact call_list_reprK ho hc hd (not_mem_of_deeper rr lt m1) (by simpa using k.length_eq) (fun i y e => k.item i y (by simpa using e)) hgd (fun b _ => Clear.nil b) (by show X.A.units + 1 + (PyData.depthAll ds + 1) < cLine; omega) (fun _ _ z => z) (fun h' u tk keep => ⟨_, _, rfl, fin h' u tk keep⟩) len
  | @tuple a zs ds e t =>
    cases ru
    obtain ⟨its, rv, ⟨o, ho, hc, m, hd⟩, _⟩ := I.tuple e.sq
    obtain ⟨as, rd, q2⟩ := DIsL.tells I t rv
    rw [PyData.showable] at sh
    rw [PyData.shown] at len fin
    rw [PyData.depth] at dp
    obtain ⟨bs, m1, k⟩ := q2 sh fun t ht => Nat.le_trans (tupleText_mem_le ht) len
    have rr : Reads s.heap (.ref a) (.tuple ds) as := .tuple ho hc hd rd
    have lt : PyData.depthAll ds < (PyData.tuple ds).depth := by rw [PyData.depth]; omega
    refine call_repr_slot hu1 ⟨o, ho, hc⟩ F.slot_tuple_repr ?_
    exact call_tuple_reprK ho hc hd (not_mem_of_deeper rr lt m1) k hgd (fun b _ => Clear.nil b) (by show X.A.units + 1 + (PyData.depthAll ds + 1) < cLine; omega) (fun _ _ z => z) (fun h' u tk keep => ⟨_, _, rfl, fin h' u tk keep⟩) len
  | @dict a kvs ds ps e n t z =>
    cases ru
    obtain ⟨_, sy, vs, rel, o, es, m, ho, hc, hd, _, pr, _⟩ := dk_of I.hok e
    have hl : (kvs.map fun p => kD p.1).length = ds.length := by have := t.length; simpa using this.symm
    obtain ⟨z1, z2⟩ := zip_fst hl
    have c : DctAt X.prog X.w s.heap a ps := ⟨o, es, m, ho, hc.1, hd, sy, (by rw [z, z1]; exact (keys_tell rel pr).1), (by rw [z, z2]; exact DIsL.tells I t (keys_tell (h := s.heap) rel pr).2)⟩
    obtain ⟨o, es, m, as, ho, hc, hd, sy, rr, q2⟩ := dct_parts c
    obtain ⟨bs, m1, na, k⟩ := q2 sh len
    rw [PyData.shown] at len fin
    rw [PyData.depth] at dp
    refine call_repr_slot hu1 ⟨o, ho, hc⟩ F.slot_dict_repr ?_
    exact call_dict_reprK ho hc hd sy na k hgd (fun b _ => Clear.nil b) (by show X.A.units + 1 + (PyData.depthKv ps + 1) < cLine; omega) (fun _ _ z => z) (fun h' u tk keep => ⟨_, _, rfl, fin h' u tk keep⟩) len
/-- what may be told: its text fits -/
def dRepr : DOn := fun ρ ts Q => match ts with
  | [x] => wD (lk ρ x) fun d => d.showable = true ∧ d.shown.length ≤ sizeLine ∧ d.depth < 60 ∧ Q (.dat (.str d.shown)) ρ
  | _ => False
section
variable {C : Ctx} {p pos : Pos} {e : Expr} {fs : DA} {k : Nat}
theorem sim_repr : SimC C (fun xs H Q => ∃ v d, xs = [v] ∧ DIs C.K N0 H d v ∧ d.showable = true ∧ d.shown.length ≤ sizeLine ∧ d.depth < 60 ∧ Q (.str d.shown) H) dRepr := by
  intro σ H ρ vs τ xs ts Qd Q I hl hτ q k
  unfold dRepr at q
  split at q
  · obtain ⟨v, rfl⟩ := len1 hl
    obtain ⟨d, ed, h1, h2, h3, q⟩ := wD_some q
    exact ⟨v, d, rfl, I.lk1 ed, h1, h2, h3, k _ _ _ _ (I.pop.str _) q⟩
  · exact q.elim
theorem de_repr (hr : RoomG k C.X.A) (hg : Gl C.X "repr") (hm : C.X.mg "repr" = none) (ha : DPA C [e] fs) (he : starEach [e] C.X.env = [(false, eval e C.X.env)] := by rfl) : DPE C (.Call (.Name "repr" p) [e] [] pos) (dCB dRepr fs) :=
  de_callB (call_reprD hr.gd hr.units) sim_repr hg hm PyProof.Rows.boot_repr ha (by decide) (by decide) he
end
end Ds
namespace Ds
open PySem L2
section
variable {C : Ctx} {pos : Pos}
theorem SS.newD {σ : St} {H : Hp} {ρ : List T} {vs : List V} {τ : List T} (I : SS C σ H ρ vs τ) {p : Addr} (hp : H p = none) {kvs : List (Key × V)} {ds : List D} (h : ds.map sv = kvs.map fun q => some q.2) : SS C σ (upd H p (.dK kvs)) ρ (vs ++ [.ref p]) (τ ++ [.dct ((kvs.map (·.1)).zip ds)]) := by
  refine I.push [p] (same_upd hp) (fun ow ow' J m1 m2 nb _ => ?_) (by simp) (fun a ha => by simp at ha; rw [ha]; exact hp) (fun a ha => by simp at ha; subst ha; exact ⟨_, upd_same, trivial⟩)
  refine .dct upd_same ?_ rfl
  have go : ∀ {ds : List D} {zs : List V}, ds.map sv = zs.map some → DIsL C.K (Bar C ow') (upd H p (.dK kvs)) ds zs := by
    intro ds
    induction ds with
    | nil => intro zs e; cases zs with
      | nil => exact .nil
      | cons z zs => simp at e
    | cons d ds ih => intro zs e; cases zs with
      | nil => simp at e
      | cons z zs =>
        simp only [List.map_cons, List.cons.injEq] at e
        exact .cons (sv_is e.1) (ih e.2)
  exact go (by rw [h, List.map_map]; rfl)
def dDct (ps : List (Key × D)) : DE := fun ρ Q => Q (.dct ps) ρ
theorem de_dict0 : DPE C (.Dict [] [] pos) (dDct []) :=
  ⟨_, pe_dnewK, fun σ H ρ vs τ Qd Q I q k p hp => k _ _ _ _ (I.newD (kvs := []) (ds := []) hp rfl) q⟩
/-- an expression that is that scalar -/
theorem pe_tC {X : Cx} {e : Expr} {t : TE} {v : V} (h : PE X e t) (hv : ∀ σ H Q, Q v H → t σ H Q) : PE X e (tC v) := ⟨fun pins s σ H Q I q => h.run pins s σ H Q I (hv σ H Q q)⟩
theorem pairs_c {σ : St} {H : Hp} {Q : List (V × V) → Hp → Prop} : ∀ (kvs : List (Key × V)), Q (kvs.map fun p => (kV p.1, p.2)) H → tPairs (kvs.map fun p => (tC (kV p.1), tC p.2)) σ H Q
  | [], q => q
  | (k, v) :: r, q => pairs_c (Q := fun ps H3 => Q ((kV k, v) :: ps) H3) r q
theorem de_dictC {keys : List (Option Expr)} {values : List Expr} (kvs : List (Key × V)) (ds : List D) (h : PPs C.X pos keys values (kvs.map fun p => (tC (kV p.1), tC p.2))) (hds : ds.map sv = kvs.map fun q => some q.2) (hk : mergeK [] kvs = kvs) (hz : kvs.length ≤ 15)
    (hall : keys.all (·.isSome) = true) (hl : keys.length = values.length) (h0 : keys ≠ []) (h15 : keys.length ≤ 15) : DPE C (.Dict keys values pos) (dDct ((kvs.map (·.1)).zip ds)) :=
  ⟨_, pe_disp h hall hl h0 h15, fun σ H ρ vs τ Qd Q I q k p hp => pairs_c kvs ⟨upd_same, kvs, rfl, hz, by
    have e : upd (upd H p (.dK [])) p (.dK kvs) = upd H p (.dK kvs) := by
      funext b
      by_cases z : b = p
      · subst z; rw [upd_same, upd_same]
      · rw [upd_ne z, upd_ne z, upd_ne z]
    rw [hk, e]
    exact k _ _ _ _ (I.newD hp hds) q⟩⟩
end
section
variable {C : Ctx} {elt tge iter : Expr} {ifs : List Expr} {scope : Scope} {own : List (Str × Nat)} {pos py spos : Pos} {fi : DI} {tt : DTt} {fe : DE} {tg : Tgt} {i : Nat} {y : Str}
theorem ds_setLc (hc : C.X.calm = true) (hN : C.X.N.Nodup) (hy : C.X.N[i]? = some y) (hyl : C.X.env.scope.names.lookup y = some .local) (nl : i ∉ C.lent) (hsw : swapsWith (.ListComp elt [⟨tge, iter, ifs, 0⟩] scope pos) (some (.Name y py)) spos.line C.X.env = pure true)
    (hi : DPI C tge iter fi) (ok : BlkOk C.X.N C.X.env.scope scope own) (hg : TgtOk C tge tg scope)
    (ht : ∀ (s : Shared) (H : Hp) (Cc : Addr) (cl : List (Str × Addr)) (fp : List Addr), DPTs (C.blk s H scope Cc cl fp) ifs tt) (he : ∀ (s : Shared) (H : Hp) (Cc : Addr) (cl : List (Str × Addr)) (fp : List Addr), DPE (C.blk s H scope Cc cl fp) elt fe)
    (h1 : ∀ i ∈ tg.sl, i ∈ own.map (·.2)) (h2 : ∀ i ∈ own.map (·.2), i ∉ C.lent ∧ i ∈ C.cv) (hs : ∀ x, foldedSetIterable iter C.X.env x = pure x := by intro _; rfl) :
    DPS C (.Assign [.Name y py] (.ListComp elt [⟨tge, iter, ifs, 0⟩] scope pos) spos) (dAsg (dLc fi tg.d tt fe (own.map (·.2))) (dgName i)) :=
  let ⟨_, p, s⟩ := hi.ex
  ⟨_, ps_setLc hc hN hy hyl hsw p ok (fun s H Cc cl fp => hg.pg s H Cc cl fp) (fun s H Cc cl fp => pts_der (ht s H Cc cl fp)) (fun s H Cc cl fp => pe_der (he s H Cc cl fp)) hs, sim_asg (sim_lc s h1 h2) (by
    intro σ H ρ vs τ v t Qd Q I na q k
    obtain ⟨nt, q⟩ := na_ok q
    by_cases z : i < ρ.length
    · exact k _ _ _ (I.assign z nt (.inl na) nl) q
    · refine k _ _ ρ ?_ (by rw [getElem?_of_set z] at q; exact q)
      rw [getElem?_of_set (by rw [← I.lnN]; exact z)]
      exact I.pop)⟩
end
end Ds
namespace Ds
open PySem L2
/-- a def of the text and its promise -/
structure Has (P : Program) (w : World) (K : PySem.W.Frag) (mg : Str → Option Value) (base : Heap) (x : Str) (k : Nat) (ps : List Str) (ms : List Md) (spd : DSp) : Prop where
  ex : ∃ a fd, mg x = some (.ref a) ∧ PySem.W.keepIn K (.ref a) = true ∧ Binds K fd ps [] ∧ FnG P w K mg base k a fd ps (toSp K ps.length (lnOf ms) spd)
  mono : Mono spd
  len : ps.length = ms.length
/-- the same where the last parameters are left to their defaults -/
structure HasD (P : Program) (w : World) (K : PySem.W.Frag) (mg : Str → Option Value) (base : Heap) (x : Str) (k : Nat) (ps : List Str) (ms : List Md) (dds : List D) (spd : DSp) : Prop where
  ex : ∃ a fd dvs, mg x = some (.ref a) ∧ PySem.W.keepIn K (.ref a) = true ∧ dds.map sv = dvs.map some ∧ (∃ dsv, Vals dvs dsv ∧ Binds K fd ps dsv) ∧ FnG P w K mg base k a fd ps (toSp K ps.length (lnOf (ms ++ dds.map fun _ => .dat)) spd)
  mono : Mono spd
  len : ps.length = (ms ++ dds.map fun _ => Md.dat).length
section
variable {C : Ctx} {k j : Nat} {ps : List Str} {x : Str} {p pos : Pos} {e : Expr} {es : List Expr} {fs : DA} {ms : List Md} {dds : List D} {spd : DSp}
theorem de_fn (h : Has C.X.prog C.X.w C.X.K C.X.mg C.X.base x k ps ms spd) (hr : RoomG j C.X.A) (hk : k ≤ j) (tk : DTk C) (hg : Gl C.X x) (ha : DPA C (e :: es) fs) (hdb : (x == ("__debug__" : Str)) = false := by decide)
    (he : starEach (e :: es) C.X.env = (false, eval e C.X.env) :: starEach es C.X.env := by rfl) (hpl : (backTo pos (starEach es C.X.env)).any (·.1) = false := by rfl) : DPE C (.Call (.Name x p) (e :: es) [] pos) (dCall ms spd C.Wd fs) :=
  let ⟨_, _, h1, h2, h3, h4⟩ := h.ex
  de_call h4 (hr.mono hk) h.mono h.len hg h1 h2 h3 tk ha hdb he hpl
theorem de_fnD (h : HasD C.X.prog C.X.w C.X.K C.X.mg C.X.base x k ps ms dds spd) (hr : RoomG j C.X.A) (hk : k ≤ j) (tk : DTk C) (hg : Gl C.X x) (ha : DPA C (e :: es) fs) (hdb : (x == ("__debug__" : Str)) = false := by decide)
    (he : starEach (e :: es) C.X.env = (false, eval e C.X.env) :: starEach es C.X.env := by rfl) (hpl : (backTo pos (starEach es C.X.env)).any (·.1) = false := by rfl) : DPE C (.Call (.Name x p) (e :: es) [] pos) (dCallD dds ms spd C.Wd fs) :=
  let ⟨_, _, _, h1, h2, h3, h4, h5⟩ := h.ex
  de_callD h5 (hr.mono hk) h.mono h.len hg h1 h2 h4 h3 tk ha hdb he hpl
end
/-- a scalar of the text by name -/
structure HasC (mg : Str → Option Value) (x : Str) (v : V) : Prop where
  ex : ∃ u, mg x = some u ∧ RelV v u
theorem de_const {C : Ctx} {x : Str} {v : V} {d : D} {pos : Pos} (h : HasC C.X.mg x v) (hg : Gl C.X x) (e : sv d = some v) (hd : (x == ("__debug__" : Str)) = false := by decide) : DPE C (.Name x pos) (dC d) :=
  let ⟨_, h1, h2⟩ := h.ex
  de_glob hg h1 h2 e hd
theorem RoomG.u65 {k : Nat} {A : Around} (r : RoomG k A) : A.units + 65 < cLine := by have := r.rm.un; omega
end Ds
namespace Ds
open PySem L2
/-- not among them -/
def ninB (i : Nat) : List Nat → Bool
  | [] => true
  | j :: js => !(Nat.beq i j) && ninB i js
theorem nin_of {i : Nat} : ∀ {l : List Nat}, ninB i l = true → i ∉ l
  | [], _ => by simp
  | j :: js, h => by
    simp only [ninB, Bool.and_eq_true, Bool.not_eq_true'] at h
    simp only [List.mem_cons, not_or]
    exact ⟨fun e => by rw [e, Nat.beq_refl] at h; exact absurd h.1 (by simp), nin_of h.2⟩
def ownB (lent cv : List Nat) : List Nat → Bool
  | [] => true
  | i :: is => ninB i lent && !(ninB i cv) && ownB lent cv is
theorem in_of {i : Nat} : ∀ {l : List Nat}, ninB i l = false → i ∈ l
  | [], h => by simp [ninB] at h
  | j :: js, h => by
    simp only [ninB, Bool.and_eq_false_iff, Bool.not_eq_false'] at h
    rcases h with h | h
    · exact List.mem_cons.mpr (.inl (Nat.eq_of_beq_eq_true h))
    · exact List.mem_cons_of_mem _ (in_of h)
theorem own_of {lent cv : List Nat} : ∀ {is : List Nat}, ownB lent cv is = true → ∀ i ∈ is, i ∉ lent ∧ i ∈ cv
  | [], _ => by simp
  | j :: js, h => by
    simp only [ownB, Bool.and_eq_true, Bool.not_eq_true'] at h
    intro i hi
    rcases List.mem_cons.mp hi with rfl | hi
    · exact ⟨nin_of h.1.1, in_of h.1.2⟩
    · exact own_of h.2 i hi
/-- a block's facts, by reckoning -/
def blkB (N : List Str) (sc scope : Scope) (own : List (Str × Nat)) : Bool :=
  (match scope.kind with | .function => true | _ => false) &&
  (scope.names.all fun y => decide (scope.names.lookup y.1 = some y.2)) &&
  (own.all fun p => decide (N[p.2]? = some p.1)) &&
  (scope.names.all fun y => match y.2 with
    | .free => decide (sc.names.lookup y.1 = some .cell) || decide (sc.names.lookup y.1 = some .free)
    | .local => (own.map (·.1)).contains y.1 || !(N.contains y.1)
    | .cell => (own.map (·.1)).contains y.1 || !(N.contains y.1)
    | _ => true)
theorem blk_of {N : List Str} {sc scope : Scope} {own : List (Str × Nat)} (h : blkB N sc scope own = true) : BlkOk N sc scope own := by
  simp only [blkB, Bool.and_eq_true, List.all_eq_true, decide_eq_true_eq] at h
  obtain ⟨⟨⟨h1, h2⟩, h3⟩, h4⟩ := h
  refine ⟨?_, h2, h3, fun y hy e => ?_, fun y hy e => ?_⟩
  · cases e : scope.kind <;> rw [e] at h1 <;> first | rfl | cases h1
  · have := h4 y hy
    rw [e] at this
    simpa using this
  · have := h4 y hy
    rcases e with e | e <;> rw [e] at this <;> simpa using this
/-- nothing is let out -/
abbrev noW : Exn → List T → Prop := fun _ _ => False
structure DCmp (C : Ctx) (op : CmpOp) (b : Expr) (f : DO2) : Prop where
  ex : ∃ r, OpR C.X (compareOp op) r ∧ SimR2 C r f ∧ behindInMarks op b = false
section
variable {C : Ctx} {a b c : Expr} {fa fb fc : DE} {f : DO2} {op op' : CmpOp} {pos : Pos}
theorem dc_lt : DCmp C .Lt b dLt := ⟨_, op_lt, sim_fII fun H i j Qd Q q k => ⟨i, j, rfl, rfl, k _ _ rfl q⟩, nobehind _ (by decide) (by decide)⟩
theorem dc_le : DCmp C .LtE b dLe := ⟨_, op_le, sim_fII fun H i j Qd Q q k => ⟨i, j, rfl, rfl, k _ _ rfl q⟩, nobehind _ (by decide) (by decide)⟩
theorem dc_gt : DCmp C .Gt b dGt := ⟨_, op_gt, sim_fII fun H i j Qd Q q k => ⟨i, j, rfl, rfl, k _ _ rfl q⟩, nobehind _ (by decide) (by decide)⟩
theorem dc_ge : DCmp C .GtE b dGe := ⟨_, op_ge, sim_fII fun H i j Qd Q q k => ⟨i, j, rfl, rfl, k _ _ rfl q⟩, nobehind _ (by decide) (by decide)⟩
theorem dc_eq (hu : C.X.A.units + 64 < cLine) : DCmp C .Eq b dEq := ⟨_, (sim_eqD hu).1, (sim_eqD hu).2, nobehind _ (by decide) (by decide)⟩
theorem dc_ne (hu : C.X.A.units + 64 < cLine) : DCmp C .NotEq b dNe := ⟨_, (sim_neD hu).1, (sim_neD hu).2, nobehind _ (by decide) (by decide)⟩
theorem dc_in (hu : C.X.A.units + 65 < cLine) (hm : behindInMarks .In b = false) : DCmp C .In b dIn :=
  ⟨_, op_inD hu, sim_pu2 fun H d e u v Qd Q du ev q k => by
    cases e <;> first | exact q.elim | skip
    exact ⟨d, _, du.dpS q.1, ev.dpS q.2.1, q.1, q.2.1, k _ _ rfl q.2.2⟩, hm⟩
theorem dc_notIn (hu : C.X.A.units + 65 < cLine) (hm : behindInMarks .NotIn b = false) : DCmp C .NotIn b dNotIn :=
  ⟨_, op_notInD hu, sim_pu2 fun H d e u v Qd Q du ev q k => by
    cases e <;> first | exact q.elim | skip
    exact ⟨d, _, du.dpS q.1, ev.dpS q.2.1, q.1, q.2.1, k _ _ rfl q.2.2⟩, hm⟩
theorem dc_isN : DCmp C .Is b dIsN := ⟨_, op_isN, sim_pu2 fun H d e u v Qd Q du ev q k => by
    cases e <;> first | exact q.elim | skip
    refine ⟨ev.none_eq, ?_⟩
    rw [isN_eq du]
    exact k _ _ rfl q, nobehind _ (by decide) (by decide)⟩
theorem dc_isNotN : DCmp C .IsNot b dIsNotN := ⟨_, op_notN, sim_pu2 fun H d e u v Qd Q du ev q k => by
    cases e <;> first | exact q.elim | skip
    refine ⟨ev.none_eq, ?_⟩
    rw [isN_eq du]
    exact k _ _ rfl q, nobehind _ (by decide) (by decide)⟩
theorem dc_isB : DCmp C .Is b dIsB := ⟨_, op_isBl, sim_pu2 fun H d e u v Qd Q du ev q k => by
    cases d <;> cases e <;> first | exact q.elim | skip
    exact ⟨_, _, du.bool_eq, ev.bool_eq, k _ _ rfl q⟩, nobehind _ (by decide) (by decide)⟩
theorem dc_isNotB : DCmp C .IsNot b dIsNotB := ⟨_, op_notBl, sim_pu2 fun H d e u v Qd Q du ev q k => by
    cases d <;> cases e <;> first | exact q.elim | skip
    exact ⟨_, _, du.bool_eq, ev.bool_eq, k _ _ rfl q⟩, nobehind _ (by decide) (by decide)⟩
theorem de_cmpD (h : DCmp C op b f) (ha : DPE C a fa) (hb : DPE C b fb) : DPE C (.Compare a [op] [b] pos) (dOp f fa fb) :=
  let ⟨_, h1, h2, h3⟩ := h.ex
  de_cmp h1 h2 ha hb h3
/-- a value that tells -/
theorem sim_test {t : TE} {g : DE} (s : Sim C t g) : SimT C (tTest t) (tVal g) := fun σ H ρ vs τ Qd Q I q k => s σ H ρ vs τ _ _ I q fun v H1 x ρ1 I1 q1 => by
  obtain ⟨b, e, q1⟩ := wB_some q1
  exact ⟨b, (I1.lk1 e).bool_eq, k _ _ _ I1.pop q1⟩
theorem dt_cmpD (h : DCmp C op b f) (ha : DPE C a fa) (hb : DPE C b fb) : DPT C (.Compare a [op] [b] pos) (tVal (dOp f fa fb)) :=
  let ⟨_, h1, h2, h3⟩ := h.ex
  let ⟨_, pa, sa⟩ := ha.ex; let ⟨_, pb, sb⟩ := hb.ex
  ⟨_, pt_cmpR h1 pa pb h3, sim_test (sim_op h2 sa sb)⟩
/-- c ? t : u as a test -/
def dIfT (t : DTt) (u v : DTt) : DTt := fun ρ Q => t ρ fun b ρ1 => br b (u ρ1 Q) (v ρ1 Q)
end
end Ds
namespace Ds
open PySem L2
def dPar (fs : DA) (gs : DGs) : DS := fun D ρ => fs ρ fun ts ρ1 => match noAliL ts with
  | true => gs ts ρ1 D.nx
  | false => False
section
variable {C : Ctx} {a b c : Expr} {fs : DA} {pos px py pz pt pt2 : Pos} {x y z : Str} {kt k2 : Nat}
theorem sim_name {i : Nat} {x : Str} (hN : C.X.N.Nodup) (hi : C.X.N[i]? = some x) (nl : i ∉ C.lent) : SimG C (gName i) (dgName i) := fun σ H ρ vs τ v t Qd Q I na q k => by
  obtain ⟨nt, q⟩ := na_ok q
  by_cases z : i < ρ.length
  · exact k _ _ _ (I.assign z nt (.inl na) nl) q
  · refine k _ _ ρ ?_ (by rw [getElem?_of_set z] at q; exact q)
    rw [getElem?_of_set (by rw [← I.lnN]; exact z)]
    exact I.pop
theorem simGs_nil : SimGs C gNil dgNil := fun σ H ρ vs τ xs ts Qd Q I hl na nt q k => by
  unfold dgNil at q
  split at q
  · have : xs = [] := List.length_eq_zero_iff.mp hl.symm
    subst this
    exact ⟨rfl, k _ _ _ (by simpa using I) q⟩
  · exact q.elim
theorem simGs_cons {g : TG} {gs : TGs} {f : DG} {fs : DGs} (s1 : SimG C g f) (s2 : SimGs C gs fs) : SimGs C (gCons g gs) (dgCons f fs) := fun σ H ρ vs τ xs ts Qd Q I hl na nt q k => by
  unfold dgCons at q
  split at q
  · rename_i t ts
    match xs, hl with
    | v :: xs, hl =>
      simp [noAliL] at nt
      refine ⟨v, xs, rfl, s1 σ H ρ (vs ++ xs) (τ ++ ts) v t _ _ (I.first (by simpa using hl)) (by rw [noAliL_append, na, nt.2]; rfl) q fun σ' H' ρ' I' q' => ?_⟩
      exact s2 σ' H' ρ' vs τ xs ts _ _ I' (by simpa using hl) na nt.2 q' k
  · exact q.elim
theorem par_ok {ts : List T} {P : Prop} (h : match noAliL ts with | true => P | false => False) : noAliL ts = true ∧ P := by
  cases e : noAliL ts with
  | false => rw [e] at h; exact h.elim
  | true => rw [e] at h; exact ⟨rfl, h⟩
theorem ds_par {i j : Nat} (hc : C.X.calm = true) (hN : C.X.N.Nodup) (hi : C.X.N[i]? = some x) (hj : C.X.N[j]? = some y) (hij : Nat.beq i j = false) (hx : C.X.env.scope.names.lookup x = some .local) (hy : C.X.env.scope.names.lookup y = some .local) (n1 : i ∉ C.lent) (n2 : j ∉ C.lent) (ha : DPA C [a, b] fs)
    (hw : swappedStores [.Tuple [.Name x px, .Name y py] kt pt] (.Tuple [a, b] k2 pt2) C.X.env = pure (some [x, y]) := by rfl)
    (hs : swapsWithSole [.Tuple [.Name x px, .Name y py] kt pt] (.Tuple [a, b] k2 pt2) pos.line C.X.env = pure false := by rfl) :
    DPS C (.Assign [.Tuple [.Name x px, .Name y py] kt pt] (.Tuple [a, b] k2 pt2) pos) (dPar fs (dgCons (dgName i) (dgCons (dgName j) dgNil))) :=
  let ⟨_, pa, sa⟩ := ha.ex
  ⟨_, ps_par hc hN hi hj (Nat.ne_of_beq_eq_false hij) hx hy pa hw hs, fun σ H ρ vs τ Dd D I na q k => sa σ H ρ vs τ _ _ I q fun xs H1 ts ρ1 I1 hl q1 => by
    obtain ⟨nt, q1⟩ := par_ok q1
    obtain ⟨v, r, rfl, w, r2, rfl, rfl, h⟩ := simGs_cons (sim_name hN hi n1) (simGs_cons (sim_name hN hj n2) simGs_nil) σ H1 ρ1 vs τ xs ts _ D.nx I1 hl na nt q1 fun σ' H' ρ' I' q' => k.nx _ _ _ I' q'
    exact ⟨v, w, rfl, h⟩⟩
theorem ds_par3 {i j l : Nat} (hc : C.X.calm = true) (hN : C.X.N.Nodup) (hi : C.X.N[i]? = some x) (hj : C.X.N[j]? = some y) (hl : C.X.N[l]? = some z) (hij : Nat.beq i j = false) (hil : Nat.beq i l = false) (hjl : Nat.beq j l = false) (hx : C.X.env.scope.names.lookup x = some .local) (hy : C.X.env.scope.names.lookup y = some .local)
    (hz : C.X.env.scope.names.lookup z = some .local) (n1 : i ∉ C.lent) (n2 : j ∉ C.lent) (n3 : l ∉ C.lent) (ha : DPA C [a, b, c] fs)
    (hw : swappedStores [.Tuple [.Name x px, .Name y py, .Name z pz] kt pt] (.Tuple [a, b, c] k2 pt2) C.X.env = pure (some [x, y, z]) := by rfl)
    (hs : swapsWithSole [.Tuple [.Name x px, .Name y py, .Name z pz] kt pt] (.Tuple [a, b, c] k2 pt2) pos.line C.X.env = pure false := by rfl) :
    DPS C (.Assign [.Tuple [.Name x px, .Name y py, .Name z pz] kt pt] (.Tuple [a, b, c] k2 pt2) pos) (dPar fs (dgCons (dgName i) (dgCons (dgName j) (dgCons (dgName l) dgNil)))) :=
  let ⟨_, pa, sa⟩ := ha.ex
  ⟨_, ps_par3 hc hN hi hj hl (Nat.ne_of_beq_eq_false hij) (Nat.ne_of_beq_eq_false hil) (Nat.ne_of_beq_eq_false hjl) hx hy hz pa hw hs, fun σ H ρ vs τ Dd D I na q k => sa σ H ρ vs τ _ _ I q fun xs H1 ts ρ1 I1 hl2 q1 => by
    obtain ⟨nt, q1⟩ := par_ok q1
    obtain ⟨v, r, rfl, w, r2, rfl, u, r3, rfl, rfl, h⟩ := simGs_cons (sim_name hN hi n1) (simGs_cons (sim_name hN hj n2) (simGs_cons (sim_name hN hl n3) simGs_nil)) σ H1 ρ1 vs τ xs ts _ D.nx I1 hl2 na nt q1 fun σ' H' ρ' I' q' => k.nx _ _ _ I' q'
    exact ⟨v, w, u, rfl, h⟩⟩
end
end Ds
namespace Ds
open PySem L2
/-! ### reading off -/
theorem wO_i {α : Type} {o : Option α} {d : α} {k : α → Prop} (e : o = some d) (h : k d) : wO o k := by rw [e]; exact h
theorem wD_i {o : Option D} {d : D} {k : D → Prop} (e : o = some d) (h : k d) : wD o k := by rw [e]; exact h
theorem gI_nat {α : Type} {l : List α} {i : Int} {k : Nat} (e : i = (k : Int)) : gI l i = l[k]? := by subst e; rfl
theorem mul_ok {i j : Int} {a b : Nat} (h1 : i.natAbs.log2 < a) (h2 : j.natAbs.log2 < b) (h : a + b ≤ 1000000) : CMulW i j := by unfold CMulW; omega
theorem log2_lt {x : Int} {k : Nat} (h0 : 0 ≤ x) (h : x < 2 ^ k) (hk : 0 < k) : x.natAbs.log2 < k := by
  rcases Nat.eq_zero_or_pos x.natAbs with z | z
  · rw [z]; exact hk
  · rw [Nat.log2_lt (by omega)]
    have : ((2 ^ k : Nat) : Int) = (2 : Int) ^ k := by simp
    omega
theorem cut_from {α : Type} (l : List α) (k : Nat) : cut l (some (k : Int)) none = l.drop k := by
  have e : HT.sIx l.length 0 (some (k : Int)) = min k l.length := by simp [HT.sIx]; omega
  have e2 : HT.sIx l.length l.length none = l.length := by simp [HT.sIx]
  rw [cut, e, e2]
  by_cases h : k ≤ l.length
  · rw [Nat.min_eq_left h, List.take_of_length_le (by simp)]
  · rw [Nat.min_eq_right (by omega), List.drop_of_length_le (Nat.le_refl _), List.drop_of_length_le (by omega)]; simp
theorem cut_to {α : Type} (l : List α) (k : Nat) : cut l none (some (k : Int)) = l.take k := by
  have e : HT.sIx l.length l.length (some (k : Int)) = min k l.length := by simp [HT.sIx]; omega
  have e2 : HT.sIx l.length 0 none = 0 := by simp [HT.sIx]
  rw [cut, e, e2]
  by_cases h : k ≤ l.length
  · rw [Nat.min_eq_left h]; simp
  · rw [Nat.min_eq_right (by omega), List.take_of_length_le (by simp), List.take_of_length_le (by omega)]; simp
/-! ### data that is compared -/
theorem canLay_ints : ∀ ns : List Int, PyData.canLayAll0 (ns.map PyData.int) = true
  | [] => rfl
  | n :: ns => by simp only [List.map_cons, PyData.canLayAll0, PyData.canLay0, canLay_ints ns, Bool.and_self]
theorem depth_ints : ∀ ns : List Int, PyData.depthAll (ns.map PyData.int) = 0
  | [] => rfl
  | n :: ns => by simp only [List.map_cons, PyData.depthAll, PyData.depth, depth_ints ns, Nat.max_self]
theorem shaped_ints (ns : List Int) : SeqAt.shaped (.list (ns.map PyData.int)) = true := by
  simp only [SeqAt.shaped, PyData.canLay0, canLay_ints, PyData.depth, depth_ints]; rfl
theorem eqv_cons_nil {a : D} {l : List D} : PyData.eqv (.list (a :: l)) (.list []) = false := by rw [PyData.eqv, PyData.eqvAll]
theorem eqv_nil_nil : PyData.eqv (.list []) (.list []) = true := by rw [PyData.eqv, PyData.eqvAll]
theorem eqv_int {i j : Int} : PyData.eqv (.int i) (.int j) = (i == j) := by rw [PyData.eqv]
theorem eqv_str {i j : Str} : PyData.eqv (.str i) (.str j) = (i == j) := by rw [PyData.eqv]
/-! ### loops -/
theorem lc_inv {g : DG} {tt : DTt} {fe : DE} {own : List Nat} {K : List D → List T → Prop} {its : List T} {ρ : List T} (Pv : Nat → List D → List T → Prop) (h0 : Pv 0 [] ρ)
    (hs : ∀ (j : Nat) (t : T) (acc : List D) (ρ : List T) (K' : List D → List T → Prop), its[j]? = some t → Pv j acc ρ → (∀ acc' ρ', Pv (j + 1) acc' ρ' → K' acc' ρ') →
      g t ρ fun ρ1 => tt ρ1 fun b ρ2 => br b (fe ρ2 fun y ρ3 => wD (frz y) fun d => acc.length < sizeLine ∧ K' (acc ++ [d]) (wipeT ρ3 own)) (K' acc (wipeT ρ2 own))) (hd : ∀ acc ρ, Pv its.length acc ρ → K acc ρ) : dLcGo g tt fe own K its [] ρ := by
  have go : ∀ (l : List T) (j : Nat) (acc : List D) (ρ : List T), its.drop j = l → Pv j acc ρ → j ≤ its.length → dLcGo g tt fe own K l acc ρ := by
    intro l
    induction l with
    | nil =>
      intro j acc ρ e p hj
      have : j = its.length := by have := congrArg List.length e; rw [List.length_drop, List.length_nil] at this; omega
      subst this
      exact hd _ _ p
    | cons t l ih =>
      intro j acc ρ e p hj
      have hj2 : j < its.length := by have := congrArg List.length e; rw [List.length_drop, List.length_cons] at this; omega
      rw [List.drop_eq_getElem_cons hj2] at e
      injection e with e1 el
      have et : its[j]? = some t := by rw [← e1]; exact List.getElem?_eq_getElem hj2
      exact hs j t acc ρ (fun acc' ρ' => dLcGo g tt fe own K l acc' ρ') et p fun acc' ρ' p' => ih (j + 1) acc' ρ' el p' hj2
  exact go its 0 [] ρ rfl h0 (Nat.zero_le _)
/-- one name, each turn by itself: sel tells what a turn adds -/
theorem lc_pure {i : Nat} {tt : DTt} {fe : DE} {K : List D → List T → Prop} {its : List T} {ρ : List T} (sel : T → Option D) (hw : ρ.set i .emp = ρ) (hl : its.length ≤ sizeLine)
    (he : ∀ t, t ∈ its → noAli t = true ∧ ∀ (P : T → List T → Prop) (R : List T → Prop), (∀ d y, sel t = some d → frz y = some d → P y (ρ.set i t)) → (sel t = none → R (ρ.set i t)) → tt (ρ.set i t) fun b ρ2 => br b (fe ρ2 P) (R ρ2))
    (hk : K (its.filterMap sel) ρ) : dLcGo (dgName i) tt fe [i] K its [] ρ := by
  have hset : ∀ t : T, wipeT (ρ.set i t) [i] = ρ := fun t => by
    show (ρ.set i t).set i .emp = ρ
    rw [List.set_set, hw]
  refine lc_inv (fun j acc ρ' => acc = (its.take j).filterMap sel ∧ ρ' = ρ) ⟨by simp, rfl⟩ (fun j t acc ρ' K' et p k => ?_) (fun acc ρ' p => ?_)
  · obtain ⟨rfl, rfl⟩ := p
    obtain ⟨na, h⟩ := he t (List.mem_of_getElem? et)
    have hj : j < its.length := (List.getElem?_eq_some_iff.mp et).1
    have tk : its.take (j + 1) = its.take j ++ [t] := by rw [List.take_succ, et]; rfl
    show match noAli t with | true => _ | false => False
    rw [na]
    refine h _ _ (fun d y e fy => wD_i fy ⟨?_, ?_⟩) fun e => ?_
    · have h1 : ((its.take j).filterMap sel).length ≤ (its.take j).length := List.length_filterMap_le ..
      rw [List.length_take] at h1
      omega
    · rw [hset]
      refine k _ _ ⟨?_, rfl⟩
      rw [tk, List.filterMap_append]
      simp [e]
    · rw [hset]
      refine k _ _ ⟨?_, rfl⟩
      rw [tk, List.filterMap_append]
      simp [e]
  · obtain ⟨rfl, rfl⟩ := p
    rw [List.take_length]
    exact hk
/-- the ends of a def's body -/
abbrev fin0 (ln : Option Nat) (Q : T → T → Prop) : DEnds := { nx := fun ρ => cl (lentOf ln ρ) (Q (.dat .none) (lentOf ln ρ)), rt := fun r ρ => cl r (cl (lentOf ln ρ) (Q r (lentOf ln ρ))) }
abbrev finX (ln : Option Nat) (W : Exn → T → Prop) : Exn → List T → Prop := fun ex ρ => cl (lentOf ln ρ) (W ex (lentOf ln ρ))
end Ds
namespace Ds
open PySem L2
theorem dg_i {i : Nat} {t : T} {ρ : List T} {Q : List T → Prop} (na : noAli t = true) (h : Q (ρ.set i t)) : dgName i t ρ Q := by
  show match noAli t with | true => Q (ρ.set i t) | false => False
  rw [na]; exact h
/-- a statement behind another: what stands between them -/
theorem dSeq_cut {f g : DS} {D : DEnds} {ρ : List T} (P : List T → Prop) (h1 : ∀ K : List T → Prop, (∀ ρ', P ρ' → K ρ') → f { D with nx := K } ρ) (h2 : ∀ ρ', P ρ' → g D ρ') : dSeq f g D ρ := ⟨h1 _ h2⟩
end Ds
namespace Ds
open PySem L2
/-! ### texts of data -/
/-- it can be told in n letters, k deep -/
structure Tl (k n : Nat) (d : D) : Prop where
  sh : d.showable = true
  le : d.shown.length ≤ n
  dp : d.depth ≤ k
theorem Tl.mono {k n k' n' : Nat} {d : D} (h : Tl k n d) (hk : k ≤ k') (hn : n ≤ n') : Tl k' n' d := ⟨h.sh, Nat.le_trans h.le hn, Nat.le_trans h.dp hk⟩
theorem tl_all {k n : Nat} : ∀ {xs : List D}, (∀ x ∈ xs, Tl k n x) → PyData.showableAll xs = true ∧ ((PyData.shownAll xs).map (·.length)).sum ≤ xs.length * n ∧ PyData.depthAll xs ≤ k ∧ (PyData.shownAll xs).length = xs.length
  | [], _ => ⟨rfl, by simp [PyData.shownAll], by simp [PyData.depthAll], by simp [PyData.shownAll]⟩
  | x :: xs, h => by
    obtain ⟨h1, h2, h3, h4⟩ := tl_all (xs := xs) fun y hy => h y (List.mem_cons_of_mem _ hy)
    have q := h x (List.mem_cons_self ..)
    have q2 := q.le
    have q3 := q.dp
    refine ⟨?_, ?_, ?_, ?_⟩
    · simp only [PyData.showableAll, q.sh, h1, Bool.and_self]
    · simp only [PyData.shownAll, List.map_cons, List.sum_cons, List.length_cons]
      rw [Nat.add_mul, Nat.one_mul]; omega
    · simp only [PyData.depthAll]; omega
    · simp only [PyData.shownAll, List.length_cons, h4]
theorem Tl.list {k n m : Nat} {xs : List D} (h : ∀ x ∈ xs, Tl k n x) (hm : xs.length ≤ m) : Tl (k + 1) (m * (n + 2) + 3) (.list xs) := by
  obtain ⟨h1, h2, h3, h4⟩ := tl_all h
  have e := listText_len_le (PyData.shownAll xs)
  have e2 : xs.length * (n + 2) ≤ m * (n + 2) := Nat.mul_le_mul_right _ hm
  refine ⟨by simp only [PyData.showable, h1], ?_, by simp only [PyData.depth]; omega⟩
  simp only [PyData.shown]
  rw [h4] at e
  have e3 : m * (n + 2) = m * n + m * 2 := Nat.mul_add ..
  have e4 : xs.length * (n + 2) = xs.length * n + xs.length * 2 := Nat.mul_add ..
  omega
theorem Tl.tuple {k n m : Nat} {xs : List D} (h : ∀ x ∈ xs, Tl k n x) (hm : xs.length ≤ m) : Tl (k + 1) (m * (n + 2) + 3) (.tuple xs) := by
  obtain ⟨h1, h2, h3, h4⟩ := tl_all h
  have e := tupleText_len_le (PyData.shownAll xs)
  have e2 : xs.length * (n + 2) ≤ m * (n + 2) := Nat.mul_le_mul_right _ hm
  refine ⟨by simp only [PyData.showable, h1], ?_, by simp only [PyData.depth]; omega⟩
  simp only [PyData.shown]
  rw [h4] at e
  have e3 : m * (n + 2) = m * n + m * 2 := Nat.mul_add ..
  have e4 : xs.length * (n + 2) = xs.length * n + xs.length * 2 := Nat.mul_add ..
  omega
theorem Tl.int {i : Int} {k : Nat} (h : i.natAbs.log2 < k) (h0 : 0 < k) (hk : k ≤ 1920) : Tl 0 (k + 1) (.int i) := by
  refine ⟨by simp only [PyData.showable, decide_eq_true_eq]; omega, ?_, Nat.le_refl _⟩
  simp only [PyData.shown]
  rw [ofString_length]
  exact int_text_length_le (k := k) h0 h
theorem rep1 {α : Type} (a : α) : ∀ k : Nat, (List.replicate k [a]).flatten = List.replicate k a
  | 0 => rfl
  | k + 1 => by rw [List.replicate_succ, List.flatten_cons, rep1 a k, List.replicate_succ]; rfl
end Ds
namespace Ds
open PySem L2
/-- the slots written out -/
theorem seq_at {f g : DS} {D : DEnds} {ρ : List T} (ρ' : List T) (h : ρ = ρ') (q : f { D with nx := fun ρ1 => g D ρ1 } ρ') : dSeq f g D ρ := by rw [h]; exact ⟨q⟩
theorem lc_pureA {i : Nat} {tt : DTt} {fe : DE} {K : List D → List T → Prop} {its : List T} {ρ : List T} (its' : List T) (ρ' : List T) (h1 : its = its') (h2 : ρ = ρ') (sel : T → Option D) (hw : ρ'.set i .emp = ρ') (hl : its'.length ≤ sizeLine)
    (he : ∀ t, t ∈ its' → noAli t = true ∧ ∀ (P : T → List T → Prop) (R : List T → Prop), (∀ d y, sel t = some d → frz y = some d → P y (ρ'.set i t)) → (sel t = none → R (ρ'.set i t)) → tt (ρ'.set i t) fun b ρ2 => br b (fe ρ2 P) (R ρ2))
    (hk : K (its'.filterMap sel) ρ') : dLcGo (dgName i) tt fe [i] K its [] ρ := by
  subst h1 h2
  exact lc_pure sel hw hl he hk
end Ds
namespace Ds
open PySem L2
theorem want_scr {K : PySem.W.Frag} {spd : DSp} {H : Hp} {a : Addr} {ns : List Int} (hO : Only H) (hS : SqL K H a (ns.map V.int)) (h : ∀ Q W, Q (.dat (.bool true)) .emp → spd [.scr ns] Q W) (hm : Mono spd) :
    toSp K 1 none spd [.ref a] H (fun v _ => v = .bl true) fun _ _ _ => False := by
  have sb : SB K (fun b => b ∈ ([] : List Addr) ∨ False) H a (ns.map V.int) := by
    rcases hS with z | z
    · refine .inl ⟨?_, by simp⟩
      rcases z with z | z
      · rcases hO a with q | ⟨o, xs, q⟩
        · rw [z] at q; cases q
        · rw [z] at q; cases q
      · exact z
    · exact .inr z
  refine ⟨fun _ => False, [.scr ns], [], rfl, ⟨rfl, rfl, fun j t e => ?_, List.nodup_nil, fun _ z => by simp at z, fun _ z => by simp at z, fun _ z => z.elim⟩, ?_⟩
  · cases j with
    | zero =>
      simp at e
      subst e
      exact ⟨.ref a, rfl, .scr sb⟩
    | succ j => simp at e
  · refine hm _ (fun r t' => r = .dat (.bool true)) _ (fun _ _ => False) _ (fun r t' hr v H' Po => ?_) (fun ex t' z => z.elim) (h _ _ rfl)
    subst hr
    obtain ⟨go, ro, h1, _⟩ := Po.ex
    exact h1.dat_inv.bool_eq
theorem noX {P : Program} {w : World} {H : Hp} {s : Shared} {e : Value} {s' : Shared} (h : L2.CX P w [] H s (fun _ _ _ => False) e s') : False := by
  obtain ⟨_, _, _, _, _, _, _, _, _, _, _, _, z⟩ := h
  exact z
/-- the head, of one def `law(script)` -/
theorem walkD {l : PySem.W.OpenLaw} {k : Nat} {q : Program} {loose : List Str} {XP : (Str → Option Value) → Heap → Prop} {YP : World → Heap → Prop} {d : PySem.DefRec} {K : Params → PySem.W.Frag} {spd : DSp} (hn : l.most = some 63) (hdf : d.params.defaults = []) (room : RoomG k callerA)
    (hY : ∀ (w : World) (h : Heap), YP w h → (K w.params).In h) (hm : Mono spd) (hspd : ∀ (ns : List Int) Q W, ns.length ≤ 63 → Q (.dat (.bool true)) .emp → spd [.scr ns] Q W)
    (F : ∀ (w : World) (mg : Str → Option Value) (fa : Addr) (h : Heap), (K w.params).In h → h.Ns mainGlobals mg → mg d.name = some (.ref fa) → ∃ fd : FuncData, (∀ (s : Shared) (u : Value), BindsTo s fd ⟨[u], []⟩ [("script", u)]) ∧
      ∀ base : Heap, (K w.params).In base → base.Ns mainGlobals mg → FnG l.prog w (K w.params) mg base k fa fd ["script"] (toSp (K w.params) 1 none spd)) : PySem.W.WalkO q loose XP YP l.row.toRowW d [] (fun f vs => PySem.call f vs) :=
  walkG hn (by decide) hdf room hY (sp := fun w => toSp (K w.params) 1 none spd) F (fun w H a ns hl _ hO hS => want_scr hO hS (fun Q W h => hspd ns Q W hl h) hm) fun w H s e s' z => noX z
end Ds
namespace Ds
open PySem L2
theorem lc_gen {α : Type} {g : DG} {tt : DTt} {fe : DE} {own : List Nat} {K : List D → List T → Prop} {ρ : List T} (its : List α) (tg : α → T) (st : α → List T) (p : α → Bool) (gv : α → D) (hs : ∀ a ∈ its, wipeT (st a) own = ρ)
    (hg : ∀ a ∈ its, ∀ Q : List T → Prop, Q (st a) → g (tg a) ρ Q) (hl : its.length ≤ sizeLine)
    (he : ∀ a ∈ its, ∀ (P : T → List T → Prop) (R : List T → Prop), (p a = true → ∀ y, frz y = some (gv a) → P y (st a)) → (p a = false → R (st a)) → tt (st a) fun b ρ2 => br b (fe ρ2 P) (R ρ2))
    (hk : K ((its.filter p).map gv) ρ) : dLcGo g tt fe own K (its.map tg) [] ρ := by
  have go : ∀ (l pre : List α), its = pre ++ l → dLcGo g tt fe own K (l.map tg) ((pre.filter p).map gv) ρ := by
    intro l
    induction l with
    | nil => intro pre e; rw [List.append_nil] at e; subst e; exact hk
    | cons a l ih =>
      intro pre e
      have ha : a ∈ its := by rw [e]; simp
      have hn := ih (pre ++ [a]) (by rw [e]; simp)
      show g (tg a) ρ _
      refine hg a ha _ (he a ha _ _ (fun hp y hy => wD_i hy ⟨?_, ?_⟩) fun hp => ?_)
      · have h1 : ((pre.filter p).map gv).length ≤ pre.length := by rw [List.length_map]; exact List.length_filter_le ..
        have h2 := congrArg List.length e
        simp at h2
        omega
      · rw [hs a ha]
        rw [List.filter_append, List.map_append, List.filter_cons, if_pos hp] at hn
        exact hn
      · rw [hs a ha]
        rw [List.filter_append, List.map_append, List.filter_cons, if_neg (by rw [hp]; decide)] at hn
        rw [show ((List.filter p []).map gv) = [] from rfl, List.append_nil] at hn
        exact hn
  exact go its [] rfl
theorem filter_true {α : Type} (l : List α) : l.filter (fun _ => true) = l := List.filter_eq_self.mpr fun _ _ => rfl
theorem filter_no {α : Type} (l : List α) : l.filter (fun _ => false) = [] := by simp
theorem dgn_i {i : Nat} {t : T} {ρ : List T} (na : noAli t = true) {Q : List T → Prop} (h : Q (ρ.set i t)) : dgName i t ρ Q := by
  show match noAli t with | true => Q (ρ.set i t) | false => False
  rw [na]; exact h
/-- one name, no test -/
theorem lc_mp {α : Type} {i : Nat} {fe : DE} {K : List D → List T → Prop} {ρ : List T} (its : List α) (tg : α → T) (gv : α → D) (hw : ρ.set i .emp = ρ) (hl : its.length ≤ sizeLine) (na : ∀ a ∈ its, noAli (tg a) = true)
    (he : ∀ a ∈ its, ∀ P : T → List T → Prop, (∀ y, frz y = some (gv a) → P y (ρ.set i (tg a))) → fe (ρ.set i (tg a)) P) (hk : K (its.map gv) ρ) : dLcGo (dgName i) dYes fe [i] K (its.map tg) [] ρ :=
  lc_gen its tg (fun a => ρ.set i (tg a)) (fun _ => true) gv (fun a _ => by show (ρ.set i (tg a)).set i .emp = ρ; rw [List.set_set, hw]) (fun a ha Q h => dgn_i (na a ha) h) hl
    (fun a ha P R hp _ => br_t rfl (he a ha P fun y hy => hp rfl y hy)) (by rw [filter_true]; exact hk)
/-- one name, a test -/
theorem lc_fl {α : Type} {i : Nat} {tt : DTt} {fe : DE} {K : List D → List T → Prop} {ρ : List T} (its : List α) (tg : α → T) (p : α → Bool) (gv : α → D) (hw : ρ.set i .emp = ρ) (hl : its.length ≤ sizeLine) (na : ∀ a ∈ its, noAli (tg a) = true)
    (he : ∀ a ∈ its, ∀ (P : T → List T → Prop) (R : List T → Prop), (p a = true → ∀ y, frz y = some (gv a) → P y (ρ.set i (tg a))) → (p a = false → R (ρ.set i (tg a))) → tt (ρ.set i (tg a)) fun b ρ2 => br b (fe ρ2 P) (R ρ2))
    (hk : K ((its.filter p).map gv) ρ) : dLcGo (dgName i) tt fe [i] K (its.map tg) [] ρ :=
  lc_gen its tg (fun a => ρ.set i (tg a)) p gv (fun a _ => by show (ρ.set i (tg a)).set i .emp = ρ; rw [List.set_set, hw]) (fun a ha Q h => dgn_i (na a ha) h) hl he hk
/-- two names -/
theorem dgt2_i {i j : Nat} {t x y : T} {ρ : List T} (na : noAli t = true) (e : partsT t = some [x, y]) (nx : noAli x = true) (ny : noAli y = true) {Q : List T → Prop} (h : Q ((ρ.set i x).set j y)) : (Tgt.many [i, j]).d t ρ Q := by
  show match noAli t with | true => wO (partsT t) fun ts => ts.length = 2 ∧ dgNs [i, j] ts ρ Q | false => False
  rw [na]
  refine wO_i e ⟨rfl, ?_⟩
  exact dgn_i (Q := fun ρ1 => dgNs [j] [y] ρ1 Q) nx (dgn_i (Q := fun ρ1 => dgNs [] [] ρ1 Q) ny h)
theorem lc_mp2 {α : Type} {i j : Nat} {fe : DE} {K : List D → List T → Prop} {ρ : List T} (its : List α) (tg x y : α → T) (gv : α → D) (hw : (ρ.set j .emp).set i .emp = ρ) (hij : i ≠ j) (hl : its.length ≤ sizeLine) (na : ∀ a ∈ its, noAli (tg a) = true ∧ partsT (tg a) = some [x a, y a] ∧ noAli (x a) = true ∧ noAli (y a) = true)
    (he : ∀ a ∈ its, ∀ P : T → List T → Prop, (∀ z, frz z = some (gv a) → P z ((ρ.set i (x a)).set j (y a))) → fe ((ρ.set i (x a)).set j (y a)) P) (hk : K (its.map gv) ρ) : dLcGo (Tgt.many [i, j]).d dYes fe [i, j] K (its.map tg) [] ρ :=
  lc_gen its tg (fun a => (ρ.set i (x a)).set j (y a)) (fun _ => true) gv (fun a _ => by
    show ((((ρ.set i (x a)).set j (y a)).set j .emp).set i .emp) = ρ
    rw [List.set_set, List.set_comm _ _ hij, List.set_set]
    rw [List.set_comm _ _ (Ne.symm hij)] at hw ⊢
    first | exact hw | (rw [List.set_comm _ _ hij] at hw; exact hw) | (rw [List.set_comm _ _ hij]; exact hw)) (fun a ha Q h => dgt2_i (na a ha).1 (na a ha).2.1 (na a ha).2.2.1 (na a ha).2.2.2 h) hl
    (fun a ha P R hp _ => br_t rfl (he a ha P fun y hy => hp rfl y hy)) (by rw [filter_true]; exact hk)
theorem lc_fl2 {α : Type} {i j : Nat} {tt : DTt} {fe : DE} {K : List D → List T → Prop} {ρ : List T} (its : List α) (tg x y : α → T) (p : α → Bool) (gv : α → D) (hw : (ρ.set j .emp).set i .emp = ρ) (hij : i ≠ j) (hl : its.length ≤ sizeLine) (na : ∀ a ∈ its, noAli (tg a) = true ∧ partsT (tg a) = some [x a, y a] ∧ noAli (x a) = true ∧ noAli (y a) = true)
    (he : ∀ a ∈ its, ∀ (P : T → List T → Prop) (R : List T → Prop), (p a = true → ∀ z, frz z = some (gv a) → P z ((ρ.set i (x a)).set j (y a))) → (p a = false → R ((ρ.set i (x a)).set j (y a))) → tt ((ρ.set i (x a)).set j (y a)) fun b ρ2 => br b (fe ρ2 P) (R ρ2))
    (hk : K ((its.filter p).map gv) ρ) : dLcGo (Tgt.many [i, j]).d tt fe [i, j] K (its.map tg) [] ρ :=
  lc_gen its tg (fun a => (ρ.set i (x a)).set j (y a)) p gv (fun a _ => by
    show ((((ρ.set i (x a)).set j (y a)).set j .emp).set i .emp) = ρ
    rw [List.set_set, List.set_comm _ _ hij, List.set_set]
    rw [List.set_comm _ _ (Ne.symm hij)] at hw ⊢
    first | exact hw | (rw [List.set_comm _ _ hij] at hw; exact hw) | (rw [List.set_comm _ _ hij]; exact hw)) (fun a ha Q h => dgt2_i (na a ha).1 (na a ha).2.1 (na a ha).2.2.1 (na a ha).2.2.2 h) hl he hk
/-- a loop over a mapped list, by what has been taken -/
theorem for_pre {α : Type} {g : DG} {f : DS} {D : DEnds} {ρ : List T} (its : List α) (tg : α → T) (Pv : List α → List T → Prop) (h0 : Pv [] ρ)
    (hs : ∀ pre a post ρ (K : List T → Prop), its = pre ++ a :: post → Pv pre ρ → (∀ ρ', Pv (pre ++ [a]) ρ' → K ρ') → g (tg a) ρ fun ρ1 => f { D with nx := K, ct := K, bk := D.nx } ρ1) (hd : ∀ ρ, Pv its ρ → D.nx ρ) : dFor g f D (its.map tg) ρ := by
  have go : ∀ (l pre : List α) (ρ : List T), its = pre ++ l → Pv pre ρ → dFor g f D (l.map tg) ρ := by
    intro l
    induction l with
    | nil => intro pre ρ e p; rw [List.append_nil] at e; subst e; exact hd ρ p
    | cons a l ih =>
      intro pre ρ e p
      exact hs pre a l ρ (fun ρ2 => dFor g f D (l.map tg) ρ2) e p fun ρ' p' => ih (pre ++ [a]) ρ' (by rw [e]; simp) p'
  exact go its [] ρ rfl h0
theorem FnG.never {P : Program} {w : World} {K : PySem.W.Frag} {mg : Str → Option Value} {base : Heap} {k n : Nat} {f : Addr} {fd : FuncData} {ps : List Str} {ln : Option Nat} {spd : DSp} (h : ∀ ts Q W, ¬ spd ts Q W) : FnG P w K mg base k f fd ps (toSp K n ln spd) :=
  ⟨fun _ _ _ _ ⟨_, _, _, _, _, z⟩ => (h _ _ _ z).elim, fun _ _ _ _ _ _ _ _ _ _ _ _ _ ⟨_, _, _, _, _, z⟩ => (h _ _ _ z).elim⟩
/-! ### sizes of texts, by lists -/
def TlA (k n m : Nat) (xs : List D) : Prop := (∀ x ∈ xs, Tl k n x) ∧ xs.length ≤ m
theorem TlA.nil {k n m : Nat} : TlA k n m [] := ⟨by simp, Nat.zero_le _⟩
theorem TlA.cons {k n m : Nat} {x : D} {xs : List D} (h : Tl k n x) (t : TlA k n m xs) : TlA k n (m + 1) (x :: xs) :=
  ⟨fun y hy => by rcases List.mem_cons.mp hy with rfl | hy; exact h; exact t.1 y hy, by have := t.2; simp; omega⟩
theorem TlA.append {k n a b : Nat} {xs ys : List D} (h : TlA k n a xs) (t : TlA k n b ys) : TlA k n (a + b) (xs ++ ys) :=
  ⟨fun y hy => (List.mem_append.mp hy).elim (h.1 y) (t.1 y), by have := h.2; have := t.2; simp; omega⟩
theorem TlA.mono {k n m k' n' m' : Nat} {xs : List D} (h : TlA k n m xs) (hk : k ≤ k') (hn : n ≤ n') (hm : m ≤ m') : TlA k' n' m' xs := ⟨fun x hx => (h.1 x hx).mono hk hn, Nat.le_trans h.2 hm⟩
theorem TlA.map {α : Type} {k n m : Nat} {f : α → D} {l : List α} (h : ∀ a ∈ l, Tl k n (f a)) (hl : l.length ≤ m) : TlA k n m (l.map f) :=
  ⟨fun y hy => by obtain ⟨a, ha, rfl⟩ := List.mem_map.mp hy; exact h a ha, by simpa using hl⟩
theorem TlA.take {k n m : Nat} {xs : List D} (h : TlA k n m xs) (j : Nat) : TlA k n m (xs.take j) := ⟨fun y hy => h.1 y (List.mem_of_mem_take hy), by have := h.2; simp; omega⟩
theorem TlA.drop {k n m : Nat} {xs : List D} (h : TlA k n m xs) (j : Nat) : TlA k n m (xs.drop j) := ⟨fun y hy => h.1 y (List.mem_of_mem_drop hy), by have := h.2; simp; omega⟩
theorem TlA.rep {k n : Nat} {x : D} (h : Tl k n x) (c : Nat) : TlA k n c (List.replicate c x) := ⟨fun y hy => by rw [List.eq_of_mem_replicate hy]; exact h, by simp⟩
theorem TlA.repl {k n : Nat} {x : D} (h : Tl k n x) (c : Nat) : TlA k n c (List.replicate c [x]).flatten := by rw [rep1]; exact TlA.rep h c
theorem TlA.list {k n m : Nat} {xs : List D} (h : TlA k n m xs) : Tl (k + 1) (m * (n + 2) + 3) (.list xs) := Tl.list h.1 h.2
theorem TlA.tuple {k n m : Nat} {xs : List D} (h : TlA k n m xs) : Tl (k + 1) (m * (n + 2) + 3) (.tuple xs) := Tl.tuple h.1 h.2
/-- lists and tuples at once -/
theorem TlA.listM {k n m k' n' : Nat} {xs : List D} (h : TlA k n m xs) (hk : k + 1 ≤ k') (hn : m * (n + 2) + 3 ≤ n') : Tl k' n' (.list xs) := h.list.mono hk hn
theorem TlA.tupleM {k n m k' n' : Nat} {xs : List D} (h : TlA k n m xs) (hk : k + 1 ≤ k') (hn : m * (n + 2) + 3 ≤ n') : Tl k' n' (.tuple xs) := h.tuple.mono hk hn
theorem Tl.intB {i : Int} (n : Nat) {k : Nat} (h0 : -(2 ^ n) < i) (h1 : i < 2 ^ n) (hn : 0 < n) (hn2 : n ≤ 1920) (hk : n + 1 ≤ k) : Tl 0 k (.int i) := by
  refine (Tl.int (k := n) ?_ hn hn2).mono (Nat.le_refl _) hk
  have : i.natAbs < 2 ^ n := by
    have e : ((2 ^ n : Nat) : Int) = (2 : Int) ^ n := by simp
    omega
  rcases Nat.eq_zero_or_pos i.natAbs with z | z
  · rw [z]; exact hn
  · exact (Nat.log2_lt (by omega)).mpr this
/-! ### what == may be asked of -/
structure Lay (k : Nat) (d : D) : Prop where
  cl : d.canLay0 = true
  dp : d.depth ≤ k
theorem Lay.int {i : Int} {k : Nat} : Lay k (.int i) := ⟨rfl, Nat.zero_le _⟩
theorem Lay.bool {i : Bool} {k : Nat} : Lay k (.bool i) := ⟨rfl, Nat.zero_le _⟩
theorem Lay.str {i : Str} {k : Nat} (h : (PyData.str i).canLay0 = true) : Lay k (.str i) := ⟨h, Nat.zero_le _⟩
theorem Lay.none {k : Nat} : Lay k .none := ⟨rfl, Nat.zero_le _⟩
theorem lay_all {k : Nat} : ∀ {xs : List D}, (∀ x ∈ xs, Lay k x) → PyData.canLayAll0 xs = true ∧ PyData.depthAll xs ≤ k
  | [], _ => ⟨rfl, Nat.zero_le _⟩
  | x :: xs, h => by
    obtain ⟨h1, h2⟩ := lay_all (xs := xs) fun y hy => h y (List.mem_cons_of_mem _ hy)
    have q := h x (List.mem_cons_self ..)
    have q2 := q.dp
    refine ⟨by simp only [PyData.canLayAll0, q.cl, h1, Bool.and_self], ?_⟩
    simp only [PyData.depthAll]; omega
theorem Lay.list {k : Nat} {xs : List D} (h : ∀ x ∈ xs, Lay k x) : Lay (k + 1) (.list xs) := by
  obtain ⟨h1, h2⟩ := lay_all h
  exact ⟨by simp only [PyData.canLay0, h1], by simp only [PyData.depth]; omega⟩
theorem Lay.tuple {k : Nat} {xs : List D} (h : ∀ x ∈ xs, Lay k x) : Lay (k + 1) (.tuple xs) := by
  obtain ⟨h1, h2⟩ := lay_all h
  exact ⟨by simp only [PyData.canLay0, h1], by simp only [PyData.depth]; omega⟩
theorem Lay.mono {j k : Nat} {d : D} (h : Lay j d) (hk : j ≤ k) : Lay k d := ⟨h.cl, Nat.le_trans h.dp hk⟩
theorem Lay.shaped {k : Nat} {d : D} (h : Lay k d) (hk : k ≤ 64) : SeqAt.shaped d = true := by
  simp only [SeqAt.shaped, h.cl, Bool.true_and]; exact decide_eq_true (Nat.le_trans h.dp hk)
theorem Lay.intL {ns : List Int} : Lay 1 (.list (ns.map .int)) := .list fun x hx => by obtain ⟨_, _, rfl⟩ := List.mem_map.mp hx; exact .int
theorem Lay.intT {ns : List Int} : Lay 1 (.tuple (ns.map .int)) := .tuple fun x hx => by obtain ⟨_, _, rfl⟩ := List.mem_map.mp hx; exact .int
end Ds
namespace Ds
open PySem L2
def dLc2Go (g : DG) (tt : DTt) (fi1 : DI) (g1 : DG) (tt1 : DTt) (fe : DE) (own own1 : List Nat) (K : List D → List T → Prop) : List T → List D → List T → Prop
  | [], acc, ρ => K acc ρ
  | t :: its, acc, ρ => g t ρ fun ρ1 => tt ρ1 fun b ρ2 => br b (fi1 ρ2 fun its1 ρ3 => dLcGo g1 tt1 fe own1 (fun acc' ρ4 => dLc2Go g tt fi1 g1 tt1 fe own own1 K its acc' (wipeT ρ4 own)) its1 acc (wipeT ρ3 own1)) (dLc2Go g tt fi1 g1 tt1 fe own own1 K its acc (wipeT ρ2 own))
def dLc2 (fi : DI) (g : DG) (tt : DTt) (fi1 : DI) (g1 : DG) (tt1 : DTt) (fe : DE) (own own1 : List Nat) : DE := fun ρ Q => fi ρ fun its ρ1 => dLc2Go g tt fi1 g1 tt1 fe own own1 (fun ds ρ2 => Q (.own ds) ρ2) its [] (wipeT ρ1 own)
section
variable {C : Ctx}
def derI (C : Ctx) (f : DI) : TI := fun σ H R => ∃ (ρ : List T) (vs : List V) (τ : List T) (Qd : List T → List T → Prop), SS C σ H ρ vs τ ∧ f ρ Qd ∧ ∀ J H' sv sx its ρ', SS C σ H' ρ' (vs ++ sv) (τ ++ sx) → noAliL sx = true → WalksD C J sv sx its → Qd its ρ' → R J H'
theorem SS.blk {σ : St} {H : Hp} {ρ : List T} {vs : List V} {τ : List T} {s : Shared} {H1 : Hp} {scope : Scope} {Cc : Addr} {cl : List (Str × Addr)} {fp : List Addr} (I : SS C σ H ρ vs τ) : SS (C.blk s H1 scope Cc cl fp) σ H ρ vs τ := let ⟨ow, J⟩ := I; ⟨ow, J.blk⟩
theorem SS.unblk {σ : St} {H : Hp} {ρ : List T} {vs : List V} {τ : List T} {s : Shared} {H1 : Hp} {scope : Scope} {Cc : Addr} {cl : List (Str × Addr)} {fp : List Addr} (I : SS (C.blk s H1 scope Cc cl fp) σ H ρ vs τ) : SS C σ H ρ vs τ := let ⟨ow, J⟩ := I; ⟨ow, J.unblk⟩
theorem pi_der {s : Shared} {H : Hp} {Cc : Addr} {cl : List (Str × Addr)} {fp : List Addr} {scope : Scope} {tg it : Expr} {f : DI} (h : DPI (C.blk s H scope Cc cl fp) tg it f) : PI (C.blk s H scope Cc cl fp).X tg it (derI C f) :=
  let ⟨_, p, sm⟩ := h.ex
  ⟨fun pins s1 σ H1 R I ⟨ρ, vs, τ, Qd, J, q, k⟩ => p.run pins s1 σ H1 R I (sm σ H1 ρ vs τ Qd R J.blk q fun J' H' sv sx its ρ' I' na wk q' => k J' H' sv sx its ρ' I'.unblk na (fun i σ H ρ vs τ hτ I => ⟨(wk i σ H ρ vs τ hτ I.blk).1, fun t e => ⟨((wk i σ H ρ vs τ hτ I.blk).2 t e).1, fun w H' hy => (((wk i σ H ρ vs τ hτ I.blk).2 t e).2 w H' hy).unblk⟩⟩) q')⟩
variable {elt tge iter tge1 iter1 : Expr} {ifs ifs1 : List Expr} {scope : Scope} {own : List (Str × Nat)} {os1 : List Nat} {pos : Pos} {fi fi1 : DI} {tt tt1 : DTt} {fe : DE} {tg tg1 : Tgt}
theorem sim_lc2 {wi : TI} (hi : SimI C wi fi) (h1 : ∀ i ∈ tg.sl, i ∈ own.map (·.2)) (h2 : ∀ i ∈ own.map (·.2), i ∉ C.lent ∧ i ∈ C.cv) (h3 : ∀ i ∈ tg1.sl, i ∈ os1) (h4 : ∀ i ∈ os1, i ∈ own.map (·.2)) :
    Sim C (tLc2 wi (tg.g C.K) (derT C tt) (derI C fi1) (tg1.g C.K) (derT C tt1) (derE C fe) (own.map (·.2)) os1) (dLc2 fi tg.d tt fi1 tg1.d tt1 fe (own.map (·.2)) os1) := fun σ H ρ vs τ Qd Q I h k => hi σ H ρ vs τ _ _ I h fun J H1 sv sx its ρ1 I1 nx wk q A hD => by
  let os := own.map (·.2)
  have hτ := I.ltE
  have hsx : sx.length = sv.length := by have := I1.ltE; simp at this; omega
  have hc : ∀ i ∈ os, i ∈ C.cv := fun i hi => (h2 i hi).2
  have hl : ∀ i ∈ os, i ∉ C.lent := fun i hi => (h2 i hi).1
  have hc1 : ∀ i ∈ os1, i ∈ C.cv := fun i hi => hc i (h4 i hi)
  have hl1 : ∀ i ∈ os1, i ∉ C.lent := fun i hi => hl i (h4 i hi)
  -- the new list under the sources
  have I2 : SS C σ (upd H1 A (.lst [])) (wipeT ρ1 os) (vs ++ [.ref A] ++ sv) (τ ++ [.own []] ++ sx) := by
    obtain ⟨ow, J1⟩ := id I1
    have J2 : SS C σ (upd H1 A (.lst [])) ρ1 (vs ++ sv ++ [.ref A]) (τ ++ sx ++ [.own []]) := by
      have J1' : SI C σ H1 ρ1 (vs ++ sv ++ []) (τ ++ sx ++ []) ow := by simpa using J1
      exact J1'.newL J1.lt hD .nil
    have J3 := SS.under (vs := vs) (τ := τ) (sv := sv) (sx := sx) hsx (sv2 := []) (sx2 := []) rfl (by simpa using J2)
    have J4 : SS C σ (upd H1 A (.lst [])) ρ1 (vs ++ [.ref A] ++ sv) (τ ++ [.own []] ++ sx) := by simpa using J3
    exact J4.toW rfl hc hl
  let G : List T → List D → List T → Prop := dLc2Go tg.d tt fi1 tg1.d tt1 fe os os1 (fun ds ρ2 => Qd (.own ds) ρ2)
  have hτ2 : (τ ++ [T.own []]).length = (vs ++ [V.ref A]).length := by simp [hτ]
  refine ⟨fun i m H => m = its.length - i ∧ i ≤ its.length ∧ ∃ acc ρ, SS C σ H ρ (vs ++ [.ref A] ++ sv) (τ ++ [.own acc] ++ sx) ∧ wipeT ρ os = ρ ∧ G (its.drop i) acc ρ, ⟨_, rfl, Nat.zero_le _, [], _, I2, wipeT_idem _ _, q⟩, ?_⟩
  rintro i m H3 ⟨rfl, hle, acc, ρ3, I3, hw3, q3⟩
  have hτ3 : (τ ++ [T.own acc]).length = (vs ++ [V.ref A]).length := by simp [hτ]
  have I3w : SS C (wipe σ os) H3 ρ3 (vs ++ [.ref A] ++ sv) (τ ++ [.own acc] ++ sx) := by
    have := I3.toW (σ := wipe σ os) (own := os) (wipe_idem σ os).symm hc hl
    rwa [hw3] at this
  obtain ⟨st, go⟩ := wk i (wipe σ os) H3 ρ3 (vs ++ [.ref A]) (τ ++ [.own acc]) hτ3 I3w
  by_cases hlt : i < its.length
  · have e : its[i]? = some its[i] := List.getElem?_eq_getElem hlt
    obtain ⟨g1, y⟩ := go _ e
    let Nx : Hp → Prop := fun H' => ∃ acc ρ, SS C σ H' ρ (vs ++ [.ref A] ++ sv) (τ ++ [.own acc] ++ sx) ∧ wipeT ρ os = ρ ∧ G (its.drop (i + 1)) acc ρ
    refine .inr ⟨g1, Nx, fun H' ⟨acc, ρ', I', hw', q'⟩ => ⟨_, by omega, rfl, by omega, acc, ρ', I', hw', q'⟩, fun w H4 hy => ?_⟩
    have I4 := y w H4 hy
    rw [List.drop_eq_getElem_cons hlt] at q3
    have back : ∀ {σ2 : St} {H5 : Hp} {ρ5 : List T} {acc5 : List D}, wipe σ2 os = wipe σ os → SS C σ2 H5 ρ5 (vs ++ [.ref A] ++ sv) (τ ++ [.own acc5] ++ sx) → G (its.drop (i + 1)) acc5 (wipeT ρ5 os) → Nx H5 := fun {σ2 H5 ρ5 acc5} hw I5 q5 => ⟨acc5, _, I5.toW hw hc hl, wipeT_idem _ _, q5⟩
    have inner : ∀ (σ5 : St) (hw : wipe σ5 os = wipe σ os) (H6 : Hp) (ρ6 : List T), SS C σ5 H6 ρ6 (vs ++ [.ref A] ++ sv) (τ ++ [.own acc] ++ sx) → (fi1 ρ6 fun its1 ρ3 => dLcGo tg1.d tt1 fe os1 (fun acc' ρ4 => G (its.drop (i + 1)) acc' (wipeT ρ4 os)) its1 acc (wipeT ρ3 os1)) →
        derI C fi1 σ5 H6 fun J1 H4 => ∃ W1 : Nat → Nat → Hp → Prop, (∃ m, W1 0 m H4) ∧ ∀ j k H, W1 j k H →
          (J1.stop j H ∧ Nx H) ∨ (J1.go j H ∧ ∃ Nx1 : Hp → Prop, (∀ H', Nx1 H' → ∃ k', k' < k ∧ W1 (j + 1) k' H') ∧ ∀ x H', J1.yld j H x H' → tg1.g C.K x (wipe σ5 os1) H' fun σ3 H5 => wipe σ3 os1 = wipe σ5 os1 ∧ derT C tt1 σ3 H5 fun b H6 =>
            if b = true then derE C fe σ3 H6 fun y H7 => ∃ acc, H7 A = some (.lst acc) ∧ acc.length < sizeLine ∧ Nx1 (upd H7 A (.lst (acc ++ [y]))) else Nx1 H6) := by
      intro σ5 hw H6 ρ6 I6 q6
      refine ⟨ρ6, _, _, _, I6, q6, fun J1 H7 sv1 sx1 its1 ρ7 I7 nx1 wk1 q7 => ?_⟩
      let G1 : List T → List D → List T → Prop := dLcGo tg1.d tt1 fe os1 (fun acc' ρ4 => G (its.drop (i + 1)) acc' (wipeT ρ4 os))
      have hs1 : sx1.length = sv1.length := by have := I7.ltE; simp at this; omega
      refine ⟨fun j k H => k = its1.length - j ∧ j ≤ its1.length ∧ ∃ acc ρ, SS C σ5 H ρ (vs ++ [.ref A] ++ sv ++ sv1) (τ ++ [.own acc] ++ sx ++ sx1) ∧ wipeT ρ os1 = ρ ∧ G1 (its1.drop j) acc ρ, ⟨_, rfl, Nat.zero_le _, acc, _, I7.toW rfl hc1 hl1, wipeT_idem _ _, q7⟩, ?_⟩
      rintro j kk H8 ⟨rfl, hle1, acc8, ρ8, I8, hw8, q8⟩
      have hτ8 : (τ ++ [T.own acc8] ++ sx).length = (vs ++ [V.ref A] ++ sv).length := by simp [hτ, hsx]
      have I8w : SS C (wipe σ5 os1) H8 ρ8 (vs ++ [.ref A] ++ sv ++ sv1) (τ ++ [.own acc8] ++ sx ++ sx1) := by
        have := I8.toW (σ := wipe σ5 os1) (own := os1) (wipe_idem σ5 os1).symm hc1 hl1
        rwa [hw8] at this
      obtain ⟨st1, go1⟩ := wk1 j (wipe σ5 os1) H8 ρ8 (vs ++ [.ref A] ++ sv) (τ ++ [.own acc8] ++ sx) hτ8 I8w
      by_cases hlt1 : j < its1.length
      · have e1 : its1[j]? = some its1[j] := List.getElem?_eq_getElem hlt1
        obtain ⟨g2, y1⟩ := go1 _ e1
        let Nx1 : Hp → Prop := fun H' => ∃ acc ρ, SS C σ5 H' ρ (vs ++ [.ref A] ++ sv ++ sv1) (τ ++ [.own acc] ++ sx ++ sx1) ∧ wipeT ρ os1 = ρ ∧ G1 (its1.drop (j + 1)) acc ρ
        refine .inr ⟨g2, Nx1, fun H' ⟨acc, ρ', I', hw', q'⟩ => ⟨_, by omega, rfl, by omega, acc, ρ', I', hw', q'⟩, fun w1 H9 hy1 => ?_⟩
        have I9 := y1 w1 H9 hy1
        rw [List.drop_eq_getElem_cons hlt1] at q8
        have back1 : ∀ {σ2 : St} {H5 : Hp} {ρ5 : List T} {acc5 : List D}, wipe σ2 os1 = wipe σ5 os1 → SS C σ2 H5 ρ5 (vs ++ [.ref A] ++ sv ++ sv1) (τ ++ [.own acc5] ++ sx ++ sx1) → G1 (its1.drop (j + 1)) acc5 (wipeT ρ5 os1) → Nx1 H5 := fun {σ2 H5 ρ5 acc5} hw I5 q5 => ⟨acc5, _, I5.toW hw hc1 hl1, wipeT_idem _ _, q5⟩
        have hgo := Tgt.sim (C := C) (tg := tg1) (fun i hi => h2 i (h4 i (h3 i hi))) (wipe σ5 os1) H9 ρ8 _ _ w1 its1[j] _ (fun σ2 H2 => ∀ (hw : wipe σ2 os1 = wipe σ5 os1), derT C tt1 σ2 H2 fun b H3 => if b = true then derE C fe σ2 H3 fun y H4 => ∃ acc, H4 A = some (.lst acc) ∧ acc.length < sizeLine ∧ Nx1 (upd H4 A (.lst (acc ++ [y]))) else Nx1 H3) I9 (tgd_na q8) q8 fun σA HA ρA IA qA hwA => ⟨ρA, _, _, _, IA, qA, fun b HB ρB IB qB => ?_⟩
        · have hon := Tgt.only (K := C.K) (own := os1) h3 hgo
          exact tgt_mono hon fun σ' H' ⟨hq, hw⟩ => ⟨by rw [hw, wipe_idem], hq (by rw [hw, wipe_idem])⟩
        · cases b with
          | true =>
            rw [if_pos rfl]
            refine ⟨ρB, _, _, _, IB, qB.t rfl, fun v7 HC x7 ρC IC qC => ?_⟩
            obtain ⟨d, ed, hlen, qC⟩ := wD_some qC
            have IC' : SS C σA HC ρC (vs ++ [.ref A] ++ (sv ++ sv1) ++ [v7]) (τ ++ [.own acc8] ++ (sx ++ sx1) ++ [x7]) := by simpa using IC
            obtain ⟨zs, hz, hzl, ID⟩ := IC'.grow hτ ed
            exact ⟨zs, hz, by omega, back1 hwA (by simpa using ID) qC⟩
          | false =>
            rw [if_neg (by decide)]
            exact back1 hwA IB (qB.f rfl)
      · have e1 : j = its1.length := by omega
        subst e1
        rw [List.drop_length] at q8
        exact .inl ⟨st1 (Nat.le_refl _), back hw (I8.drop hτ8) q8⟩
    have hgo := Tgt.sim (C := C) (tg := tg) (fun i hi => h2 i (h1 i hi)) (wipe σ os) H4 ρ3 _ _ w its[i] _ (fun σ2 H2 => ∀ (hw : wipe σ2 os = wipe σ os), derT C tt σ2 H2 fun b H3 => if b = true then (derI C fi1 σ2 H3 fun J1 H4 => ∃ W1 : Nat → Nat → Hp → Prop, (∃ m, W1 0 m H4) ∧ ∀ j k H, W1 j k H →
          (J1.stop j H ∧ Nx H) ∨ (J1.go j H ∧ ∃ Nx1 : Hp → Prop, (∀ H', Nx1 H' → ∃ k', k' < k ∧ W1 (j + 1) k' H') ∧ ∀ x H', J1.yld j H x H' → tg1.g C.K x (wipe σ2 os1) H' fun σ3 H5 => wipe σ3 os1 = wipe σ2 os1 ∧ derT C tt1 σ3 H5 fun b H6 =>
            if b = true then derE C fe σ3 H6 fun y H7 => ∃ acc, H7 A = some (.lst acc) ∧ acc.length < sizeLine ∧ Nx1 (upd H7 A (.lst (acc ++ [y]))) else Nx1 H6)) else Nx H3) I4 (tgd_na q3) q3 fun σ5 H5 ρ5 I5 q5 hw => ⟨ρ5, _, _, _, I5, q5, fun b H6 ρ6 I6 q6 => ?_⟩
    · have hon := Tgt.only (K := C.K) (own := os) h1 hgo
      exact tgt_mono hon fun σ' H' ⟨hq, hw⟩ => ⟨by rw [hw, wipe_idem], hq (by rw [hw, wipe_idem])⟩
    · cases b with
      | true =>
        rw [if_pos rfl]
        exact inner σ5 hw H6 ρ6 I6 (q6.t rfl)
      | false =>
        rw [if_neg (by decide)]
        exact back hw I6 (q6.f rfl)
  · have e : i = its.length := by omega
    subst e
    rw [List.drop_length] at q3
    have I5 : SS C σ H3 ρ3 (vs ++ [.ref A]) (τ ++ [.own acc]) := I3.drop hτ3
    exact .inl ⟨st (Nat.le_refl _), k _ _ _ _ I5 q3⟩
theorem de_lc2 (hc : C.X.calm = true) (hN : C.X.N.Nodup) (hi : DPI C tge iter fi) (ok : BlkOk C.X.N C.X.env.scope scope own) (hg : TgtOk C tge tg scope) (hg1 : TgtOk C tge1 tg1 scope)
    (ht : ∀ (s : Shared) (H : Hp) (Cc : Addr) (cl : List (Str × Addr)) (fp : List Addr), DPTs (C.blk s H scope Cc cl fp) ifs tt) (hi1 : ∀ (s : Shared) (H : Hp) (Cc : Addr) (cl : List (Str × Addr)) (fp : List Addr), DPI (C.blk s H scope Cc cl fp) tge1 iter1 fi1)
    (ht1 : ∀ (s : Shared) (H : Hp) (Cc : Addr) (cl : List (Str × Addr)) (fp : List Addr), DPTs (C.blk s H scope Cc cl fp) ifs1 tt1) (he : ∀ (s : Shared) (H : Hp) (Cc : Addr) (cl : List (Str × Addr)) (fp : List Addr), DPE (C.blk s H scope Cc cl fp) elt fe)
    (h1 : ∀ i ∈ tg.sl, i ∈ own.map (·.2)) (h2 : ∀ i ∈ own.map (·.2), i ∉ C.lent ∧ i ∈ C.cv) (h3 : ∀ i ∈ tg1.sl, i ∈ os1) (h4 : ∀ i ∈ os1, i ∈ own.map (·.2)) (hs : ∀ x, foldedSetIterable iter C.X.env x = pure x := by intro _; rfl) (hs1 : ∀ env x, foldedSetIterable iter1 env x = pure x := by intro _ _; rfl) :
    DPE C (.ListComp elt [⟨tge, iter, ifs, 0⟩, ⟨tge1, iter1, ifs1, 0⟩] scope pos) (dLc2 fi tg.d tt fi1 tg1.d tt1 fe (own.map (·.2)) os1) :=
  let ⟨_, p, s⟩ := hi.ex
  ⟨_, pe_lc2 hc hN p ok h4 (fun s H Cc cl fp => hg.pg s H Cc cl fp) (fun s H Cc cl fp => pts_der (ht s H Cc cl fp)) (fun s H Cc cl fp => pi_der (hi1 s H Cc cl fp)) (fun s H Cc cl fp => hg1.pg s H Cc cl fp) (fun s H Cc cl fp => pts_der (ht1 s H Cc cl fp)) (fun s H Cc cl fp => pe_der (he s H Cc cl fp)) hs hs1, sim_lc2 s h1 h2 h3 h4⟩
end
end Ds
namespace Ds
open PySem L2
theorem TIsL.own_at {K : PySem.W.Frag} {B Bb : Addr → Prop} {σ : St} {H : Hp} : ∀ {us : List T} {zs : List V} {os : List Addr} {j : Nat} {ds : List D}, TIsL K B Bb σ H us zs os → us[j]? = some (.own ds) →
    ∃ l ls, zs[j]? = some (.ref l) ∧ H l = some (.lst ls) ∧ DIsL K B H ds ls ∧ l ∈ os ∧ (os.Nodup → ∀ (B' Bb' : Addr → Prop) (H' : Hp) (ds' : List D) (ls' : List V), (∀ b o, H b = some o → ¬ B b → H' b = some o ∧ ¬ B' b) → (∀ b o, H b = some o → ¬ Bb b → H' b = some o ∧ ¬ Bb' b) →
      (∀ b o, b ∈ os → b ≠ l → H b = some o → H' b = some o) → H' l = some (.lst ls') → DIsL K B' H' ds' ls' → TIsL K B' Bb' σ H' (us.set j (.own ds')) zs os)
  | [], _, _, _, _, _, e => by simp at e
  | t :: us, _, _, 0, ds, .cons (o1 := o1) (o2 := o2) r q, e => by
    simp at e; subst e
    obtain ⟨l, ls, rfl, h1, h2, rfl⟩ := r.own_inv
    refine ⟨l, ls, rfl, h1, h2, by simp, fun nd B' Bb' H' ds' ls' m1 m2 m3 h3 h4 => ?_⟩
    simp only [List.set_cons_zero]
    refine .cons (.own h3 h4) (q.move m1 m2 (fun b o hb eb => m3 b o (by simp [hb]) (fun z => ?_) eb) (.inl rfl))
    subst z
    simp only [List.cons_append, List.nil_append, List.nodup_cons] at nd
    exact nd.1 hb
  | t :: us, _, _, j + 1, ds, .cons (o1 := o1) (o2 := o2) r q, e => by
    obtain ⟨l, ls, h0, h1, h2, h3, h4⟩ := TIsL.own_at (j := j) q (by simpa using e)
    refine ⟨l, ls, by simpa using h0, h1, h2, by simp [h3], fun nd B' Bb' H' ds' ls' m1 m2 m3 h5 h6 => ?_⟩
    rw [List.nodup_append] at nd
    simp only [List.set_cons_succ]
    refine .cons (r.move m1 m2 (fun b o hb eb => m3 b o (by simp [hb]) (fun z => ?_) eb) (.inl rfl)) (h4 nd.2.1 B' Bb' H' ds' ls' m1 m2 (fun b o hb => m3 b o (by simp [hb])) h5 h6)
    subst z
    exact nd.2.2 b hb b h3 rfl
section
variable {C : Ctx} {σ : St} {H : Hp} {ρ : List T} {vs : List V} {τ : List T} {i j : Nat} {ds : List D} {us : List T}
theorem TIs.lst_inv {K : PySem.W.Frag} {B Bb : Addr → Prop} {σ : St} {H : Hp} {v : V} : ∀ {os : List Addr}, TIs K B Bb σ H (.lst us) v os → ∃ a zs o, v = .ref a ∧ H a = some (.lst zs) ∧ TIsL K B Bb σ H us zs o ∧ os = a :: o
  | _, .lst h t => ⟨_, _, _, rfl, h, t, rfl⟩
theorem SS.mutN (I : SS C σ H ρ vs τ) (ei : ρ[i]? = some (.lst us)) (ej : us[j]? = some (.own ds)) : ∃ l0 zs0 l zs, σ[i]? = some (some (.ref l0)) ∧ H l0 = some (.lst zs0) ∧ zs0[j]? = some (.ref l) ∧ us.length = zs0.length ∧ H l = some (.lst zs) ∧ DIsL C.K N0 H ds zs ∧
    ∀ ds' zs', (∀ B', DIsL C.K B' H ds zs → DIsL C.K B' H ds' zs') → SS C σ (upd H l (.lst zs')) (ρ.set i (.lst (us.set j (.own ds')))) vs τ := by
  obtain ⟨ow, I⟩ := I
  have hi : i < ρ.length := (List.getElem?_eq_some_iff.mp ei).1
  rcases I.slot ei with z | ⟨v, hv, r⟩
  · cases z
  · obtain ⟨l0, zs0, o0, rfl, h0, t0, eo⟩ := r.lst_inv
    obtain ⟨l, zs, e1, e2, e3, e4, e5⟩ := t0.own_at ej
    have nd := I.nd i
    rw [eo, List.nodup_cons] at nd
    have lne : l0 ≠ l := fun z => nd.1 (z ▸ e4)
    refine ⟨l0, zs0, l, zs, hv, h0, e1, t0.length, e2, e3.free, fun ds' zs' nw => ⟨ow, ?_⟩⟩
    have lb : ∀ b o, H b = some o → ¬ Bar C ow b → b ≠ l := fun b o _ n z => n (.inl ⟨i, by rw [eo, z]; simp [e4]⟩)
    refine I.next (S := fun k => k = i) (by simp [I.ln]) I.lt (noAliL_set I.na (by
        have := noAliL_iff.mp I.na i _ ei
        simp only [noAli] at this ⊢
        exact noAliL_set this rfl)) (fun k _ => rfl) (fun k u hk e => ?_) (by simp) (fun b o e hb => ?_) (fun b z => ?_) (fun k a hk h => ?_) (fun m1 m2 k u hk e => ?_) (fun k hk => I.nd k) (fun j k a hj hk hjk h => I.dj j k a hjk h) (fun k a hk h => ?_) fun _ _ => rfl
    · refine ⟨?_, rfl, .inl rfl⟩
      by_cases z : k < ρ.length
      · rw [List.getElem?_append_left (by simpa using z), List.getElem?_set_ne (Ne.symm hk)] at e
        rw [List.getElem?_append_left z]; exact e
      · rw [List.getElem?_append_right (by simp; omega), List.length_set] at e
        rw [List.getElem?_append_right (by omega)]; exact e
    · have : b ≠ l := fun z => hb i rfl (by rw [eo, z]; simp [e4])
      rw [upd_ne this]; exact e
    · by_cases q : b = l
      · subst q; rw [upd_same]; simp
      · rw [upd_ne q]; exact z
    · exact .inl ⟨k, hk, h⟩
    · subst hk
      rw [List.getElem?_append_left (by simpa using hi), List.getElem?_set_self hi] at e
      cases e
      refine .inr ⟨.ref l0, by rw [List.getElem?_append_left (by rw [← I.ln]; exact hi)]; exact hv, ?_⟩
      rw [eo]
      have mv : ∀ b o, H b = some o → ¬ Bar C ow b → upd H l (.lst zs') b = some o ∧ ¬ Bar C ow b := fun b o e n => ⟨by rw [upd_ne (lb b o e n)]; exact e, n⟩
      exact .lst (by rw [upd_ne lne]; exact h0) (e5 nd.2 _ _ _ ds' zs' m1 m2 (fun b o _ hb eb => by rw [upd_ne hb]; exact eb) upd_same ((nw _ e3).move mv))
    · by_cases q : a = l
      · subst q; exact ⟨_, upd_same, trivial⟩
      · obtain ⟨o, e, c⟩ := I.ot k a h
        exact ⟨o, by rw [upd_ne q]; exact e, c⟩
end
/-- x[j].append(d), d a scalar -/
def dAppN (i j : Nat) (d : D) : DE := fun ρ Q => match ρ[i]? with
  | some (.lst us) => match us[j]? with
    | some (.own ds) => ds.length < sizeLine ∧ Q (.dat .none) (ρ.set i (.lst (us.set j (.own (ds ++ [d])))))
    | _ => False
  | _ => False
section
variable {C : Ctx} {i j : Nat} {x : Str} {e : Expr} {d : D} {v : V} {p p2 p3 apos cpos : Pos} {jt : Nat}
theorem de_appN (i j : Nat) (hsv : sv d = some v) (hN : C.X.N[i]? = some x) (hv : Vis C.X.env.scope x) (ha : PE C.X e (tC v))
    (hd : (x == ("__debug__" : Str)) = false := by decide) (hcd : (x == ("__classdict__" : Str)) = false := by decide)
    (hbase : attributeBase (.Subscript (.Name x p) (.Constant (.int j) jt p2) p3) "append" C.X.env (eval (.Subscript (.Name x p) (.Constant (.int j) jt p2) p3) C.X.env) = eval (.Subscript (.Name x p) (.Constant (.int j) jt p2) p3) C.X.env := by rfl)
    (hfew : ((backTo cpos (starEach [e] C.X.env)).all (fun x => !x.1) && (backToKw cpos (keywordEach [] C.X.env)).all (fun x => x.1.isSome)
      && decide (([e] : List Expr).length + ([] : List Keyword).length + (if ([] : List Keyword).isEmpty then 0 else 1) < 30)) = true := by rfl)
    (hline : (apos.endLine == cpos.line) = true := by rfl) (hs : starEach [e] C.X.env = (false, eval e C.X.env) :: starEach [] C.X.env := by rfl) (hplain : (backTo cpos (starEach [] C.X.env)).any (·.1) = false := by rfl) :
    DPE C (.Call (.Attribute (.Subscript (.Name x p) (.Constant (.int j) jt p2) p3) "append" apos) [e] [] cpos) (dAppN i j d) :=
  ⟨_, pe_bm PySem.F.plainAttrs_list PySem.F.slot_list_append PySem.F.type_list_append mt_append (pe_ix ix_list (pe_var hN hv hd hcd) pe_int (fun _ _ => rfl)) (pa_cons ha pa_nil hs) hbase hfew hline hs hplain, fun σ H ρ vs τ Qd Q I q k => by
    unfold dAppN at q
    cases e1 : ρ[i]? with
    | none => rw [e1] at q; exact q.elim
    | some t =>
      rw [e1] at q
      cases t <;> first | exact q.elim | skip
      rename_i us
      dsimp only at q
      cases e2 : us[j]? with
      | none => rw [e2] at q; exact q.elim
      | some t =>
        rw [e2] at q
        cases t <;> first | exact q.elim | skip
        rename_i ds
        obtain ⟨l0, zs0, l, zs, h1, h2, h3, h4, h5, h6, h7⟩ := I.mutN e1 e2
        refine ⟨.ref l0, h1, l0, zs0, j, .ref l, rfl, rfl, .of h2, atI_nat h3, .inl ⟨rfl, zs, .of h5⟩, l, zs, v, rfl, rfl, h5, by rw [← h6.length]; exact q.1, ?_⟩
        exact k _ _ _ _ ((h7 (ds ++ [d]) (zs ++ [v]) fun B' a => a.snoc (sv_is hsv)).non) q.2⟩
end
/-- a new list whose items keep what they own -/
def dLstK (f : DA) : DE := fun ρ Q => f ρ fun ts ρ' => match small 1000 ts with
  | true => Q (mkLK ts) ρ'
  | false => False
theorem de_lstK {C : Ctx} {es : List Expr} {fs : DA} {pos : Pos} (h : DPA C es fs) : DPE C (.List es pos) (dLstK fs) :=
  let ⟨_, pa, sa⟩ := h.ex
  ⟨_, pe_lst pa, fun σ H ρ vs τ Qd Q I q k => sa σ H ρ vs τ _ _ I q fun xs H1 ts ρ1 I1 hl q1 => by
    obtain ⟨z, q1⟩ := small_ok q1
    refine ⟨by omega, fun p hp => ?_⟩
    obtain ⟨ow, J⟩ := id I1
    exact k _ _ _ _ (J.dispLK (I1.lenA hl) hp) q1⟩
/-- ==, of data that is the same -/
theorem eqv_self (d : D) (h : d.canLay0 = true) : PyData.eqv d d = true := SeqAt.eqv_refl d h
theorem Lay.eqv {k : Nat} {d : D} (h : Lay k d) : PyData.eqv d d = true := SeqAt.eqv_refl d h.cl
end Ds
namespace Ds
open PySem L2
theorem lc_genA {α : Type} {g : DG} {tt : DTt} {fe : DE} {own : List Nat} {K : List D → List T → Prop} {ρ : List T} (its : List α) (acc : List D) (tg : α → T) (st : α → List T) (p : α → Bool) (gv : α → D) (hs : ∀ a ∈ its, wipeT (st a) own = ρ)
    (hg : ∀ a ∈ its, ∀ Q : List T → Prop, Q (st a) → g (tg a) ρ Q) (hl : acc.length + its.length ≤ sizeLine)
    (he : ∀ a ∈ its, ∀ (P : T → List T → Prop) (R : List T → Prop), (p a = true → ∀ y, frz y = some (gv a) → P y (st a)) → (p a = false → R (st a)) → tt (st a) fun b ρ2 => br b (fe ρ2 P) (R ρ2))
    (hk : K (acc ++ (its.filter p).map gv) ρ) : dLcGo g tt fe own K (its.map tg) acc ρ := by
  induction its generalizing acc with
  | nil => show K acc ρ; simpa using hk
  | cons a l ih =>
    have ha : a ∈ a :: l := List.mem_cons_self ..
    have up : ∀ b ∈ l, b ∈ a :: l := fun b hb => List.mem_cons_of_mem _ hb
    show g (tg a) ρ _
    refine hg a ha _ (he a ha _ _ (fun hp y hy => wD_i hy ⟨by simp at hl; omega, ?_⟩) fun hp => ?_)
    · rw [hs a ha]
      refine ih (acc ++ [gv a]) (fun b hb => hs b (up b hb)) (fun b hb => hg b (up b hb)) (by simp at hl ⊢; omega) (fun b hb => he b (up b hb)) ?_
      rw [List.filter_cons, if_pos hp] at hk
      simpa using hk
    · rw [hs a ha]
      refine ih acc (fun b hb => hs b (up b hb)) (fun b hb => hg b (up b hb)) (by simp at hl ⊢; omega) (fun b hb => he b (up b hb)) ?_
      rw [List.filter_cons, if_neg (by rw [hp]; decide)] at hk
      exact hk
theorem lc2_mp {α β : Type} {g g1 : DG} {fi1 : DI} {fe : DE} {own own1 : List Nat} {K : List D → List T → Prop} {ρ : List T} (its : List α) (tg : α → T) (st : α → List T) (inn : α → List β) (tg1 : α → β → T) (st1 : α → β → List T) (gv : α → β → D)
    (hg : ∀ a ∈ its, ∀ Q : List T → Prop, Q (st a) → g (tg a) ρ Q) (hi : ∀ a ∈ its, ∀ Q : List T → List T → Prop, Q ((inn a).map (tg1 a)) (st a) → fi1 (st a) Q) (hw : ∀ a ∈ its, wipeT (st a) own1 = st a) (hso : ∀ a ∈ its, wipeT (st a) own = ρ)
    (hs1 : ∀ a ∈ its, ∀ b ∈ inn a, wipeT (st1 a b) own1 = st a) (hg1 : ∀ a ∈ its, ∀ b ∈ inn a, ∀ Q : List T → Prop, Q (st1 a b) → g1 (tg1 a b) (st a) Q)
    (he : ∀ a ∈ its, ∀ b ∈ inn a, ∀ P : T → List T → Prop, (∀ y, frz y = some (gv a b) → P y (st1 a b)) → fe (st1 a b) P) (hl : (its.map fun a => (inn a).length).sum ≤ sizeLine)
    (hk : K (its.flatMap fun a => (inn a).map (gv a)) ρ) : dLc2Go g dYes fi1 g1 dYes fe own own1 K (its.map tg) [] ρ := by
  have go : ∀ (its : List α) (acc : List D), (∀ a ∈ its, ∀ Q : List T → Prop, Q (st a) → g (tg a) ρ Q) → (∀ a ∈ its, ∀ Q : List T → List T → Prop, Q ((inn a).map (tg1 a)) (st a) → fi1 (st a) Q) → (∀ a ∈ its, wipeT (st a) own1 = st a) → (∀ a ∈ its, wipeT (st a) own = ρ) →
      (∀ a ∈ its, ∀ b ∈ inn a, wipeT (st1 a b) own1 = st a) → (∀ a ∈ its, ∀ b ∈ inn a, ∀ Q : List T → Prop, Q (st1 a b) → g1 (tg1 a b) (st a) Q) →
      (∀ a ∈ its, ∀ b ∈ inn a, ∀ P : T → List T → Prop, (∀ y, frz y = some (gv a b) → P y (st1 a b)) → fe (st1 a b) P) → (acc.length + (its.map fun a => (inn a).length).sum ≤ sizeLine) → K (acc ++ its.flatMap fun a => (inn a).map (gv a)) ρ →
      dLc2Go g dYes fi1 g1 dYes fe own own1 K (its.map tg) acc ρ := by
    intro its
    induction its with
    | nil => intro acc _ _ _ _ _ _ _ _ hk; show K acc ρ; simpa using hk
    | cons a l ih =>
      intro acc hg hi hw hso hs1 hg1 he hl hk
      have ha : a ∈ a :: l := List.mem_cons_self ..
      have up : ∀ b ∈ l, b ∈ a :: l := fun b hb => List.mem_cons_of_mem _ hb
      simp only [List.map_cons, List.sum_cons] at hl
      show g (tg a) ρ _
      refine hg a ha _ (br_t rfl (hi a ha _ ?_))
      rw [hw a ha]
      refine lc_genA (inn a) acc (tg1 a) (st1 a) (fun _ => true) (gv a) (hs1 a ha) (hg1 a ha) (by omega) (fun b hb P R hp _ => br_t rfl (he a ha b hb P fun y hy => hp rfl y hy)) ?_
      rw [filter_true, hso a ha]
      refine ih _ (fun b hb => hg b (up b hb)) (fun b hb => hi b (up b hb)) (fun b hb => hw b (up b hb)) (fun b hb => hso b (up b hb)) (fun b hb => hs1 b (up b hb)) (fun b hb => hg1 b (up b hb)) (fun b hb => he b (up b hb)) (by simp; omega) ?_
      rw [List.flatMap_cons, ← List.append_assoc] at hk
      exact hk
  exact go its [] hg hi hw hso hs1 hg1 he (by simpa using hl) (by simpa using hk)
end Ds
namespace Ds
open PySem L2
abbrev DKv := List (Key × D)
def valD (ps : DKv) (k : Key) : Option D := (ps.find? fun p => decide (p.1 = k)).map (·.2)
def putD (ps : DKv) (k : Key) (d : D) : DKv := match ps.any fun p => decide (p.1 = k) with
  | true => ps.map fun p => if p.1 = k then (p.1, d) else p
  | false => ps ++ [(k, d)]
inductive DKs (K : PySem.W.Frag) (B : Addr → Prop) (H : Hp) : DKv → List (Key × V) → Prop
  | nil : DKs K B H [] []
  | cons {k : Key} {d : D} {v : V} {ps : DKv} {kvs : List (Key × V)} : DIs K B H d v → DKs K B H ps kvs → DKs K B H ((k, d) :: ps) ((k, v) :: kvs)
section
variable {K : PySem.W.Frag} {B B' : Addr → Prop} {H H' : Hp}
theorem DKs.length : ∀ {ps : DKv} {kvs : List (Key × V)}, DKs K B H ps kvs → ps.length = kvs.length
  | _, _, .nil => rfl
  | _, _, .cons _ t => congrArg (· + 1) (DKs.length t)
theorem DKs.move (h1 : ∀ b o, H b = some o → ¬ B b → H' b = some o ∧ ¬ B' b) : ∀ {ps : DKv} {kvs : List (Key × V)}, DKs K B H ps kvs → DKs K B' H' ps kvs
  | _, _, .nil => .nil
  | _, _, .cons d t => .cons (d.move h1) (DKs.move h1 t)
theorem DKs.of_zip : ∀ {kvs : List (Key × V)} {ds : List D}, DIsL K B H ds (kvs.map (·.2)) → DKs K B H ((kvs.map (·.1)).zip ds) kvs
  | [], [], _ => .nil
  | (k, v) :: kvs, d :: ds, .cons h t => .cons h (DKs.of_zip t)
theorem DKs.to_zip : ∀ {kvs : List (Key × V)} {ps : DKv}, DKs K B H ps kvs → ∃ ds, DIsL K B H ds (kvs.map (·.2)) ∧ ps = (kvs.map (·.1)).zip ds
  | [], _, .nil => ⟨[], .nil, rfl⟩
  | (k, v) :: kvs, _, .cons h t => by
    obtain ⟨ds, h1, h2⟩ := DKs.to_zip t
    exact ⟨_ :: ds, .cons h h1, by rw [h2]; rfl⟩
theorem DKs.get {k : Key} : ∀ {ps : DKv} {kvs : List (Key × V)}, DKs K B H ps kvs → (∀ d, valD ps k = some d → ∃ v, valV kvs k = some v ∧ DIs K B H d v) ∧ (valD ps k).isSome = (valV kvs k).isSome
  | _, _, .nil => ⟨fun d e => by simp [valD] at e, rfl⟩
  | _, _, .cons (k := j) (d := d) (v := v) (ps := ps) (kvs := kvs) h t => by
    obtain ⟨h1, h2⟩ := DKs.get (k := k) t
    by_cases e : j = k
    · have e1 : valD ((j, d) :: ps) k = some d := by simp [valD, List.find?_cons, e]
      rw [e1, valV_pos (p := (j, v)) e]
      exact ⟨fun x hx => by cases hx; exact ⟨v, rfl, h⟩, rfl⟩
    · have e1 : valD ((j, d) :: ps) k = valD ps k := by simp [valD, List.find?_cons, e]
      rw [e1, valV_neg (p := (j, v)) e]
      exact ⟨h1, h2⟩
theorem DKs.any {k : Key} : ∀ {ps : DKv} {kvs : List (Key × V)}, DKs K B H ps kvs → (ps.any fun p => decide (p.1 = k)) = kvs.any fun p => decide (p.1 = k)
  | _, _, .nil => rfl
  | _, _, .cons h t => by rw [List.any_cons, List.any_cons, DKs.any t]
theorem DKs.snoc {k : Key} {d : D} {v : V} (q : DIs K B H d v) : ∀ {ps : DKv} {kvs : List (Key × V)}, DKs K B H ps kvs → DKs K B H (ps ++ [(k, d)]) (kvs ++ [(k, v)])
  | _, _, .nil => .cons q .nil
  | _, _, .cons h t => .cons h (DKs.snoc q t)
theorem DKs.mapk {k : Key} {d : D} {v : V} (q : DIs K B H d v) : ∀ {ps : DKv} {kvs : List (Key × V)}, DKs K B H ps kvs → DKs K B H (ps.map fun p => if p.1 = k then (p.1, d) else p) (kvs.map fun p => if p.1 = k then (p.1, v) else p)
  | _, _, .nil => .nil
  | _, _, .cons (k := j) h t => by
    rw [List.map_cons, List.map_cons]
    by_cases e : j = k
    · rw [if_pos e, if_pos e]; exact .cons q (DKs.mapk q t)
    · rw [if_neg e, if_neg e]; exact .cons h (DKs.mapk q t)
theorem DKs.put {k : Key} {d : D} {v : V} {ps : DKv} {kvs : List (Key × V)} (h : DKs K B H ps kvs) (q : DIs K B H d v) : DKs K B H (putD ps k d) (putK kvs k v) := by
  unfold putD putK
  rw [← h.any]
  cases e : (ps.any fun p => decide (p.1 = k)) with
  | true => rw [if_pos rfl]; exact h.mapk q
  | false => rw [if_neg (by decide)]; exact h.snoc q
theorem TIs.dct_inv {Bb : Addr → Prop} {σ : St} {ps : DKv} {v : V} : ∀ {os : List Addr}, TIs K B Bb σ H (.dct ps) v os → ∃ a kvs, v = .ref a ∧ H a = some (.dK kvs) ∧ DKs K B H ps kvs ∧ os = [a]
  | _, .dct h t q => ⟨_, _, rfl, h, by subst q; exact .of_zip t, rfl⟩
theorem TIs.dctK {Bb : Addr → Prop} {σ : St} {ps : DKv} {a : Addr} {kvs : List (Key × V)} (h : H a = some (.dK kvs)) (q : DKs K B H ps kvs) : TIs K B Bb σ H (.dct ps) (.ref a) [a] :=
  let ⟨_, h1, h2⟩ := q.to_zip; .dct h h1 h2
end
section
variable {C : Ctx} {σ : St} {H : Hp} {ρ : List T} {vs xs : List V} {τ ts : List T} {i : Nat} {ps : DKv}
theorem SS.mutD (I : SS C σ H ρ (vs ++ xs) (τ ++ ts)) (hτ : τ.length = vs.length) (ei : ρ[i]? = some (.dct ps)) :
    ∃ l zs, σ[i]? = some (some (.ref l)) ∧ H l = some (.dK zs) ∧ zs.length = ps.length ∧ DKs C.K N0 H ps zs ∧ ∀ ps' zs' es ys, (∀ B', DKs C.K B' H ps zs → (∀ (j : Nat) (x : T) (v : V) (d : D), ts[j]? = some x → xs[j]? = some v → frz x = some d → DIs C.K B' H d v) → DKs C.K B' H ps' zs' ∧ DIsL C.K B' H es ys) →
      SS C σ (upd H l (.dK zs')) (ρ.set i (.dct ps')) (vs ++ ys) (τ ++ es.map .dat) := by
  obtain ⟨ow, I⟩ := I
  have hlt := I.lt
  simp at hlt
  have hts : ts.length = xs.length := by omega
  have hi : i < ρ.length := (List.getElem?_eq_some_iff.mp ei).1
  let m := ρ.length + τ.length
  rcases I.slot ei with z | ⟨v, hv, r⟩
  · cases z
  · have own_inv : ∃ l zs, v = .ref l ∧ H l = some (.dK zs) ∧ DKs C.K (Bar C ow) H ps zs ∧ ow i = [l] := by
      obtain ⟨a, zs, ea, e, q, eo⟩ := r.dct_inv
      exact ⟨a, zs, ea, e, q, eo⟩
    obtain ⟨l, zs, rfl, hz, dz, on⟩ := own_inv
    refine ⟨l, zs, hv, hz, dz.length.symm, dz.move fun _ _ e _ => ⟨e, id⟩, fun ps' zs' es ys nw => ?_⟩
    have lb : ∀ k, k ≠ i → l ∉ ow k := fun k hk q => I.dj i k l (Ne.symm hk) (by rw [on]; simp) q
    let ow' : Nat → List Addr := fun k => if k = i then [l] else if m ≤ k then [] else ow k
    have owi : ow' i = [l] := if_pos rfl
    have barN : ∀ b, Bar C ow' b → b = l ∨ (∃ k, k ≠ i ∧ k < m ∧ b ∈ ow k) ∨ C.B0 b := fun b z => by
      rcases z with ⟨k, z⟩ | z
      · have z : b ∈ (if k = i then [l] else if m ≤ k then [] else ow k) := z
        split at z
        · exact .inl (by simpa using z)
        · split at z
          · simp at z
          · exact .inr (.inl ⟨k, by assumption, by omega, z⟩)
      · exact .inr (.inr z)
    have lN : Bar C ow' l := .inl ⟨i, by rw [owi]; simp⟩
    have him : i < m := by simp [m]; omega
    -- the elements, at the new barrier, in the old heap
    have old : ∀ b o, H b = some o → ¬ Bar C ow b → ¬ Bar C ow' b := fun b o e n z => by
      rcases barN b z with rfl | ⟨k, _, _, h3⟩ | h
      · exact n (.inl ⟨i, by rw [on]; simp⟩)
      · exact n (.inl ⟨k, h3⟩)
      · exact n (.inr h)
    have q1 : DKs C.K (Bar C ow') H ps zs := dz.move fun b o e n => ⟨e, old b o e n⟩
    have q2 : ∀ (j : Nat) (x : T) (v : V) (d : D), ts[j]? = some x → xs[j]? = some v → frz x = some d → DIs C.K (Bar C ow') H d v := fun j x v d e1 e2 e3 => by
      have et : (τ ++ ts)[τ.length + j]? = some x := by rw [List.getElem?_append_right (by omega)]; simpa using e1
      obtain ⟨v', hv', r'⟩ := I.temp et
      rw [List.getElem?_append_right (by omega), show τ.length + j - vs.length = j by omega, e2] at hv'
      cases hv'
      refine r'.frz I.tupOk old (fun a ha z => ?_) e3
      rcases barN a z with rfl | ⟨k, h1, h2, h3⟩ | h
      · exact lb _ (by omega) ha
      · exact I.dj k (ρ.length + (τ.length + j)) a (by omega) h3 ha
      · exact I.nb0 ha h
    obtain ⟨n1, n2⟩ := nw _ q1 q2
    have mv : ∀ b o, H b = some o → ¬ Bar C ow' b → upd H l (.dK zs') b = some o ∧ ¬ Bar C ow' b := fun b o e nb => ⟨(by rw [upd_ne (fun z => nb (by rw [z]; exact lN))]; exact e), nb⟩
    have hey : es.length = ys.length := n2.length
    refine ⟨ow', I.next (S := fun k => k = i ∨ m ≤ k) (by rw [List.length_set]; exact I.ln) (by simp [hτ, hey]) (noAliL_set I.na rfl) (fun k hk => ?_) (fun k u hk e => ?_) (List.length_set ..) (fun b o e hb => ?_) (fun b z => ?_)
      (fun k a hk h => ?_) (fun m1 m2 k u hk e => ?_) (fun k hk => ?_) (fun j k a hj hk hjk h => ?_) (fun k a hk h => ?_) (fun i hi => rfl)⟩
    · show (if k = i then [l] else if m ≤ k then [] else ow k) = ow k
      rw [if_neg (fun z => hk (.inl z)), if_neg (fun z => hk (.inr z))]
    · have h1 : k ≠ i := fun z => hk (.inl z)
      have h2 : k < m := by by_cases z : k < m; exact z; exact absurd (.inr (by omega)) hk
      refine ⟨?_, ?_, .inl rfl⟩
      · by_cases z : k < ρ.length
        · rw [List.getElem?_append_left (by simpa using z), List.getElem?_set_ne (Ne.symm h1)] at e
          rw [List.getElem?_append_left z]; exact e
        · rw [List.getElem?_append_right (by simp; omega), List.length_set, List.getElem?_append_left (by simp [m] at h2; omega)] at e
          rw [List.getElem?_append_right (by omega), List.getElem?_append_left (by simp [m] at h2; omega)]; exact e
      · have z : k < (σ ++ List.map some vs).length := by simp [← I.ln, ← hτ]; omega
        rw [List.map_append, List.map_append, ← List.append_assoc, ← List.append_assoc, List.getElem?_append_left z, List.getElem?_append_left z]
    · have : b ≠ l := fun z => hb i (.inl rfl) (by rw [on, z]; simp)
      rw [upd_ne this]; exact e
    · by_cases q : b = l
      · subst q; rw [upd_same]; simp
      · rw [upd_ne q]; exact z
    · have h : a ∈ (if k = i then [l] else if m ≤ k then [] else ow k) := h
      split at h
      · simp at h; subst h; exact .inl ⟨i, .inl rfl, by rw [on]; simp⟩
      · split at h
        · simp at h
        · exact absurd hk (fun z => z.elim (by assumption) (by assumption))
    · refine .inr ?_
      rcases hk with rfl | hk
      · rw [List.getElem?_append_left (by simpa using hi), List.getElem?_set_self hi] at e
        cases e
        refine ⟨.ref l, ?_, ?_⟩
        · rw [List.getElem?_append_left (by rw [← I.ln]; exact hi)]; exact hv
        · rw [owi]
          exact TIs.dctK upd_same (n1.move mv)
      · have e2 : (List.map T.dat es)[k - m]? = some u := by
          rw [List.getElem?_append_right (by simp; omega), List.length_set, List.getElem?_append_right (by omega)] at e
          rw [show k - m = k - ρ.length - τ.length by omega]; exact e
        rw [List.getElem?_map, Option.map_eq_some_iff] at e2
        obtain ⟨d, ed, rfl⟩ := e2
        obtain ⟨w, hw, rw1⟩ := n2.get ed
        have oe : ow' k = [] := by
          show (if k = i then [l] else if m ≤ k then [] else ow k) = []
          rw [if_neg (by omega), if_pos hk]
        refine ⟨w, ?_, ?_⟩
        · rw [List.map_append, ← List.append_assoc, List.getElem?_append_right (by simp [← I.ln, ← hτ]; omega)]
          simp only [List.length_append, List.length_map, ← I.ln, ← hτ]
          rw [List.getElem?_map, show k - (ρ.length + τ.length) = k - m from rfl, hw]
          rfl
        · rw [oe]
          exact .dat (rw1.move mv)
    · show (if k = i then [l] else if m ≤ k then [] else ow k).Nodup
      split
      · simp
      · split
        · exact List.nodup_nil
        · exact I.nd k
    · have h : a ∈ (if j = i then [l] else if m ≤ j then [] else ow j) := h
      show a ∉ (if k = i then [l] else if m ≤ k then [] else ow k)
      split at h
      · simp at h; subst h
        rw [if_neg (by omega)]
        split
        · simp
        · exact lb k (by omega)
      · split at h
        · simp at h
        · exact absurd hj (fun z => z.elim (by assumption) (by assumption))
    · have h : a ∈ (if k = i then [l] else if m ≤ k then [] else ow k) := h
      split at h
      · simp at h; subst h; exact ⟨_, upd_same, trivial⟩
      · split at h
        · simp at h
        · exact absurd hk (fun z => z.elim (by assumption) (by assumption))
end
/-- a key -/
def wK (o : Option D) (k : Key → Prop) : Prop := match o with
  | some (.int i) => k (.inl i)
  | some (.str x) => k (.inr x)
  | _ => False
theorem wK_some {o : Option D} {k : Key → Prop} (h : wK o k) : ∃ j, o = some (kD j) ∧ k j := by
  unfold wK at h
  split at h
  · exact ⟨.inl _, rfl, h⟩
  · exact ⟨.inr _, rfl, h⟩
  · exact h.elim
theorem kD_is {K : PySem.W.Frag} {B : Addr → Prop} {H : Hp} {j : Key} {v : V} (h : DIs K B H (kD j) v) : v = kV j := by
  cases j with
  | inl i => exact h.int_eq
  | inr x => exact h.str_eq
def sDct (ρ : List T) (i : Nat) (P : DKv → Prop) : Prop := match ρ[i]? with
  | some (.dct ps) => P ps
  | _ => False
theorem sDct_is {ρ : List T} {i : Nat} {P : DKv → Prop} (h : sDct ρ i P) : ∃ ps, ρ[i]? = some (.dct ps) ∧ P ps := by
  unfold sDct at h
  split at h
  · exact ⟨_, by assumption, h⟩
  · exact h.elim
def dDGet (i : Nat) (fk : DE) : DE := fun ρ Q => sDct ρ i fun _ => fk ρ fun x ρ1 => wK (lk ρ1 x) fun k => sDct ρ1 i fun ps => wO (valD ps k) fun d => Q (.dat d) ρ1
def dDIn (i : Nat) (fk : DE) : DE := fun ρ Q => fk ρ fun x ρ1 => wK (lk ρ1 x) fun k => sDct ρ1 i fun ps => Q (.dat (.bool (valD ps k).isSome)) ρ1
def dDNin (i : Nat) (fk : DE) : DE := fun ρ Q => fk ρ fun x ρ1 => wK (lk ρ1 x) fun k => sDct ρ1 i fun ps => Q (.dat (.bool (!(valD ps k).isSome))) ρ1
def dDPut (i : Nat) (fk fv : DE) : DS := fun D ρ => fv ρ fun y ρ1 => wD (frz y) fun d => sDct ρ1 i fun _ => fk ρ1 fun x ρ2 => wK (lk ρ2 x) fun k => sDct ρ2 i fun ps => ps.length < sizeLine ∧ D.nx (ρ2.set i (.dct (putD ps k d)))
def dDAug (i : Nat) (op : Int → Int → Int) (fk fv : DE) : DS := fun D ρ => sDct ρ i fun _ => fk ρ fun x ρ1 => wK (lk ρ1 x) fun k => sDct ρ1 i fun ps => wI (valD ps k) fun n => fv ρ1 fun y ρ2 => wI (lk ρ2 y) fun m => sDct ρ2 i fun ps2 => ps2.length < sizeLine ∧ D.nx (ρ2.set i (.dct (putD ps2 k (.int (op n m)))))
section
variable {C : Ctx} {i : Nat} {x : Str} {ek ev : Expr} {fk fv : DE} {p pos pos2 : Pos}
theorem SI.dct_at {σ : St} {H : Hp} {ρ : List T} {vs : List V} {τ : List T} {ow : Nat → List Addr} {ps : DKv} (J : SI C σ H ρ vs τ ow) (e : ρ[i]? = some (.dct ps)) : ∃ l kvs, σ[i]? = some (some (.ref l)) ∧ H l = some (.dK kvs) ∧ DKs C.K (Bar C ow) H ps kvs := by
  rcases J.slot e with z | ⟨v, hv, r⟩
  · cases z
  · obtain ⟨a, kvs, rfl, h1, h2, _⟩ := r.dct_inv
    exact ⟨a, kvs, hv, h1, h2⟩
theorem de_dget (i : Nat) (hu : C.X.A.units + 1 < cLine) (hN : C.X.N[i]? = some x) (hv : Vis C.X.env.scope x) (hk : DPE C ek fk) (hs : NoSl ek := by exact fun _ _ => rfl) (hd : (x == ("__debug__" : Str)) = false := by decide) (hcd : (x == ("__classdict__" : Str)) = false := by decide) : DPE C (.Subscript (.Name x p) ek pos) (dDGet i fk) :=
  let ⟨_, pk, sk⟩ := hk.ex
  ⟨_, pe_dget hu (pe_var hN hv hd hcd) pk hs, fun σ H ρ vs τ Qd Q I q k => by
    obtain ⟨ps0, e0, q⟩ := sDct_is q
    obtain ⟨ow, J⟩ := id I
    obtain ⟨l, kvs, h1, h2, _⟩ := J.dct_at e0
    refine ⟨.ref l, h1, sk σ H ρ vs τ _ _ I q fun v H1 y ρ1 I1 q1 => ?_⟩
    obtain ⟨j, ej, q1⟩ := wK_some q1
    obtain ⟨ps, e1, q1⟩ := sDct_is q1
    obtain ⟨d, ed, q1⟩ := wO_some q1
    have ekv := kD_is (I1.lk1 ej)
    subst ekv
    obtain ⟨ow1, J1⟩ := id I1
    obtain ⟨l', kvs', h1', h2', h3'⟩ := J1.dct_at e1
    rw [h1] at h1'; cases h1'
    obtain ⟨w, ew, dw⟩ := h3'.get.1 d ed
    refine ⟨l, w, rfl, by rw [← ew]; exact DGet.k h2', ?_⟩
    have J' : SI C σ H1 ρ1 (vs ++ [kV j]) (τ ++ [y]) ow1 := J1
    exact k _ _ _ _ (J'.oneD J1.lt1 dw) q1⟩
theorem din_core {σ : St} {H : Hp} {ρ : List T} {vs : List V} {τ : List T} {y : T} {v : V} {ps : DKv} {j : Key} (I : SS C σ H ρ (vs ++ [v]) (τ ++ [y])) (ej : lk ρ y = some (kD j)) (e : ρ[i]? = some (.dct ps)) : v = kV j ∧ ∃ l o, σ[i]? = some (some (.ref l)) ∧ DGet H l (kV j) o ∧ o.isSome = (valD ps j).isSome := by
  have ekv := kD_is (I.lk1 ej)
  obtain ⟨ow, J⟩ := id I
  obtain ⟨l, kvs, h1, h2, h3⟩ := J.dct_at e
  exact ⟨ekv, l, _, h1, DGet.k h2, h3.get.2.symm⟩
theorem de_din (i : Nat) (hu : C.X.A.units + 1 < cLine) (hN : C.X.N[i]? = some x) (hv : Vis C.X.env.scope x) (hk : DPE C ek fk) (hd : (x == ("__debug__" : Str)) = false := by decide) (hcd : (x == ("__classdict__" : Str)) = false := by decide)
    (hb : behindInMarks .In (.Name x p) = false := by rfl) : DPE C (.Compare ek [.In] [.Name x p] pos) (dDIn i fk) :=
  let ⟨_, pk, sk⟩ := hk.ex
  ⟨_, pe_cmp (pc_din hu pk (pe_var hN hv hd hcd)) hb, fun σ H ρ vs τ Qd Q I q k => sk σ H ρ vs τ _ _ I q fun v H1 y ρ1 I1 q1 => by
    obtain ⟨j, ej, q1⟩ := wK_some q1
    obtain ⟨ps, e1, q1⟩ := sDct_is q1
    obtain ⟨rfl, l, o, h1, h2, h3⟩ := din_core I1 ej e1
    refine ⟨.ref l, h1, l, o, rfl, h2, ?_⟩
    rw [h3]
    exact k _ _ _ _ (I1.pop.bool _) q1⟩
theorem de_dnin (i : Nat) (hu : C.X.A.units + 1 < cLine) (hN : C.X.N[i]? = some x) (hv : Vis C.X.env.scope x) (hk : DPE C ek fk) (hd : (x == ("__debug__" : Str)) = false := by decide) (hcd : (x == ("__classdict__" : Str)) = false := by decide)
    (hb : behindInMarks .NotIn (.Name x p) = false := by rfl) : DPE C (.Compare ek [.NotIn] [.Name x p] pos) (dDNin i fk) :=
  let ⟨_, pk, sk⟩ := hk.ex
  ⟨_, pe_cmp (pc_dnotin hu pk (pe_var hN hv hd hcd)) hb, fun σ H ρ vs τ Qd Q I q k => sk σ H ρ vs τ _ _ I q fun v H1 y ρ1 I1 q1 => by
    obtain ⟨j, ej, q1⟩ := wK_some q1
    obtain ⟨ps, e1, q1⟩ := sDct_is q1
    obtain ⟨rfl, l, o, h1, h2, h3⟩ := din_core I1 ej e1
    refine ⟨.ref l, h1, l, o, rfl, h2, ?_⟩
    rw [h3]
    exact k _ _ _ _ (I1.pop.bool _) q1⟩
theorem ds_dput (i : Nat) (hu : C.X.A.units + 1 < cLine) (hN : C.X.N[i]? = some x) (hv : Vis C.X.env.scope x) (hk : DPE C ek fk) (hval : DPE C ev fv) (hd : (x == ("__debug__" : Str)) = false := by decide) (hcd : (x == ("__classdict__" : Str)) = false := by decide)
    (hs : swapsWith ev (some (.Subscript (.Name x p) ek pos2)) pos.line C.X.env = pure false := by rfl) : DPS C (.Assign [.Subscript (.Name x p) ek pos2] ev pos) (dDPut i fk fv) :=
  let ⟨_, pk, sk⟩ := hk.ex; let ⟨_, pv, sv'⟩ := hval.ex
  ⟨_, ps_dput hu (pe_var hN hv hd hcd) pk pv hs, fun σ H ρ vs τ Dd D I na q k => sv' σ H ρ vs τ _ _ I q fun w H1 y ρ1 I1 q1 => by
    obtain ⟨d, ed, q1⟩ := wD_some q1
    obtain ⟨ps0, e0, q1⟩ := sDct_is q1
    obtain ⟨ow, J⟩ := id I1
    obtain ⟨l, kvs, h1, h2, _⟩ := J.dct_at e0
    refine ⟨.ref l, h1, sk σ H1 ρ1 _ _ _ _ I1 q1 fun v H2 z ρ2 I2 q2 => ?_⟩
    obtain ⟨j, ej, q2⟩ := wK_some q2
    obtain ⟨ps, e1, q2⟩ := sDct_is q2
    have ekv := kD_is (I2.lk1 ej)
    subst ekv
    have I3 : SS C σ H2 ρ2 (vs ++ [w, kV j]) (τ ++ [y, z]) := by simpa using I2
    obtain ⟨l', zs, h1', h2', h3', _, mk⟩ := I3.mutD (I3.lenA rfl) e1
    rw [h1] at h1'; cases h1'
    refine ⟨l, _, rfl, DPut.k h2' (by rw [h3']; exact q2.1), ?_⟩
    have I4 := mk (putD ps j d) (putK zs j w) [] [] fun B' a b => ⟨a.put (b 0 y w d rfl rfl ed), .nil⟩
    exact k.nx _ _ _ (by simpa using I4) q2.2⟩
theorem ds_daug (i : Nat) {op : Operator} {g : Int → Int → Int} {rd : V → V → Hp → VK → Prop} (hop : InOp C.X op rd) (hrd : ∀ (n m : Int) (H : Hp) (Q : VK), Q (.int (g n m)) H → rd (.int n) (.int m) H Q) (hu : C.X.A.units + 1 < cLine) (hN : C.X.N[i]? = some x) (hv : Vis C.X.env.scope x) (hk : DPE C ek fk) (hval : DPE C ev fv) (hd : (x == ("__debug__" : Str)) = false := by decide) (hcd : (x == ("__classdict__" : Str)) = false := by decide)
    (ha : ∀ ov iv new, augStore ek ov iv new = (do holding [new, ov, iv] (setItem ov iv new); release [new, ov, iv] []; pure .next) := by intros; rfl) : DPS C (.AugAssign (.Subscript (.Name x p) ek pos2) op ev pos) (dDAug i g fk fv) :=
  let ⟨_, pk, sk⟩ := hk.ex; let ⟨_, pv, sv'⟩ := hval.ex
  ⟨_, ps_daug hu (pe_var hN hv hd hcd) pk pv hop ha, fun σ H ρ vs τ Dd D I na q k => by
    obtain ⟨ps0, e0, q⟩ := sDct_is q
    obtain ⟨ow, J⟩ := id I
    obtain ⟨l, kvs, h1, h2, _⟩ := J.dct_at e0
    refine ⟨.ref l, h1, sk σ H ρ vs τ _ _ I q fun v H1 y ρ1 I1 q1 => ?_⟩
    obtain ⟨j, ej, q1⟩ := wK_some q1
    obtain ⟨ps, e1, q1⟩ := sDct_is q1
    obtain ⟨n, en, q1⟩ := wI_some q1
    have ekv := kD_is (I1.lk1 ej)
    subst ekv
    obtain ⟨ow1, J1⟩ := id I1
    obtain ⟨l', kvs', h1', h2', h3'⟩ := J1.dct_at e1
    rw [h1] at h1'; cases h1'
    obtain ⟨w, ew, dw⟩ := h3'.get.1 _ en
    have ewi := dw.int_eq
    subst ewi
    refine ⟨l, .int n, rfl, by rw [← ew]; exact DGet.k h2', ?_⟩
    refine sv' σ H1 ρ1 _ _ _ _ I1 q1 fun w2 H2 y2 ρ2 I2 q2 => ?_
    obtain ⟨m, em, q2⟩ := wI_some q2
    obtain ⟨ps2, e2, q2⟩ := sDct_is q2
    have em2 := (I2.lk1 em).int_eq
    subst em2
    refine hrd n m H2 _ ?_
    have I3 : SS C σ H2 ρ2 (vs ++ [kV j, .int m]) (τ ++ [y, y2]) := by simpa using I2
    obtain ⟨l', zs, h1', h2', h3', _, mk⟩ := I3.mutD (I3.lenA rfl) e2
    rw [h1] at h1'; cases h1'
    refine ⟨_, DPut.k h2' (by rw [h3']; exact q2.1), ?_⟩
    have I4 := mk (putD ps2 j (.int (g n m))) (putK zs j (.int (g n m))) [] [] fun B' a b => ⟨a.put (.int _), .nil⟩
    exact k.nx _ _ _ (by simpa using I4) q2.2⟩
end
end Ds
namespace Ds
open PySem L2
section
variable {C : Ctx} {σ : St} {H : Hp} {ρ : List T} {vs xs : List V} {τ ts : List T} {i : Nat} {acc : DKv} {l : Addr} {w : V} {x : T}
theorem SI.newD0 {ow : Nat → List Addr} (I : SI C σ H ρ (vs ++ xs) (τ ++ ts) ow) (hτ : τ.length = vs.length) {p : Addr} (hp : H p = none) : SS C σ (upd H p (.dK [])) ρ (vs ++ [.ref p]) (τ ++ [.dct []]) :=
  I.one hτ (same_upd hp) _ _ [p] (fun ow' m1 m2 _ => TIs.dctK upd_same .nil) (by simp) (fun a h => by simp at h; subst h; exact .inr hp) fun a h => by simp at h; subst h; exact ⟨_, upd_same, trivial⟩
theorem SS.growD (h : SS C σ H ρ (vs ++ [.ref l] ++ xs ++ [w]) (τ ++ [.dct acc] ++ ts ++ [x])) (hτ : τ.length = vs.length) {d : D} (hd : frz x = some d) (j : Key) :
    ∃ zs, H l = some (.dK zs) ∧ zs.length = acc.length ∧ SS C σ (upd H l (.dK (putK zs j w))) ρ (vs ++ [.ref l] ++ xs) (τ ++ [.dct (putD acc j d)] ++ ts) := by
  obtain ⟨ow, I⟩ := h
  have hl := I.lt
  simp at hl
  have hts : ts.length = xs.length := by omega
  let n := ρ.length + τ.length
  let m := ρ.length + (τ.length + 1 + ts.length)
  obtain ⟨v, hv, r⟩ := I.temp (j := τ.length) (t := .dct acc) (by simp)
  have ev : v = .ref l := by rw [hτ] at hv; simp at hv; exact hv.symm
  subst ev
  have rtop := I.top
  have em : ρ.length + (τ ++ [T.dct acc] ++ ts).length = m := by simp [m]; omega
  rw [em] at rtop
  have own_inv : ∃ zs, H l = some (.dK zs) ∧ DKs C.K (Bar C ow) H acc zs ∧ ow n = [l] := by
    obtain ⟨a, zs, ea, e, q, eo⟩ := r.dct_inv
    cases ea
    exact ⟨zs, e, q, eo⟩
  obtain ⟨zs, hz, dz, on⟩ := own_inv
  have lb : ∀ k, k ≠ n → l ∉ ow k := fun k hk q => I.dj n k l (Ne.symm hk) (by rw [on]; simp) q
  have hnm : n < m := by simp [n, m]; omega
  have low : ∀ (k : Nat) (α : Type) (A B E : List α), k < A.length → (A ++ B)[k]? = (A ++ E)[k]? := fun k α A B E h => by rw [List.getElem?_append_left h, List.getElem?_append_left h]
  let ow' : Nat → List Addr := fun k => if k = n then [l] else if k = m then [] else ow k
  have barN : ∀ b, Bar C ow' b → b = l ∨ (∃ k, k ≠ n ∧ k ≠ m ∧ b ∈ ow k) ∨ C.B0 b := fun b z => by
    rcases z with ⟨k, z⟩ | z
    · have z : b ∈ (if k = n then [l] else if k = m then [] else ow k) := z
      split at z
      · exact .inl (by simpa using z)
      · split at z
        · simp at z
        · exact .inr (.inl ⟨k, by assumption, by assumption, z⟩)
    · exact .inr (.inr z)
  have lN : Bar C ow' l := .inl ⟨n, by show l ∈ (if n = n then [l] else if n = m then [] else ow n); rw [if_pos rfl]; simp⟩
  refine ⟨zs, hz, dz.length.symm, ow', I.next (S := fun k => k = n ∨ m ≤ k) I.ln (by simp; omega) I.na (fun k hk => ?_) (fun k u hk e => ?_) rfl (fun b o e hb => ?_) (fun b z => ?_)
    (fun k a hk h => ?_) (fun m1 m2 k u hk e => ?_) (fun k hk => ?_) (fun i k a hj hk hjk h => ?_) (fun k a hk h => ?_) (fun i hi => rfl)⟩
  · show (if k = n then [l] else if k = m then [] else ow k) = ow k
    rw [if_neg (fun z => hk (.inl z)), if_neg (fun z => hk (.inr (by omega)))]
  · have h1 : k ≠ n := fun z => hk (.inl z)
    have h2 : k < m := by by_cases z : k < m; exact z; exact absurd (.inr (by omega)) hk
    refine ⟨?_, ?_, .inl rfl⟩
    · by_cases z : k < n
      · simp only [← List.append_assoc] at e ⊢
        rw [List.getElem?_append_left (by simp; omega), List.getElem?_append_left (by simp; omega)] at e
        rw [List.getElem?_append_left (by simp; omega), List.getElem?_append_left (by simp; omega), List.getElem?_append_left (by simp; omega)]
        exact e
      · simp only [← List.append_assoc] at e ⊢
        rw [List.getElem?_append_right (by simp; omega)] at e
        rw [List.getElem?_append_left (by simp; omega), List.getElem?_append_right (by simp; omega)]
        simpa using e
    · have z : k < (σ ++ List.map some (vs ++ [V.ref l] ++ xs)).length := by simp [← I.ln, ← hτ]; omega
      have e3 : (σ ++ List.map some (vs ++ [V.ref l] ++ xs ++ [w])) = (σ ++ List.map some (vs ++ [V.ref l] ++ xs)) ++ [some w] := by simp
      rw [e3]
      exact (List.getElem?_append_left z).symm
  · have : b ≠ l := fun z => hb n (.inl rfl) (by rw [on, z]; simp)
    rw [upd_ne this]; exact e
  · by_cases q : b = l
    · subst q; rw [upd_same]; simp
    · rw [upd_ne q]; exact z
  · have h : a ∈ (if k = n then [l] else if k = m then [] else ow k) := h
    split at h
    · simp at h; subst h; exact .inl ⟨n, .inl rfl, by rw [on]; simp⟩
    · split at h
      · simp at h
      · rename_i h1 h2
        exact .inl ⟨k, hk, h⟩
  · refine .inr ?_
    rcases hk with rfl | hk
    · have eu : u = .dct (putD acc j d) := by
        simp only [← List.append_assoc] at e
        rw [List.getElem?_append_left (by simp [n]), List.getElem?_append_right (by simp [n])] at e
        simp [n] at e; exact e.symm
      subst eu
      refine ⟨.ref l, ?_, ?_⟩
      · simp only [List.map_append, ← List.append_assoc]
        rw [List.getElem?_append_left (by simp [← I.ln, ← hτ, n]), List.getElem?_append_right (by simp [← I.ln, ← hτ, n])]
        simp [← I.ln, ← hτ, n]
      · show TIs _ _ _ _ _ _ _ (if n = n then [l] else if n = m then [] else ow n)
        rw [if_pos rfl]
        refine TIs.dctK upd_same ((dz.move m1).put ?_)
        have q : DIs C.K (Bar C ow') H d w := rtop.frz I.tupOk (fun b o e nb z => (m1 b o e nb).2 z) (fun a ha z => by
          rcases barN a z with rfl | ⟨k, h1, h2, h3⟩ | h
          · exact lb m (by omega) ha
          · exact I.dj k m a h2 h3 ha
          · exact I.nb0 ha h) hd
        exact q.move fun b o e nb => ⟨(by rw [upd_ne (fun z => nb (by rw [z]; exact lN))]; exact e), nb⟩
    · have : k < (ρ ++ (τ ++ [T.dct (putD acc j d)] ++ ts)).length := (List.getElem?_eq_some_iff.mp e).1
      simp at this
      omega
  · show (if k = n then [l] else if k = m then [] else ow k).Nodup
    split
    · simp
    · split
      · exact List.nodup_nil
      · exact I.nd k
  · have h : a ∈ (if i = n then [l] else if i = m then [] else ow i) := h
    show a ∉ (if k = n then [l] else if k = m then [] else ow k)
    split at h
    · simp at h; subst h
      rw [if_neg (by omega)]
      split
      · simp
      · exact lb k (by omega)
    · split at h
      · simp at h
      · split
        · simp only [List.mem_singleton]; intro z; exact lb i (by assumption) (by rw [← z]; exact h)
        · split
          · simp
          · exact I.dj i k a hjk h
  · have h : a ∈ (if k = n then [l] else if k = m then [] else ow k) := h
    split at h
    · simp at h; subst h; exact ⟨_, upd_same, trivial⟩
    · split at h
      · simp at h
      · obtain ⟨o, e, c⟩ := I.ot k a h
        rename_i h1 h2
        exact ⟨o, (by rw [upd_ne (fun z => lb k h1 (by rw [← z]; exact h))]; exact e), c⟩
end
def dDcGo (g : DG) (tt : DTt) (fk fv : DE) (own : List Nat) (K : DKv → List T → Prop) : List T → DKv → List T → Prop
  | [], acc, ρ => K acc ρ
  | t :: its, acc, ρ => g t ρ fun ρ1 => tt ρ1 fun b ρ2 => br b (fk ρ2 fun x ρ3 => wK (lk ρ3 x) fun j => fv ρ3 fun y ρ4 => wD (frz y) fun d => acc.length < sizeLine ∧ dDcGo g tt fk fv own K its (putD acc j d) (wipeT ρ4 own)) (dDcGo g tt fk fv own K its acc (wipeT ρ2 own))
def dDc (fi : DI) (g : DG) (tt : DTt) (fk fv : DE) (own : List Nat) : DE := fun ρ Q => fi ρ fun its ρ1 => dDcGo g tt fk fv own (fun ds ρ2 => Q (.dct ds) ρ2) its [] (wipeT ρ1 own)
section
variable {C : Ctx} {ek ev tge iter : Expr} {ifs : List Expr} {scope : Scope} {own : List (Str × Nat)} {pos : Pos} {fi : DI} {tt : DTt} {fk fv : DE} {tg : Tgt}
theorem sim_dc {wi : TI} (hi : SimI C wi fi) (h1 : ∀ i ∈ tg.sl, i ∈ own.map (·.2)) (h2 : ∀ i ∈ own.map (·.2), i ∉ C.lent ∧ i ∈ C.cv) :
    Sim C (tDc wi (tg.g C.K) (derT C tt) (derE C fk) (derE C fv) (own.map (·.2))) (dDc fi tg.d tt fk fv (own.map (·.2))) := fun σ H ρ vs τ Qd Q I h k => hi σ H ρ vs τ _ _ I h fun J H1 sv sx its ρ1 I1 nx wk q A hD => by
  let os := own.map (·.2)
  have hτ := I.ltE
  have hsx : sx.length = sv.length := by have := I1.ltE; simp at this; omega
  have hc : ∀ i ∈ os, i ∈ C.cv := fun i hi => (h2 i hi).2
  have hl : ∀ i ∈ os, i ∉ C.lent := fun i hi => (h2 i hi).1
  -- the new list under the sources
  have I2 : SS C σ (upd H1 A (.dK [])) (wipeT ρ1 os) (vs ++ [.ref A] ++ sv) (τ ++ [.dct []] ++ sx) := by
    obtain ⟨ow, J1⟩ := id I1
    have J2 : SS C σ (upd H1 A (.dK [])) ρ1 (vs ++ sv ++ [.ref A]) (τ ++ sx ++ [.dct []]) := by
      have J1' : SI C σ H1 ρ1 (vs ++ sv ++ []) (τ ++ sx ++ []) ow := by simpa using J1
      exact J1'.newD0 J1.lt hD
    have J3 := SS.under (vs := vs) (τ := τ) (sv := sv) (sx := sx) hsx (sv2 := []) (sx2 := []) rfl (by simpa using J2)
    have J4 : SS C σ (upd H1 A (.dK [])) ρ1 (vs ++ [.ref A] ++ sv) (τ ++ [.dct []] ++ sx) := by simpa using J3
    exact J4.toW rfl hc hl
  have hτ2 : (τ ++ [T.dct []]).length = (vs ++ [V.ref A]).length := by simp [hτ]
  refine ⟨fun i m H => m = its.length - i ∧ i ≤ its.length ∧ ∃ acc ρ, SS C σ H ρ (vs ++ [.ref A] ++ sv) (τ ++ [.dct acc] ++ sx) ∧ wipeT ρ os = ρ ∧ dDcGo tg.d tt fk fv os (fun ds ρ2 => Qd (.dct ds) ρ2) (its.drop i) acc ρ, ⟨_, rfl, Nat.zero_le _, [], _, I2, wipeT_idem _ _, q⟩, ?_⟩
  rintro i m H3 ⟨rfl, hle, acc, ρ3, I3, hw3, q3⟩
  have hτ3 : (τ ++ [T.dct acc]).length = (vs ++ [V.ref A]).length := by simp [hτ]
  have I3w : SS C (wipe σ os) H3 ρ3 (vs ++ [.ref A] ++ sv) (τ ++ [.dct acc] ++ sx) := by
    have := I3.toW (σ := wipe σ os) (own := os) (wipe_idem σ os).symm hc hl
    rwa [hw3] at this
  obtain ⟨st, go⟩ := wk i (wipe σ os) H3 ρ3 (vs ++ [.ref A]) (τ ++ [.dct acc]) hτ3 I3w
  by_cases hlt : i < its.length
  · have e : its[i]? = some its[i] := List.getElem?_eq_getElem hlt
    obtain ⟨g1, y⟩ := go _ e
    refine .inr ⟨g1, fun H' => ∃ acc ρ, SS C σ H' ρ (vs ++ [.ref A] ++ sv) (τ ++ [.dct acc] ++ sx) ∧ wipeT ρ os = ρ ∧ dDcGo tg.d tt fk fv os (fun ds ρ2 => Qd (.dct ds) ρ2) (its.drop (i + 1)) acc ρ, fun H' ⟨acc, ρ', I', hw', q'⟩ => ⟨_, by omega, rfl, by omega, acc, ρ', I', hw', q'⟩, fun w H4 hy => ?_⟩
    have I4 := y w H4 hy
    have nt : noAli its[i] = true ∨ noAli its[i] = false := by cases noAli its[i] <;> simp
    rw [List.drop_eq_getElem_cons hlt] at q3
    have back : ∀ {σ2 : St} {H5 : Hp} {ρ5 : List T} {acc5 : DKv}, wipe σ2 os = wipe σ os → SS C σ2 H5 ρ5 (vs ++ [.ref A] ++ sv) (τ ++ [.dct acc5] ++ sx) → dDcGo tg.d tt fk fv os (fun ds ρ2 => Qd (.dct ds) ρ2) (its.drop (i + 1)) acc5 (wipeT ρ5 os) →
        ∃ acc ρ, SS C σ H5 ρ (vs ++ [.ref A] ++ sv) (τ ++ [.dct acc] ++ sx) ∧ wipeT ρ os = ρ ∧ dDcGo tg.d tt fk fv os (fun ds ρ2 => Qd (.dct ds) ρ2) (its.drop (i + 1)) acc ρ := fun {σ2 H5 ρ5 acc5} hw I5 q5 => ⟨acc5, _, I5.toW hw hc hl, wipeT_idem _ _, q5⟩
    have hgo := Tgt.sim (C := C) (tg := tg) (fun i hi => h2 i (h1 i hi)) (wipe σ os) H4 ρ3 _ _ w its[i] _ (fun σ2 H2 => ∀ (hw : wipe σ2 os = wipe σ os), derT C tt σ2 H2 fun b H3 => if b = true then derE C fk σ2 H3 fun y H4 => derE C fv σ2 H4 fun z H5 => ∃ kvs k, y = kV k ∧ H5 A = some (.dK kvs) ∧ kvs.length < sizeLine ∧
        (∃ acc2 ρ, SS C σ (upd H5 A (.dK (putK kvs k z))) ρ (vs ++ [.ref A] ++ sv) (τ ++ [.dct acc2] ++ sx) ∧ wipeT ρ os = ρ ∧ dDcGo tg.d tt fk fv os (fun ds ρ2 => Qd (.dct ds) ρ2) (its.drop (i + 1)) acc2 ρ) else
        (∃ acc ρ, SS C σ H3 ρ (vs ++ [.ref A] ++ sv) (τ ++ [.dct acc] ++ sx) ∧ wipeT ρ os = ρ ∧ dDcGo tg.d tt fk fv os (fun ds ρ2 => Qd (.dct ds) ρ2) (its.drop (i + 1)) acc ρ)) I4 (tgd_na q3) q3 fun σ5 H5 ρ5 I5 q5 hw => ⟨ρ5, _, _, _, I5, q5, fun b H6 ρ6 I6 q6 => ?_⟩
    · have hon := Tgt.only (K := C.K) (own := os) h1 hgo
      exact tgt_mono hon fun σ' H' ⟨hq, hw⟩ => ⟨by rw [hw, wipe_idem], hq (by rw [hw, wipe_idem])⟩
    · cases b with
      | true =>
        rw [if_pos rfl]
        refine ⟨ρ6, _, _, _, I6, q6.t rfl, fun v7 H7 x7 ρ7 I7 q7 => ?_⟩
        obtain ⟨j, ej, q7⟩ := wK_some q7
        have ekv := kD_is (I7.lk1 ej)
        subst ekv
        refine ⟨ρ7, _, _, _, I7, q7, fun v8 H8 x8 ρ8 I8 q8 => ?_⟩
        obtain ⟨d, ed, q8⟩ := wD_some q8
        have I8' : SS C σ5 H8 ρ8 (vs ++ [.ref A] ++ (sv ++ [kV j]) ++ [v8]) (τ ++ [.dct acc] ++ (sx ++ [x7]) ++ [x8]) := by simpa using I8
        obtain ⟨zs, hz, hzl, I9⟩ := I8'.growD hτ ed j
        have I10 : SS C σ5 (upd H8 A (.dK (putK zs j v8))) ρ8 (vs ++ [.ref A] ++ sv ++ [kV j]) (τ ++ [.dct (putD acc j d)] ++ sx ++ [x7]) := by simpa using I9
        exact ⟨zs, j, rfl, hz, by omega, back hw I10.pop q8.2⟩
      | false =>
        rw [if_neg (by decide)]
        exact back hw I6 (q6.f rfl)
  · have e : i = its.length := by omega
    subst e
    rw [List.drop_length] at q3
    have I5 : SS C σ H3 ρ3 (vs ++ [.ref A]) (τ ++ [.dct acc]) := I3.drop hτ3
    exact .inl ⟨st (Nat.le_refl _), k _ _ _ _ I5 q3⟩
theorem de_dc (hc : C.X.calm = true) (hN : C.X.N.Nodup) (hi : DPI C tge iter fi) (ok : BlkOk C.X.N C.X.env.scope scope own) (hg : TgtOk C tge tg scope)
    (ht : ∀ (s : Shared) (H : Hp) (Cc : Addr) (cl : List (Str × Addr)) (fp : List Addr), DPTs (C.blk s H scope Cc cl fp) ifs tt) (hk : ∀ (s : Shared) (H : Hp) (Cc : Addr) (cl : List (Str × Addr)) (fp : List Addr), DPE (C.blk s H scope Cc cl fp) ek fk) (he : ∀ (s : Shared) (H : Hp) (Cc : Addr) (cl : List (Str × Addr)) (fp : List Addr), DPE (C.blk s H scope Cc cl fp) ev fv)
    (h1 : ∀ i ∈ tg.sl, i ∈ own.map (·.2)) (h2 : ∀ i ∈ own.map (·.2), i ∉ C.lent ∧ i ∈ C.cv) (hs : ∀ x, foldedSetIterable iter C.X.env x = pure x := by intro _; rfl) :
    DPE C (.DictComp ek ev [⟨tge, iter, ifs, 0⟩] scope pos) (dDc fi tg.d tt fk fv (own.map (·.2))) :=
  let ⟨_, p, s⟩ := hi.ex
  ⟨_, pe_dc hc hN p ok (fun s H Cc cl fp => hg.pg s H Cc cl fp) (fun s H Cc cl fp => pts_der (ht s H Cc cl fp)) (fun s H Cc cl fp => pe_der (hk s H Cc cl fp)) (fun s H Cc cl fp => pe_der (he s H Cc cl fp)) hs, sim_dc s h1 h2⟩
/-- a name of the text that reads as data -/
structure HasT (K : PySem.W.Frag) (mg : Str → Option Value) (x : Str) (d : D) : Prop where
  ex : ∃ u v, mg x = some u ∧ RelV v u ∧ ∀ B H, DIs K B H d v
theorem de_constT {x : Str} {d : D} (h : HasT C.X.K C.X.mg x d) (hg : Gl C.X x) (hd : (x == ("__debug__" : Str)) = false := by decide) : DPE C (.Name x pos) (dC d) :=
  let ⟨_, _, h1, h2, h3⟩ := h.ex
  ⟨_, pe_glob hg h1 h2 hd, fun σ H ρ vs τ Qd Q I q k => k _ _ _ _ (I.push0 fun _ _ => .dat (h3 _ _)) q⟩
theorem HasT.tup {K : PySem.W.Frag} {mg : Str → Option Value} {x : Str} {a : Addr} {oc : Value} {od : Option Addr} {its : Array Value} {n : Nat} {sl : Array (Option Value)} {ds : List D} {vs : List V} (hm : mg x = some (.ref a)) (hl : K.lookup a = some ⟨oc, od, .seq its n, sl⟩) (hc : oc = .type "tuple") (hz : its.size ≤ sizeLine) (hv : Vals vs its.toList) (hd : ds.map sv = vs.map some) : HasT K mg x (.tuple ds) :=
  ⟨_, .ref a, hm, rfl, fun B H => .tuple (.inr ⟨_, its, n, hl, hc, rfl, hz, hv⟩) (by
    have go : ∀ {ds : List D} {zs : List V}, ds.map sv = zs.map some → DIsL K B H ds zs := by
      intro ds
      induction ds with
      | nil => intro zs e; cases zs with
        | nil => exact .nil
        | cons z zs => simp at e
      | cons d ds ih => intro zs e; cases zs with
        | nil => simp at e
        | cons z zs =>
          simp only [List.map_cons, List.cons.injEq] at e
          exact .cons (sv_is e.1) (ih e.2)
    exact go hd)⟩
end
theorem RoomG.u1 {k : Nat} {A : Around} (r : RoomG k A) : A.units + 1 < cLine := by have := r.rm.un; omega
/-- one name, no test -/
theorem dc_mp {α : Type} {i : Nat} {fk fv : DE} {K : DKv → List T → Prop} {ρ : List T} (its : List α) (tg : α → T) (kk : α → D) (gv : α → D) (hw : ρ.set i .emp = ρ) (na : ∀ a ∈ its, noAli (tg a) = true) (kj : α → Key) (hkj : ∀ a ∈ its, kk a = kD (kj a)) (hl : its.length ≤ sizeLine)
    (hk : ∀ a ∈ its, ∀ P : T → List T → Prop, (∀ y, lk (ρ.set i (tg a)) y = some (kk a) → P y (ρ.set i (tg a))) → fk (ρ.set i (tg a)) P) (he : ∀ a ∈ its, ∀ P : T → List T → Prop, (∀ y, frz y = some (gv a) → P y (ρ.set i (tg a))) → fv (ρ.set i (tg a)) P)
    (hK : K (its.foldl (fun acc a => putD acc (kj a) (gv a)) []) ρ) : dDcGo (dgName i) dYes fk fv [i] K (its.map tg) [] ρ := by
  have plen : ∀ (ps : DKv) (k : Key) (d : D), (putD ps k d).length ≤ ps.length + 1 := fun ps k d => by unfold putD; split <;> simp
  have go : ∀ (l : List α) (acc : DKv), (∀ a ∈ l, a ∈ its) → acc.length + l.length ≤ sizeLine → K (l.foldl (fun acc a => putD acc (kj a) (gv a)) acc) ρ → dDcGo (dgName i) dYes fk fv [i] K (l.map tg) acc ρ := by
    intro l
    induction l with
    | nil => intro acc _ _ h; exact h
    | cons a l ih =>
      intro acc hm hl h
      have ha := hm a (List.mem_cons_self ..)
      show dgName i (tg a) ρ _
      refine dgn_i (Q := fun ρ1 => dYes ρ1 fun b ρ2 => br b (fk ρ2 fun x ρ3 => wK (lk ρ3 x) fun j => fv ρ3 fun y ρ4 => wD (frz y) fun d => acc.length < sizeLine ∧ dDcGo (dgName i) dYes fk fv [i] K (l.map tg) (putD acc j d) (wipeT ρ4 [i])) (dDcGo (dgName i) dYes fk fv [i] K (l.map tg) acc (wipeT ρ2 [i]))) (na a ha) (br_t rfl ?_)
      refine hk a ha _ fun y hy => ?_
      rw [hy, hkj a ha]
      have e : ∀ P : Key → Prop, P (kj a) → wK (some (kD (kj a))) P := fun P h => by cases e : kj a <;> rw [e] at h <;> exact h
      refine e _ (he a ha _ fun z hz => wD_i hz ⟨by simp at hl; omega, ?_⟩)
      show dDcGo _ _ _ _ _ _ _ _ ((ρ.set i (tg a)).set i .emp)
      rw [List.set_set, hw]
      have := plen acc (kj a) (gv a)
      exact ih _ (fun b hb => hm b (List.mem_cons_of_mem _ hb)) (by simp at hl ⊢; omega) h
  exact go its [] (fun _ h => h) (by simpa using hl) hK
end Ds
namespace Ds
open PySem L2
section
variable {C : Ctx} {a b c : Expr} {fa fb fc : DE} {pos : Pos}
theorem sim_chain {p1 p2 : Int → Int → Bool} {ta tb tc : TE} (sa : Sim C ta fa) (sb : Sim C tb fb) (sc : Sim C tc fc) : Sim C (tChain (rI0 fun i j => .bl (p1 i j)) (rI0 fun i j => .bl (p2 i j)) ta tb tc) (dChain p1 p2 fa fb fc) :=
  fun σ H ρ vs τ Qd Q I q k => sa σ H ρ vs τ _ _ I q fun u H1 x ρ1 I1 q1 => sb σ H1 ρ1 _ _ _ _ I1 q1 fun v H2 y ρ2 I2 q2 => by
    obtain ⟨i, e1, q2⟩ := wI_some q2
    obtain ⟨j, e2, q2⟩ := wI_some q2
    have hy := (I2.lk1 e2).int_eq
    refine ⟨i, j, (I2.lk2 e1).int_eq, hy, _, rfl, ?_⟩
    generalize p1 i j = bb at q2 ⊢
    cases bb with
    | true =>
      rw [if_pos rfl]
      refine sc σ H2 ρ2 vs τ _ _ I2.pop2 (q2.t rfl) fun w H3 z ρ3 I3 q3 => ?_
      obtain ⟨n, e3, q3⟩ := wI_some q3
      exact ⟨j, n, hy, (I3.lk1 e3).int_eq, k _ _ _ _ (I3.pop.bool _) q3⟩
    | false => rw [if_neg (by decide)]; exact k _ _ _ _ (I2.pop2.bool _) (q2.f rfl)
theorem dt_chain {op op' : CmpOp} {p1 p2 : Int → Int → Bool} (h1 : OpR C.X (compareOp op) (rI0 fun i j => .bl (p1 i j))) (h2 : OpR C.X (compareOp op') (rI0 fun i j => .bl (p2 i j))) (ha : DPE C a fa) (hb : DPE C b fb) (hc : DPE C c fc)
    (hm : lastMarks [op, op'] [b, c] = false := by with_unfolding_all rfl) : DPT C (.Compare a [op, op'] [b, c] pos) (tVal (dChain p1 p2 fa fb fc)) :=
  let ⟨_, pa, sa⟩ := ha.ex; let ⟨_, pb, sb⟩ := hb.ex; let ⟨_, pc, sc⟩ := hc.ex
  ⟨_, pt_chain h1 h2 pa pb pc hm, sim_test (sim_chain sa sb sc)⟩
end
end Ds
namespace Ds
open PySem L2
def rngI (a b : Int) : List Int := (List.range (b - a).toNat).map fun i => a + ((i : Nat) : Int)
theorem rgV_ints (a b : Int) : rgV a b = (rngI a b).map V.int := by unfold rgV rngI; rw [List.map_map]; rfl
def dLstRg1 (fe : DE) : DE := fun ρ Q => fe ρ fun x ρ1 => wI (lk ρ1 x) fun j => RgOk 0 j ∧ Q (.own ((rngI 0 j).map .int)) ρ1
section
variable {C : Ctx} {e : Expr} {fe : DE} {p p1 pos pos1 : Pos}
theorem de_lstRg1 (hc : C.X.calm = true) (hg : Gl C.X "list") (hm : C.X.mg "list" = none) (hg1 : Gl C.X "range") (hm1 : C.X.mg "range" = none) (he : DPE C e fe) (hs : starEach [e] C.X.env = (false, eval e C.X.env) :: starEach [] C.X.env := by rfl)
    (hs1 : starEach [.Call (.Name "range" p1) [e] [] pos1] C.X.env = (false, eval (.Call (.Name "range" p1) [e] [] pos1) C.X.env) :: starEach [] C.X.env := by rfl) :
    DPE C (.Call (.Name "list" p) [.Call (.Name "range" p1) [e] [] pos1] [] pos) (dLstRg1 fe) :=
  let ⟨_, pe, se⟩ := he.ex
  ⟨_, pe_listRg hc hg hm (prg_1 hg1 hm1 pe hs) hs1, fun σ H ρ vs τ Qd Q I h k => se σ H ρ vs τ _ _ I h fun v H1 t ρ1 I1 q => by
    obtain ⟨j, ej, ok, q⟩ := wI_some q
    refine ⟨j, (I1.lk1 ej).int_eq, ok, fun l hl => ?_⟩
    rw [rgV_ints]
    have hτ := I.ltE
    obtain ⟨ow, J⟩ := id I1
    exact k _ _ _ _ (J.newL hτ hl ints_is) q⟩
end
end Ds
namespace Ds
open PySem L2
theorem for_disp {fi : DI} {g : DG} {f : DS} {D : DEnds} {ρ : List T} (its : List T) (ρ1 : List T) (h : ∀ Q : List T → List T → Prop, Q its ρ1 → fi ρ Q) (h2 : dFor g f D its ρ1) : dForS fi g f D ρ := h _ h2
theorem lst_disp {f : DA} {ρ : List T} {ds : List D} {Q : T → List T → Prop} (ts : List T) (h : ∀ K : List T → List T → Prop, K ts ρ → f ρ K) (e : frzL ts = some ds) (hs : small 1000 ts = true) (q : Q (.own ds) ρ) : dLst f ρ Q := by
  unfold dLst
  refine h _ ?_
  simp only [hs]
  unfold mkL
  simp only [e]
  exact q
theorem asg_disp {f : DA} {i : Nat} {De : DEnds} {ρ : List T} {ds : List D} (ts : List T) (h : ∀ K : List T → List T → Prop, K ts ρ → f ρ K) (e : frzL ts = some ds) (hs : small 1000 ts = true) (q : De.nx (ρ.set i (.own ds))) : dAsg (dLst f) (dgName i) De ρ :=
  lst_disp ts h e hs (Q := fun x ρ1 => dgName i x ρ1 De.nx) (dgn_i rfl q)
theorem add_disp {f : DA} {i j : Nat} {De : DEnds} {ρ : List T} {ds es : List D} (ts : List T) (e1 : ρ[i]? = some (.own ds)) (h : ∀ K : List T → List T → Prop, K ts ρ → f ρ K) (e : frzL ts = some es) (hs : small 1000 ts = true) (hl : ds.length + es.length ≤ sizeLine) (q : De.nx (ρ.set j (.own (ds ++ es)))) :
    dAsg (dOp dAdd (dVar i) (dLst f)) (dgName j) De ρ := by
  show dVar i ρ fun x ρ1 => dLst f ρ1 fun y ρ2 => dAdd ρ2 x y fun z ρ3 => dgName j z ρ3 De.nx
  unfold dVar
  rw [e1]
  refine lst_disp ts h e hs ?_
  unfold dAdd
  have l1 : lk ρ (.ali i) = some (.list ds) := by show (ρ[i]?).bind toD = _; rw [e1]; rfl
  have l2 : lk ρ (.own es) = some (.list es) := rfl
  have d1 : dr ρ (.ali i) = .own ds := by show (ρ[i]?).getD .emp = _; rw [e1]; rfl
  rw [l1, l2]
  show wL (dr ρ (.ali i)) _
  rw [d1]
  exact ⟨hl, dgn_i rfl q⟩
end Ds
namespace Ds
open PySem L2
def wTx (o : Option D) (k : Str → Prop) : Prop := ∃ z : Str, o = some (.str z) ∧ k z
theorem strs_inv {K : PySem.W.Frag} {B : Addr → Prop} {H : Hp} : ∀ {ns : List Str} {vs : List V}, DIsL K B H (ns.map PyData.str) vs → vs = ns.map V.str
  | [], _, h => by cases h; rfl
  | n :: ns, _, h => by
    cases h with
    | cons r t => rw [r.str_eq, strs_inv t]; rfl
theorem strs_is {K : PySem.W.Frag} {B : Addr → Prop} {H : Hp} : ∀ {ns : List Str}, DIsL K B H (ns.map PyData.str) (ns.map V.str)
  | [] => .nil
  | _ :: _ => .cons (.str _) strs_is
/-- str(n), int(text) -/
abbrev dStrI : DOn := cu1 fun d k => match d with
  | .int i => i.natAbs.log2 < 1920 ∧ k (.str (toString i))
  | _ => False
abbrev dIntS : DOn := cu1 fun d k => match d with
  | .str a => ∃ n : Int, PySem.intText? a = some n ∧ a.length ≤ 640 ∧ k (.int n)
  | _ => False
section
variable {C : Ctx} {e o a b tg : Expr} {fe fo fa fb : DE} {fs : DA} {p pos apos : Pos}
theorem sim_strI : SimC C (fun xs H Q => ∃ i, xs = [.int i] ∧ i.natAbs.log2 < 1920 ∧ Q (.str (toString i)) H) dStrI := sim_cu1 fun H d u Qd Q du q k => by
  cases d <;> first | exact q.elim | skip
  exact ⟨_, by rw [du.int_eq], q.1, k _ _ rfl q.2⟩
theorem sim_intS : SimC C (fun xs H Q => ∃ a n, xs = [.str a] ∧ PySem.intText? a = some n ∧ a.length ≤ 640 ∧ Q (.int n) H) dIntS := sim_cu1 fun H d u Qd Q du q k => by
  cases d <;> first | exact q.elim | skip
  obtain ⟨n, h1, h2, q⟩ := q
  exact ⟨_, n, by rw [du.str_eq], h1, h2, k _ _ rfl q⟩
theorem de_strI (hg : Gl C.X "str") (hm : C.X.mg "str" = none) (ha : DPA C [e] fs) (he : starEach [e] C.X.env = [(false, eval e C.X.env)] := by rfl) : DPE C (.Call (.Name "str" p) [e] [] pos) (dCB dStrI fs) :=
  de_callTy call_str_int sim_strI hg hm PyProof.Rows.boot_str ha (by decide) (by decide) he
theorem de_intS (hg : Gl C.X "int") (hm : C.X.mg "int" = none) (ha : DPA C [e] fs) (he : starEach [e] C.X.env = [(false, eval e C.X.env)] := by rfl) : DPE C (.Call (.Name "int" p) [e] [] pos) (dCB dIntS fs) :=
  de_callTy call_int_str sim_intS hg hm PyProof.Rows.boot_int ha (by decide) (by decide) he
/-- sep.join(texts) -/
def dJoin (fo fe : DE) : DE := fun ρ Q => fo ρ fun x ρ1 => wTx (lk ρ1 x) fun a => match x with
  | .dat _ => fe ρ1 fun y ρ2 => ∃ ys : List Str, lk ρ2 y = some (.list (ys.map .str)) ∧ (ys.map (·.length)).sum + ys.length * a.length ≤ 16777216 ∧ Q (.dat (.str (Txt.join a ys))) ρ2
  | _ => False
theorem de_join (ho : DPE C o fo) (he : DPE C e fe) (hs : starEach [e] C.X.env = [(false, eval e C.X.env)] := by rfl) (hbase : attributeBase o "join" C.X.env (eval o C.X.env) = eval o C.X.env := by rfl) (hline : (apos.endLine == pos.line) = true := by rfl) :
    DPE C (.Call (.Attribute o "join" apos) [e] [] pos) (dJoin fo fe) :=
  let ⟨_, po, so⟩ := ho.ex; let ⟨_, pe, se⟩ := he.ex
  ⟨_, pe_join po pe hs hbase hline, fun σ H ρ vs τ Qd Q I q k => so σ H ρ vs τ _ _ I q fun u H1 x ρ1 I1 q1 => by
    obtain ⟨a, e1, q1⟩ := q1
    have hu := (I1.lk1 e1).str_eq
    split at q1
    · rename_i d
      have ed : d = .str a := by simpa [Ds.lk] using e1
      subst ed
      refine ⟨⟨a, hu⟩, se σ H1 ρ1 _ _ _ _ I1 q1 fun v H2 y ρ2 I2 q2 => ?_⟩
      obtain ⟨ys, e2, hz, q2⟩ := q2
      have dv := I2.lk1 e2
      cases dv with
      | list e0 n t =>
        rw [strs_inv t] at e0
        exact ⟨a, _, ys, hu, rfl, .inl (.of e0), hz, k _ _ _ _ (I2.pop.pop.str _) q2⟩
    · exact q1.elim⟩
/-- text.split(sep) -/
def dSplit (fo fe : DE) : DE := fun ρ Q => fo ρ fun x ρ1 => wTx (lk ρ1 x) fun a => match x with
  | .dat _ => fe ρ1 fun y ρ2 => wTx (lk ρ2 y) fun b => (b.length == 0) = false ∧ a.length + 2 ≤ sizeLine ∧ Q (.own ((Txt.split a b).map .str)) ρ2
  | .bor _ => fe ρ1 fun y ρ2 => wTx (lk ρ2 y) fun b => (b.length == 0) = false ∧ a.length + 2 ≤ sizeLine ∧ Q (.own ((Txt.split a b).map .str)) ρ2
  | _ => False
theorem de_split (ho : DPE C o fo) (he : DPE C e fe) (hs : starEach [e] C.X.env = [(false, eval e C.X.env)] := by rfl) (hbase : attributeBase o "split" C.X.env (eval o C.X.env) = eval o C.X.env := by rfl) (hline : (apos.endLine == pos.line) = true := by rfl) :
    DPE C (.Call (.Attribute o "split" apos) [e] [] pos) (dSplit fo fe) :=
  let ⟨_, po, so⟩ := ho.ex; let ⟨_, pe, se⟩ := he.ex
  ⟨_, pe_split po pe hs hbase hline, fun σ H ρ vs τ Qd Q I q k => so σ H ρ vs τ _ _ I q fun u H1 x ρ1 I1 q1 => by
    obtain ⟨a, e1, q1⟩ := q1
    have hu := (I1.lk1 e1).str_eq
    have fin : (fe ρ1 fun y ρ2 => wTx (lk ρ2 y) fun b => (b.length == 0) = false ∧ a.length + 2 ≤ sizeLine ∧ Qd (.own ((Txt.split a b).map .str)) ρ2) → _ := fun q1 => se σ H1 ρ1 _ _ _ (fun y H2 => (fun x xs H Q => ∃ a b, x = V.str a ∧ xs = [V.str b] ∧ (b.length == 0) = false ∧ a.length + 2 ≤ sizeLine ∧ rNewStrs (Txt.split a b) H Q) u [y] H2 Q) I1 q1 fun v H2 y ρ2 I2 q2 => by
      obtain ⟨b, e2, hb, ha, q2⟩ := q2
      refine ⟨a, b, hu, by rw [(I2.lk1 e2).str_eq], hb, ha, fun l hl => ?_⟩
      have I3 := I2.pop
      have hτ := I3.ltE
      obtain ⟨ow, J⟩ := id I3
      exact k _ _ _ _ (J.newL (J.lt1) hl strs_is) q2
    refine ⟨⟨a, hu⟩, ?_⟩
    split at q1
    · exact fin q1
    · exact fin q1
    · exact q1.elim⟩
/-- the signs of a text -/
def chD (z : Str) : List T := z.cps.toList.map fun c => .dat (.str ⟨#[c]⟩)
def dStrIt (f : DE) : DI := fun ρ Q => f ρ fun x ρ1 => wTx (lk ρ1 x) fun z => Q (chD z) ρ1
theorem walks_str {z : Str} : WalksD C (Its z) [] [] (chD z) := by
  intro i σ H ρ vs τ hτ I
  have hl : (chD z).length = z.cps.size := by simp [chD]
  refine ⟨fun h => by rw [hl] at h; exact h, fun t et => ?_⟩
  unfold chD at et
  rw [List.getElem?_map, Option.map_eq_some_iff] at et
  obtain ⟨c, ec, rfl⟩ := et
  rw [Array.getElem?_toList] at ec
  refine ⟨(Array.getElem?_eq_some_iff.mp ec).1, fun w H' hy => ?_⟩
  obtain ⟨rfl, c', ec', rfl⟩ := hy
  rw [ec] at ec'
  cases ec'
  exact SS.str I _
theorem di_str (he : DPE C e fe) : DPI C tg e (dStrIt fe) :=
  let ⟨_, p, s⟩ := he.ex
  ⟨_, pi_str p, fun σ H ρ vs τ Qd R I h k => s σ H ρ vs τ _ _ I h fun v H1 x ρ1 I1 q => by
    obtain ⟨z, ez, q⟩ := q
    exact ⟨z, (I1.lk1 ez).str_eq, k _ _ [] [] _ _ (by simpa using I1.pop) rfl walks_str q⟩⟩
/-- sign not in text -/
abbrev dNinS : DO2 := pu2 fun d e k => match d, e with
  | .str x, .str z => ∃ c : Nat, x = ⟨#[c]⟩ ∧ k (.bool (!decide (c ∈ z.cps.toList)))
  | _, _ => False
theorem dc_ninS (hm : behindInMarks .NotIn b = false) : DCmp C .NotIn b dNinS :=
  ⟨_, op_notIn_sign, sim_pu2 fun H d e u v Qd Q du ev q k => by
    cases d <;> cases e <;> first | exact q.elim | skip
    obtain ⟨c, rfl, q⟩ := q
    exact ⟨c, _, du.str_eq, ev.str_eq, k _ _ rfl q⟩, hm⟩
/-- text * n -/
abbrev dMulS : DO2 := pu2 fun d e k => match d, e with
  | .str z, .int n => (2 ≤ n ∧ n ≤ 1000 ∧ 0 < z.length ∧ z.length ≤ 1000) ∧ k (.str ⟨(List.replicate n.toNat z.cps).foldl (· ++ ·) #[]⟩)
  | _, _ => False
theorem op_mulS : OpR C.X (binaryOp .Mult) (fun x y H Q => ∃ (z : Str) (n : Int), x = .str z ∧ y = .int n ∧ (2 ≤ n ∧ n ≤ 1000 ∧ 0 < z.length ∧ z.length ≤ 1000) ∧ Q (.str ⟨(List.replicate n.toNat z.cps).foldl (· ++ ·) #[]⟩) H) := by
  intro pins s σ H x y v u Q I rx ry h
  obtain ⟨z, n, rfl, rfl, ⟨h1, h2, h3, h4⟩, q⟩ := h
  obtain ⟨t, rfl⟩ := rx
  obtain ⟨t', rfl⟩ := ry
  obtain ⟨m1, m2, m3⟩ := PyProof.Rows.mulOk_of (x := z) (n := n) 1000 1000 h4 (by omega) (by omega) (by decide) (by decide)
  refine PySem.P.mul_str m1 m2 m3 ?_
  have e1 : ¬ n < 1 := by omega
  have e2 : (n == 1 || z.length == 0) = false := by
    rw [Bool.or_eq_false_iff]
    exact ⟨by rw [beq_eq_false_iff_ne]; omega, by rw [beq_eq_false_iff_ne]; omega⟩
  rw [if_neg e1, e2]
  have hz : (⟨(List.replicate n.toNat z.cps).foldl (· ++ ·) #[]⟩ : Str).length = n.toNat * z.length := by
    show ((List.replicate n.toNat z.cps).foldl (· ++ ·) #[]).size = _
    rw [PyProof.Rows.len_reps]; simp [Str.length]
  have hz2 : n.toNat * z.length ≤ 1000 * 1000 := Nat.mul_le_mul (by omega) h4
  refine ⟨?_, .str _, H, I.tok _, ⟨_, rfl⟩, q⟩
  rw [hz]; exact Nat.le_trans hz2 (by decide)
theorem de_mulS (ha : DPE C a fa) (hb : DPE C b fb) : DPE C (.BinOp a .Mult b pos) (dOp dMulS fa fb) :=
  de_op op_mulS (sim_pu2 fun H d e u v Qd Q du ev q k => by
    cases d <;> cases e <;> first | exact q.elim | skip
    exact ⟨_, _, du.str_eq, ev.int_eq, q.1, k _ _ rfl q.2⟩) ha hb
/-- sorted(ints) -/
def dSorted : DOn := fun ρ ts Q => match ts with
  | [x] => wInts (lk ρ x) fun ns => ∀ ns' : List Int, ns'.Perm ns → ns'.Pairwise (· ≤ ·) → Q (.own (ns'.map .int)) ρ
  | _ => False
theorem sim_sorted : SimC C (rSortedI C.K) dSorted := by
  intro σ H ρ vs τ xs ts Qd Q I hl hτ q k
  unfold dSorted at q
  split at q
  · obtain ⟨v, rfl⟩ := len1 hl
    obtain ⟨ns, e1, q⟩ := q
    have dv := SS.lk1 I e1
    cases dv with
    | list e n t =>
      rw [ints_inv t] at e
      refine ⟨_, ns, rfl, .of e, fun ns' l hp hs hl => ?_⟩
      obtain ⟨ow, J⟩ := id I
      exact k _ _ _ _ (J.newL hτ hl ints_is) (q ns' hp hs)
  · exact q.elim
theorem de_sorted (hg : Gl C.X "sorted") (hm : C.X.mg "sorted" = none) (ha : DPA C [e] fs) (he : starEach [e] C.X.env = [(false, eval e C.X.env)] := by rfl) : DPE C (.Call (.Name "sorted" p) [e] [] pos) (dCB dSorted fs) :=
  de_callB cr_sortedI sim_sorted hg hm (by decide +kernel) ha (by decide) (by decide) he
/-- xs[::-1] of ints -/
def dRevI (f : DE) : DE := fun ρ Q => f ρ fun x ρ1 => wInts (lk ρ1 x) fun ns => Q (.own (ns.reverse.map .int)) ρ1
theorem de_revI {k : Nat} {p1 p2 p3 : Pos} (he : DPE C e fe) : DPE C (.Subscript e (.Slice none none (some (.UnaryOp .USub (.Constant (.int 1) k p1) p2)) p3) pos) (dRevI fe) :=
  let ⟨_, p, s⟩ := he.ex
  ⟨_, pe_revL p, fun σ H ρ vs τ Qd Q I h kk => s σ H ρ vs τ _ _ I h fun v H1 x ρ1 I1 q => by
    obtain ⟨ns, e1, q⟩ := q
    have dv := I1.lk1 e1
    cases dv with
    | list e n t =>
      rw [ints_inv t] at e
      refine ⟨_, _, rfl, .of e, fun l hl => ?_⟩
      obtain ⟨ow, J⟩ := id I1
      rw [← List.map_reverse]
      exact kk _ _ _ _ (J.newL J.lt1 hl ints_is) q⟩
end
end Ds
namespace Ds
open PySem L2
/-- a dict that stands in K -/
structure KDI (P : Program) (w : World) (K : PySem.W.Frag) (a : Addr) (kvs : List (Key × V)) : Prop where
  ex : ∃ (o : Obj) (es : Array DictEntry) (ep : Nat) (vs : List (Key × Value)), K.lookup a = some o ∧ (a == sysModules) = false ∧ o.ExactDict ∧ o.data = .dict es ep ∧ KV kvs vs ∧ KeysOf (mixKind P w) es ∧ Pairs (mixKind P w) es.toList vs ∧ (vs.map (·.1)).Nodup
structure HasKD (P : Program) (w : World) (K : PySem.W.Frag) (mg : Str → Option Value) (x : Str) (ps : DKv) : Prop where
  ex : ∃ a kvs, mg x = some (.ref a) ∧ KDI P w K a kvs ∧ ∀ B H, DKs K B H ps kvs
theorem KDI.at_ {P : Program} {w : World} {K : PySem.W.Frag} {a : Addr} {kvs : List (Key × V)} (D : KDI P w K a kvs) :
    ∃ (o : Obj) (es : Array DictEntry) (ep : Nat) (vs : List (Key × Value)), (a == sysModules) = false ∧ o.data = .dict es ep ∧ KV kvs vs ∧ ∀ h : Heap, K.In h → h.get? a = some o ∧ h.DictAt (mixKind P w) a vs ep := by
  obtain ⟨o, es, ep, vs, h1, h2, h3, h4, h5, h6, h7, h8⟩ := D.ex
  refine ⟨o, es, ep, vs, h2, h4, h5, fun h hK => ?_⟩
  have e : h.get? a = some o := hK _ _ h1
  exact ⟨e, o, es, e, h3, h4, h6, h7, h8⟩
section
variable {X : Cx} {a : Addr} {kvs : List (Key × V)}
theorem pe_kdget {x : Str} {i : Expr} {ty : TE} {p pos : Pos} (D : KDI X.prog X.w X.K a kvs) (hg : Gl X x) (hm : X.mg x = some (.ref a)) (hi : PE X i ty) (hs : NoSl i) (hd : (x == ("__debug__" : Str)) = false := by decide) :
    PE X (.Subscript (.Name x p) i pos) (fun σ H Q => ty σ H fun y H1 => ∃ k v, V.ref a = V.ref a ∧ y = kV k ∧ valV kvs k = some v ∧ Q v H1) := by
  obtain ⟨o, es, ep, vs, ns, hdt, kv, hat⟩ := D.at_
  refine ⟨fun pins s σ H Q I h => ?_⟩
  refine subD_of PySem.F.slot_dict_getitem.lookup hs (thn ((pe_glob hg hm (v := .ref a) rfl hd).run pins s σ H (fun x H1 => ty σ H1 fun y H2 => ∃ k v, x = V.ref a ∧ y = kV k ∧ valV kvs k = some v ∧ Q v H2) I h) fun u s1 ⟨x, H1, I1, rx, q1⟩ => thn (hi.run pins s1 σ H1 _ I1 q1) fun iv s2 ⟨y, H2, I2, ry, q2⟩ => ?_)
  obtain ⟨k, v, ex, ey, hv, q⟩ := q2
  subst ex ey
  obtain rfl : u = Value.ref a := rx
  have dd := (hat _ I2.kIn).2.dictOf
  obtain ⟨w', hw, rw'⟩ := RelO.some_of (v := v) (o := valueAt vs k) (by rw [← hv]; exact kv.val k)
  exact ⟨dd.typeIs, wpAny_getItem_of (kV_is ry) dd.mapOf hw ⟨v, H2, I2.tok _, rw', q⟩⟩
/-- the pairs of a dict of K, each a new tuple -/
def ItK (kvs : List (Key × V)) : It :=
  ⟨fun i _ => i < kvs.length, fun i H x H' => ∃ T k v, kvs[i]? = some (k, v) ∧ x = .ref T ∧ H T = none ∧ H' = upd H T (.tup [kV k, v]), fun i _ => kvs.length ≤ i⟩
end
section
variable {P : Program} {w : World} {K : PySem.W.Frag} {d : Addr} {kvs : List (Key × V)}
theorem turn_itemsK {elts : List Expr} {kk : Nat} {tpos : Pos} (it : Addr) {o : Obj} {es : Array DictEntry} {ep : Nat} {vs : List (Key × Value)} (kv : KV kvs vs) (hat : ∀ h : Heap, K.In h → h.get? d = some o ∧ h.DictAt (mixKind P w) d vs ep) :
    Turn P w K (.Tuple elts kk tpos) (ItK kvs) [it] it (fun i h => ∃ ok ov, IsItemIter h it d i kvs.length ep ok ov) where
  mem := by simp
  obj := fun i h st b hb => by
    have e : b = it := by simpa using hb
    subst e
    obtain ⟨ok, ov, e⟩ := st
    exact ⟨_, e, fun v z => nomatch z⟩
  keep := fun i h h' st k => let ⟨ok, ov, e⟩ := st; ⟨ok, ov, k it (by simp) _ e⟩
  item := by
    intro X hP hw hK hc i pins s σ H E I hf st hg
    subst hP hw hK
    have hi : i < kvs.length := hg
    have hm := (hat _ I.kIn).2
    obtain ⟨⟨k, v⟩, hkv⟩ : ∃ p, kvs[i]? = some p := ⟨kvs[i], List.getElem?_eq_getElem hi⟩
    obtain ⟨u, hu, ru⟩ := kv_get kv hkv
    have hl : kvs.length = vs.length := Paired.length kv
    obtain ⟨ok, ov, he⟩ := st
    rw [hl] at he
    have hlt : it < s.heap.objs.size := Heap.lt_size he
    refine wpAny_pyNext_items_item he hm hu fun key h' hkey ho hT hz hk => ?_
    refine ⟨_, rfl, wpAny_letOwnedTupleGo_items (s := { s with heap := h' }) ho fun h'' he' sb => ?_⟩
    have hT2 : h''.get? s.heap.objs.size = some { cls := .type "tuple", data := .seq #[key, u] } := (sb.2 _ (Nat.ne_of_gt hlt)).trans hT
    have new : ObjOk X.prog X.w (upd H s.heap.objs.size (.tup [kV k, v])) h'' s.heap.objs.size (.tup [kV k, v]) :=
      ⟨by show 2 ≤ sizeLine; decide, [key, u], .cons (relV_key (show keyIs k key = true from hkey)) (.cons ru .nil), ⟨_, hT2, rfl, _, rfl⟩⟩
    have I1 : Inv X pins σ (upd H s.heap.objs.size (.tup [kV k, v])) { s with heap := h'' } :=
      I.turnedNew (t' := s.toks) (ch := [it]) (fun b ob hb e => (sb.2 b (by simpa using hb)).trans (hk b ob (by simpa using hb) e)) hf (Nat.le_refl _) new
    refine ⟨.ref s.heap.objs.size, _, I1, rfl, ⟨_, k, v, hkv, rfl, I.hok.fresh (Nat.le_refl _), rfl⟩, ⟨key, u, ?_⟩, fun b hb => ?_⟩
    · rw [hl]; exact he'
    · have e : b = it := by simpa using hb
      rw [e, upd_ne (Nat.ne_of_lt hlt)]
      exact (hf it (by simp)).1
  done := by
    intro X hP hw hK hc i pins s σ H E I hf st hg
    subst hP hw hK
    have hi : kvs.length ≤ i := hg
    obtain ⟨f0, f1, f2, f3, f4, f5⟩ := hf it (by simp)
    have hm := (hat _ I.kIn).2
    have hl : kvs.length = vs.length := Paired.length kv
    obtain ⟨ok, ov, he⟩ := st
    rw [hl] at he
    exact wpAny_pyNext_items_end (I.ok.hd hc) he hm (List.getElem?_eq_none (by omega)) fun h' eb => ⟨rfl, I.turned (t' := s.toks) (fun b ob hb e => eb b ob hb e) f0 f1 f3 f4 f5⟩
  self := fun A i s Q E st h => let ⟨_, _, e⟩ := st; PySem.W.kcp_self e h
end
section
variable {X : Cx} {a : Addr} {kvs : List (Key × V)} {p apos cpos : Pos} {x : Str}
theorem pi_itemsK {elts : List Expr} {kk : Nat} {tpos : Pos} (D : KDI X.prog X.w X.K a kvs) (hg : Gl X x) (hm0 : X.mg x = some (.ref a)) (hd : (x == ("__debug__" : Str)) = false := by decide) (hbase : attributeBase (.Name x p) "items" X.env (eval (.Name x p) X.env) = eval (.Name x p) X.env := by rfl) (hline : (apos.endLine == cpos.line) = true := by rfl) :
    PI X (.Tuple elts kk tpos) (.Call (.Attribute (.Name x p) "items" apos) [] [] cpos) (fun σ H R => R (ItK kvs) H) := by
  obtain ⟨o, es, ep, vs, hs, hdt, kv, hat⟩ := D.at_
  refine ⟨fun pins s σ H R I h => ?_⟩
  refine wpAny_Call_method (T := "dict") (id := "dict.items") hbase rfl hline F.plainAttrs_dict F.slot_dict_items F.type_dict_items (thn ((pe_glob hg hm0 (v := .ref a) rfl hd).run pins s σ H (fun x H1 => x = V.ref a ∧ R (ItK kvs) H1) I ⟨rfl, h⟩) fun u s1 ⟨x, H1, I1, rx, ex, q⟩ => ?_)
  subst ex
  obtain rfl : u = Value.ref a := rx
  obtain ⟨hgd, hm⟩ := hat _ I1.kIn
  have hl : kvs.length = vs.length := Paired.length kv
  refine ⟨hm.dictOf.typeIs, hm.dictOf.mapOf.noDict, ?_⟩
  have I2 : Inv X pins σ H1 { s1 with heap := s1.heap.push { cls := .type "dict_items", data := .fields #[.ref a] } } := I1.kept (t' := s1.toks) fun b ob q => Heap.get?_push_of_some _ q
  have fin : wpAny (model X.prog X.w) X.A (pyIter (.ref s1.heap.objs.size)) (PIE X pins σ (.Tuple elts kk tpos) R) X.xe { s1 with heap := s1.heap.push { cls := .type "dict_items", data := .fields #[.ref a] } } := by
    refine wpAny_pyIter_items (d := a) (knd := mixKind X.prog X.w) ⟨_, Heap.get?_push_size _ rfl, rfl, rfl⟩ (hm.push _) (pi_one (tk := s1.toks) I2 _ (turn_itemsK (es := es) _ kv hat) ⟨.none, .none, ?_⟩ q)
    rw [hl]
    exact Heap.get?_push_size _ rfl
  show wpAny _ _ (callWith cpos (.builtin "dict.items") [.ref a] [] []) _ X.xe s1
  exact method_meetsIn F.slot_dict_items F.entry_dict_items rfl (PySem.evalArgs_none ⟨rfl, hm.dictOf.typeIs, F.args_dict_items_1 _, _, meets_dict_items (mixKind X.prog X.w) a hs, ⟨vs, hm.dictOf⟩, fin⟩)
end
/-- d[k], d a dict of the module -/
def dKGet (ps : DKv) (fk : DE) : DE := fun ρ Q => fk ρ fun y ρ1 => wK (lk ρ1 y) fun j => wO (valD ps j) fun d => Q (.dat d) ρ1
def dKItems (ps : DKv) : DI := fun ρ Q => Q (ps.map fun p => .dat (.tuple [kD p.1, p.2])) ρ
/-- {..}[k] -/
def dDGetE (fo fk : DE) : DE := fun ρ Q => fo ρ fun x ρ1 => fk ρ1 fun y ρ2 => match x with
  | .dct ps => wK (lk ρ2 y) fun j => wO (valD ps j) fun d => Q (.dat d) ρ2
  | _ => False
section
variable {C : Ctx} {x : Str} {ps : DKv} {ek eo : Expr} {fk fo : DE} {p pos apos cpos : Pos}
theorem de_kget (h : HasKD C.X.prog C.X.w C.X.K C.X.mg x ps) (hg : Gl C.X x) (hk : DPE C ek fk) (hs : NoSl ek := by exact fun _ _ => rfl) (hd : (x == ("__debug__" : Str)) = false := by decide) : DPE C (.Subscript (.Name x p) ek pos) (dKGet ps fk) :=
  let ⟨_, pk, sk⟩ := hk.ex
  let ⟨_, _, hm, D, hv⟩ := h.ex
  ⟨_, pe_kdget D hg hm pk hs hd, fun σ H ρ vs τ Qd Q I q k => sk σ H ρ vs τ _ _ I q fun v H1 y ρ1 I1 q1 => by
    obtain ⟨j, ej, q1⟩ := wK_some q1
    obtain ⟨d, ed, q1⟩ := wO_some q1
    have ekv := kD_is (I1.lk1 ej)
    subst ekv
    obtain ⟨ow1, J1⟩ := id I1
    obtain ⟨w, ew, dw⟩ := (hv (Bar C ow1) H1).get.1 d ed
    exact ⟨j, w, rfl, rfl, ew, k _ _ _ _ (J1.oneD J1.lt1 dw) q1⟩⟩
theorem walks_kd {kvs : List (Key × V)} (hv : ∀ B H, DKs C.K B H ps kvs) : WalksD C (ItK kvs) [] [] (ps.map fun p => T.dat (.tuple [kD p.1, p.2])) := by
  intro i σ H ρ vs τ hτ I
  obtain ⟨ow, J⟩ := id I
  have hl := (hv (Bar C ow) H).length
  refine ⟨fun h => by show kvs.length ≤ i; simpa [hl] using h, fun t et => ?_⟩
  rw [List.getElem?_map, Option.map_eq_some_iff] at et
  obtain ⟨⟨k0, d0⟩, e0, rfl⟩ := et
  have at_ : ∀ {ps : DKv} {kvs : List (Key × V)} {i : Nat}, DKs C.K (Bar C ow) H ps kvs → ps[i]? = some (k0, d0) → ∃ v, kvs[i]? = some (k0, v) ∧ DIs C.K (Bar C ow) H d0 v := by
    intro ps kvs i h
    induction h generalizing i with
    | nil => intro e; simp at e
    | cons r t ih =>
      intro e
      cases i with
      | zero => simp at e; obtain ⟨rfl, rfl⟩ := e; exact ⟨_, rfl, r⟩
      | succ i => exact ih (by simpa using e)
  obtain ⟨v, ev, dv⟩ := at_ (hv (Bar C ow) H) e0
  refine ⟨(List.getElem?_eq_some_iff.mp ev).1, fun w H' hy => ?_⟩
  obtain ⟨T0, k1, v1, e1, rfl, hT, rfl⟩ := hy
  rw [ev] at e1
  cases e1
  have rk : TIs C.K (Bar C ow) (BarB C ow) (wipe σ C.cv) H (.dat (kD k0)) (kV k0) [] := by
    cases k0 with
    | inl i => exact .dat (.int i)
    | inr s => exact .dat (.str s)
  have I' : SS C σ H ρ (vs ++ []) (τ ++ []) := by simpa using I
  have J' : SI C σ H ρ (vs ++ []) (τ ++ []) ow := by simpa using J
  exact I'.pushPair ow J' hT rk (.dat dv)
theorem di_kditems {elts : List Expr} {kk : Nat} {tpos : Pos} (h : HasKD C.X.prog C.X.w C.X.K C.X.mg x ps) (hg : Gl C.X x) (hd : (x == ("__debug__" : Str)) = false := by decide) (hbase : attributeBase (.Name x p) "items" C.X.env (eval (.Name x p) C.X.env) = eval (.Name x p) C.X.env := by rfl) (hline : (apos.endLine == cpos.line) = true := by rfl) :
    DPI C (.Tuple elts kk tpos) (.Call (.Attribute (.Name x p) "items" apos) [] [] cpos) (dKItems ps) :=
  let ⟨_, _, hm, D, hv⟩ := h.ex
  ⟨_, pi_itemsK D hg hm hd hbase hline, fun σ H ρ vs τ Qd R I q k => k _ _ [] [] _ _ (by simpa using I) rfl (walks_kd hv) q⟩
theorem de_dgetE (hu : C.X.A.units + 1 < cLine) (ho : DPE C eo fo) (hk : DPE C ek fk) (hs : NoSl ek := by exact fun _ _ => rfl) : DPE C (.Subscript eo ek pos) (dDGetE fo fk) :=
  let ⟨_, po, so⟩ := ho.ex; let ⟨_, pk, sk⟩ := hk.ex
  ⟨_, pe_dget hu po pk hs, fun σ H ρ vs τ Qd Q I q k => so σ H ρ vs τ _ _ I q fun u H1 x ρ1 I1 q1 => sk σ H1 ρ1 _ _ _ _ I1 q1 fun v H2 y ρ2 I2 q2 => by
    split at q2
    · rename_i ps
      obtain ⟨j, ej, q2⟩ := wK_some q2
      obtain ⟨d, ed, q2⟩ := wO_some q2
      have ekv := kD_is (I2.lk1 ej)
      subst ekv
      obtain ⟨ow, J⟩ := id I2
      have hlt : τ.length = vs.length := I.ltE
      obtain ⟨u', hu', r⟩ := J.temp (j := τ.length) (t := .dct ps) (by simp)
      rw [hlt] at hu'
      simp at hu'
      subst hu'
      obtain ⟨a, kvs, rfl, h1, h2, _⟩ := r.dct_inv
      obtain ⟨w, ew, dw⟩ := h2.get.1 d ed
      refine ⟨a, w, rfl, by rw [← ew]; exact DGet.k h1, ?_⟩
      have J2 : SI C σ H2 ρ2 (vs ++ ([.ref a] ++ [kV j])) (τ ++ ([.dct ps] ++ [y])) ow := by simpa using J
      exact k _ _ _ _ (J2.oneD hlt dw) q2
    · exact q2.elim⟩
end
end Ds
namespace Ds
open PySem L2
def isE (L : List (Int × Tok × Str × Tok)) : List DictEntry := L.map fun q => ⟨hashInt q.1, .int q.1 q.2.1, .str q.2.2.1 q.2.2.2⟩
theorem HasKD.intStr {P : Program} {w : World} {K : PySem.W.Frag} {mg : Str → Option Value} {x : Str} {a : Addr} {ep : Nat} (L : List (Int × Tok × Str × Tok)) (hm : mg x = some (.ref a)) (ns : (a == sysModules) = false)
    (hl : K.lookup a = some ⟨.type "dict", none, .dict (isE L).toArray ep, #[]⟩) (nd : (L.map (·.1)).Nodup) : HasKD P w K mg x (L.map fun q => (.inl q.1, .str q.2.2.1)) := by
  refine ⟨a, L.map fun q => (.inl q.1, .str q.2.2.1), hm, ⟨⟨_, _, ep, L.map fun q => (.inl q.1, .str q.2.2.1 q.2.2.2), hl, ns, ⟨rfl, rfl, rfl⟩, rfl, ?_, ?_, ?_, ?_⟩⟩, fun B H => ?_⟩
  · induction L with
    | nil => exact .nil
    | cons q L ih => exact .cons ⟨rfl, ⟨_, rfl⟩⟩ (by
        have go : ∀ L : List (Int × Tok × Str × Tok), KV (L.map fun q => ((Sum.inl q.1 : Key), V.str q.2.2.1)) (L.map fun q => ((Sum.inl q.1 : Key), Value.str q.2.2.1 q.2.2.2)) := by
          intro L
          induction L with
          | nil => exact .nil
          | cons q L ih => exact .cons ⟨rfl, ⟨_, rfl⟩⟩ ih
        exact go L)
  · intro e he
    rw [List.mem_toArray] at he
    obtain ⟨q, _, rfl⟩ := List.mem_map.mp he
    exact ⟨.inl q.1, by show Value.isInt q.1 (.int q.1 q.2.1) = true; simp [Value.isInt], rfl⟩
  · show Pairs _ (isE L) _
    have go : ∀ L : List (Int × Tok × Str × Tok), Pairs (mixKind P w) (isE L) (L.map fun q => ((Sum.inl q.1 : Key), Value.str q.2.2.1 q.2.2.2)) := by
      intro L
      induction L with
      | nil => exact .nil
      | cons q L ih => exact .cons (by show Value.isInt q.1 (.int q.1 q.2.1) = true; simp [Value.isInt]) rfl ih
    exact go L
  · rw [List.map_map]
    have : (L.map ((fun x : Key × Value => x.1) ∘ fun q => ((Sum.inl q.1 : Key), Value.str q.2.2.1 q.2.2.2))) = (L.map (·.1)).map Sum.inl := by rw [List.map_map]; rfl
    rw [this]
    exact nd.map (f := Sum.inl) fun a b h => by simpa using h
  · have go : ∀ L : List (Int × Tok × Str × Tok), DKs K B H (L.map fun q => ((Sum.inl q.1 : Key), PyData.str q.2.2.1)) (L.map fun q => ((Sum.inl q.1 : Key), V.str q.2.2.1)) := by
      intro L
      induction L with
      | nil => exact .nil
      | cons q L ih => exact .cons (.str _) ih
    exact go L
end Ds
namespace Ds
open PySem L2
def rngT3 (lo c : Int) (n : Nat) : List T := (List.range n).map fun k => .dat (.int (lo + (k : Nat) * c))
def dRange3 (f : DA) : DI := fun ρ Q => f ρ fun ts ρ1 => match ts with
  | [x, y, z] => wI (lk ρ1 x) fun i => wI (lk ρ1 y) fun j => wI (lk ρ1 z) fun c => ∃ n : Nat, RgC i j c n ∧ Q (rngT3 i c n) ρ1
  | _ => False
theorem rngT3_get {lo c : Int} {n i : Nat} {t : T} (e : (rngT3 lo c n)[i]? = some t) : i < n ∧ t = .dat (.int (lo + (i : Nat) * c)) := by
  unfold rngT3 at e
  rw [List.getElem?_map, Option.map_eq_some_iff] at e
  obtain ⟨k, e1, rfl⟩ := e
  obtain ⟨h1, h2⟩ := List.getElem?_eq_some_iff.mp e1
  simp at h1 h2
  subst h2
  exact ⟨h1, rfl⟩
theorem rngT3_len {lo c : Int} {n : Nat} : (rngT3 lo c n).length = n := by simp [rngT3]
theorem walks_rng3 {C : Ctx} {lo c : Int} {n : Nat} : WalksD C (Itc lo c n) [] [] (rngT3 lo c n) := by
  intro i σ H ρ vs τ hτ I
  refine ⟨fun h => by rw [rngT3_len] at h; exact h, fun t et => ?_⟩
  obtain ⟨h1, rfl⟩ := rngT3_get et
  refine ⟨h1, fun w H' hy => ?_⟩
  obtain ⟨rfl, rfl⟩ := hy
  exact SS.int I _
theorem len3 {x y z : T} {xs : List V} (h : [x, y, z].length = xs.length) : ∃ u v w, xs = [u, v, w] := by
  match xs, h with
  | [u, v, w], _ => exact ⟨u, v, w, rfl⟩
/-- divmod(a, b) -/
def dDivmod : DOn := fun ρ ts Q => match ts with
  | [x, y] => wI (lk ρ x) fun i => wI (lk ρ y) fun j => CDivP i j ∧ Q (.dat (.tuple [.int (i / j), .int (i % j)])) ρ
  | _ => False
section
variable {C : Ctx} {tg e e2 e3 : Expr} {fs : DA} {pos p : Pos}
theorem di_range3 (hg : Gl C.X "range") (hm : C.X.mg "range" = none) (ha : DPA C [e, e2, e3] fs) (h1 : starEach [e, e2, e3] C.X.env = (false, eval e C.X.env) :: starEach [e2, e3] C.X.env := by rfl) (h2 : (backTo pos (starEach [e2, e3] C.X.env)).any (·.1) = false := by rfl) :
    DPI C tg (.Call (.Name "range" p) [e, e2, e3] [] pos) (dRange3 fs) :=
  let ⟨_, pa, sa⟩ := ha.ex
  ⟨_, pi_range3 hg hm pa (hs := h1) (hpl := h2), fun σ H ρ vs τ Qd R I h k => sa σ H ρ vs τ _ _ I h fun xs H1 ts ρ1 I1 hl q => by
    split at q
    · rename_i x y z
      obtain ⟨u, v, w, rfl⟩ := len3 hl
      have I0 : SS C σ H1 ρ1 vs τ := by
        have b : SS C σ H1 ρ1 ((vs ++ [u] ++ [v]) ++ [w]) ((τ ++ [x] ++ [y]) ++ [z]) := by simpa using I1
        exact b.pop.pop.pop
      obtain ⟨i, ei, q⟩ := wI_some q
      obtain ⟨j, ej, q⟩ := wI_some q
      obtain ⟨c, ec, q⟩ := wI_some q
      obtain ⟨n, hr, q⟩ := q
      have hτ := I.ltE
      obtain ⟨u', hu, d1⟩ := I1.lkA hτ (j := 0) rfl ei
      obtain ⟨v', hv, d2⟩ := I1.lkA hτ (j := 1) rfl ej
      obtain ⟨w', hw, d3⟩ := I1.lkA hτ (j := 2) rfl ec
      simp at hu hv hw
      subst hu hv hw
      refine ⟨i, j, c, n, by rw [d1.int_eq, d2.int_eq, d3.int_eq], hr, ?_⟩
      exact k _ _ [] [] _ _ (by simpa using I0) rfl walks_rng3 q
    · exact q.elim⟩
theorem sim_divmod : SimC C (fun xs H Q => ∃ i j, xs = [.int i, .int j] ∧ CDivP i j ∧ ∀ p, H p = none → Q (.ref p) (upd H p (.tup [.int (i / j), .int (i % j)]))) dDivmod := by
  intro σ H ρ vs τ xs ts Qd Q I hl hτ q k
  unfold dDivmod at q
  split at q
  · obtain ⟨u, v, rfl⟩ := len2 hl
    obtain ⟨i, ei, q⟩ := wI_some q
    obtain ⟨j, ej, hc, q⟩ := wI_some q
    obtain ⟨u', hu, d1⟩ := SS.lkA I hτ (j := 0) rfl ei
    obtain ⟨v', hv, d2⟩ := SS.lkA I hτ (j := 1) rfl ej
    simp at hu hv
    subst hu hv
    refine ⟨i, j, by rw [d1.int_eq, d2.int_eq], hc, fun p hp => ?_⟩
    obtain ⟨ow, J⟩ := id I
    exact k _ _ _ _ (J.newT hτ hp (.cons (.int _) (.cons (.int _) .nil))) q
  · exact q.elim
theorem de_divmod (hg : Gl C.X "divmod") (hm : C.X.mg "divmod" = none) (ha : DPA C [e, e2] fs) (he : starEach [e, e2] C.X.env = (false, eval e C.X.env) :: starEach [e2] C.X.env := by rfl) (hp : (backTo pos (starEach [e2] C.X.env)).any (·.1) = false := by rfl) :
    DPE C (.Call (.Name "divmod" p) [e, e2] [] pos) (dCB dDivmod fs) :=
  de_callB call_divmodW sim_divmod hg hm (by decide +kernel) ha (by decide) (by decide) he hp
end
end Ds
namespace Ds
open PySem L2
def dLcGoP (P : List T → Prop) (g : DG) (tt : DTt) (fe : DE) (own : List Nat) (K : List D → List T → Prop) : List T → List D → List T → Prop
  | [], acc, ρ => P ρ ∧ K acc ρ
  | t :: its, acc, ρ => P ρ ∧ g t ρ fun ρ1 => tt ρ1 fun b ρ2 => br b (fe ρ2 fun y ρ3 => wD (frz y) fun d => acc.length < sizeLine ∧ dLcGoP P g tt fe own K its (acc ++ [d]) (wipeT ρ3 own)) (dLcGoP P g tt fe own K its acc (wipeT ρ2 own))
theorem dLcGoP_at {P : List T → Prop} {g : DG} {tt : DTt} {fe : DE} {own : List Nat} {K : List D → List T → Prop} : ∀ {its : List T} {acc : List D} {ρ : List T}, dLcGoP P g tt fe own K its acc ρ → P ρ
  | [], _, _, h => h.1
  | _ :: _, _, _, h => h.1
def dLcP (P : List T → Prop) (fi : DI) (g : DG) (tt : DTt) (fe : DE) (own : List Nat) : DE := fun ρ Q => fi ρ fun its ρ1 => dLcGoP P g tt fe own (fun ds ρ2 => Q (.own ds) ρ2) its [] (wipeT ρ1 own)
def WalksDP (C : Ctx) (P : List T → Prop) (J : It) (sv : List V) (sx : List T) (its : List T) : Prop := ∀ (i : Nat) (σ : St) (H : Hp) (ρ : List T) (vs : List V) (τ : List T), τ.length = vs.length → P ρ → SS C σ H ρ (vs ++ sv) (τ ++ sx) →
  (its.length ≤ i → J.stop i H) ∧ ∀ t, its[i]? = some t → J.go i H ∧ ∀ w H', J.yld i H w H' → SS C σ H' ρ (vs ++ sv ++ [w]) (τ ++ sx ++ [t])
def SimIP (C : Ctx) (P : List T → Prop) (wi : TI) (f : DI) : Prop := ∀ (σ : St) (H : Hp) (ρ : List T) (vs : List V) (τ : List T) (Qd : List T → List T → Prop) (R : It → Hp → Prop), SS C σ H ρ vs τ → f ρ Qd →
  (∀ J H' sv sx its ρ', SS C σ H' ρ' (vs ++ sv) (τ ++ sx) → WalksDP C P J sv sx its → Qd its ρ' → R J H') → wi σ H R
section
variable {C : Ctx}
variable {elt tge iter : Expr} {ifs : List Expr} {scope : Scope} {own : List (Str × Nat)} {pos : Pos} {fi : DI} {tt : DTt} {fe : DE} {tg : Tgt}
theorem sim_lcP {P : List T → Prop} {wi : TI} (hi : SimIP C P wi fi) (h1 : ∀ i ∈ tg.sl, i ∈ own.map (·.2)) (h2 : ∀ i ∈ own.map (·.2), i ∉ C.lent ∧ i ∈ C.cv) :
    Sim C (tLc wi (tg.g C.K) (derT C tt) (derE C fe) (own.map (·.2))) (dLcP P fi tg.d tt fe (own.map (·.2))) := fun σ H ρ vs τ Qd Q I h k => hi σ H ρ vs τ _ _ I h fun J H1 sv sx its ρ1 I1 wk q A hD => by
  let os := own.map (·.2)
  have hτ := I.ltE
  have hsx : sx.length = sv.length := by have := I1.ltE; simp at this; omega
  have hc : ∀ i ∈ os, i ∈ C.cv := fun i hi => (h2 i hi).2
  have hl : ∀ i ∈ os, i ∉ C.lent := fun i hi => (h2 i hi).1
  -- the new list under the sources
  have I2 : SS C σ (upd H1 A (.lst [])) (wipeT ρ1 os) (vs ++ [.ref A] ++ sv) (τ ++ [.own []] ++ sx) := by
    obtain ⟨ow, J1⟩ := id I1
    have J2 : SS C σ (upd H1 A (.lst [])) ρ1 (vs ++ sv ++ [.ref A]) (τ ++ sx ++ [.own []]) := by
      have J1' : SI C σ H1 ρ1 (vs ++ sv ++ []) (τ ++ sx ++ []) ow := by simpa using J1
      exact J1'.newL J1.lt hD .nil
    have J3 := SS.under (vs := vs) (τ := τ) (sv := sv) (sx := sx) hsx (sv2 := []) (sx2 := []) rfl (by simpa using J2)
    have J4 : SS C σ (upd H1 A (.lst [])) ρ1 (vs ++ [.ref A] ++ sv) (τ ++ [.own []] ++ sx) := by simpa using J3
    exact J4.toW rfl hc hl
  have hτ2 : (τ ++ [T.own []]).length = (vs ++ [V.ref A]).length := by simp [hτ]
  refine ⟨fun i m H => m = its.length - i ∧ i ≤ its.length ∧ ∃ acc ρ, SS C σ H ρ (vs ++ [.ref A] ++ sv) (τ ++ [.own acc] ++ sx) ∧ wipeT ρ os = ρ ∧ dLcGoP P tg.d tt fe os (fun ds ρ2 => Qd (.own ds) ρ2) (its.drop i) acc ρ, ⟨_, rfl, Nat.zero_le _, [], _, I2, wipeT_idem _ _, q⟩, ?_⟩
  rintro i m H3 ⟨rfl, hle, acc, ρ3, I3, hw3, q3⟩
  have hτ3 : (τ ++ [T.own acc]).length = (vs ++ [V.ref A]).length := by simp [hτ]
  have I3w : SS C (wipe σ os) H3 ρ3 (vs ++ [.ref A] ++ sv) (τ ++ [.own acc] ++ sx) := by
    have := I3.toW (σ := wipe σ os) (own := os) (wipe_idem σ os).symm hc hl
    rwa [hw3] at this
  have hP : P ρ3 := dLcGoP_at q3
  obtain ⟨st, go⟩ := wk i (wipe σ os) H3 ρ3 (vs ++ [.ref A]) (τ ++ [.own acc]) hτ3 hP I3w
  by_cases hlt : i < its.length
  · have e : its[i]? = some its[i] := List.getElem?_eq_getElem hlt
    obtain ⟨g1, y⟩ := go _ e
    refine .inr ⟨g1, fun H' => ∃ acc ρ, SS C σ H' ρ (vs ++ [.ref A] ++ sv) (τ ++ [.own acc] ++ sx) ∧ wipeT ρ os = ρ ∧ dLcGoP P tg.d tt fe os (fun ds ρ2 => Qd (.own ds) ρ2) (its.drop (i + 1)) acc ρ, fun H' ⟨acc, ρ', I', hw', q'⟩ => ⟨_, by omega, rfl, by omega, acc, ρ', I', hw', q'⟩, fun w H4 hy => ?_⟩
    have I4 := y w H4 hy
    have nt : noAli its[i] = true ∨ noAli its[i] = false := by cases noAli its[i] <;> simp
    rw [List.drop_eq_getElem_cons hlt] at q3
    replace q3 := q3.2
    have back : ∀ {σ2 : St} {H5 : Hp} {ρ5 : List T} {acc5 : List D}, wipe σ2 os = wipe σ os → SS C σ2 H5 ρ5 (vs ++ [.ref A] ++ sv) (τ ++ [.own acc5] ++ sx) → dLcGoP P tg.d tt fe os (fun ds ρ2 => Qd (.own ds) ρ2) (its.drop (i + 1)) acc5 (wipeT ρ5 os) →
        ∃ acc ρ, SS C σ H5 ρ (vs ++ [.ref A] ++ sv) (τ ++ [.own acc] ++ sx) ∧ wipeT ρ os = ρ ∧ dLcGoP P tg.d tt fe os (fun ds ρ2 => Qd (.own ds) ρ2) (its.drop (i + 1)) acc ρ := fun {σ2 H5 ρ5 acc5} hw I5 q5 => ⟨acc5, _, I5.toW hw hc hl, wipeT_idem _ _, q5⟩
    have hgo := Tgt.sim (C := C) (tg := tg) (fun i hi => h2 i (h1 i hi)) (wipe σ os) H4 ρ3 _ _ w its[i] _ (fun σ2 H2 => ∀ (hw : wipe σ2 os = wipe σ os), derT C tt σ2 H2 fun b H3 => if b = true then derE C fe σ2 H3 fun y H4 => ∃ acc, H4 A = some (.lst acc) ∧ acc.length < sizeLine ∧
        (∃ acc2 ρ, SS C σ (upd H4 A (.lst (acc ++ [y]))) ρ (vs ++ [.ref A] ++ sv) (τ ++ [.own acc2] ++ sx) ∧ wipeT ρ os = ρ ∧ dLcGoP P tg.d tt fe os (fun ds ρ2 => Qd (.own ds) ρ2) (its.drop (i + 1)) acc2 ρ) else
        (∃ acc ρ, SS C σ H3 ρ (vs ++ [.ref A] ++ sv) (τ ++ [.own acc] ++ sx) ∧ wipeT ρ os = ρ ∧ dLcGoP P tg.d tt fe os (fun ds ρ2 => Qd (.own ds) ρ2) (its.drop (i + 1)) acc ρ)) I4 (tgd_na q3) q3 fun σ5 H5 ρ5 I5 q5 hw => ⟨ρ5, _, _, _, I5, q5, fun b H6 ρ6 I6 q6 => ?_⟩
    · have hon := Tgt.only (K := C.K) (own := os) h1 hgo
      exact tgt_mono hon fun σ' H' ⟨hq, hw⟩ => ⟨by rw [hw, wipe_idem], hq (by rw [hw, wipe_idem])⟩
    · cases b with
      | true =>
        rw [if_pos rfl]
        refine ⟨ρ6, _, _, _, I6, q6.t rfl, fun v7 H7 x7 ρ7 I7 q7 => ?_⟩
        obtain ⟨d, ed, hlen, q7⟩ := wD_some q7
        obtain ⟨zs, hz, hzl, I8⟩ := I7.grow hτ ed
        exact ⟨zs, hz, by omega, back hw I8 q7⟩
      | false =>
        rw [if_neg (by decide)]
        exact back hw I6 (q6.f rfl)
  · have e : i = its.length := by omega
    subst e
    rw [List.drop_length] at q3
    have I5 : SS C σ H3 ρ3 (vs ++ [.ref A]) (τ ++ [.own acc]) := I3.drop hτ3
    exact .inl ⟨st (Nat.le_refl _), k _ _ _ _ I5 q3.2⟩
end
end Ds
namespace Ds
open PySem L2
def ownIs (j : Nat) (ns : List Int) : List T → Prop := fun ρ => ρ[j]? = some (.own (ns.map .int))
def dLcA (j : Nat) (g : DG) (tt : DTt) (fe : DE) (own : List Nat) : DE := fun ρ Q => ∃ ns : List Int, ownIs j ns ρ ∧ dLcGoP (ownIs j ns) g tt fe own (fun ds ρ2 => Q (.own ds) ρ2) (ns.map fun n => .dat (.int n)) [] (wipeT ρ own)
section
variable {C : Ctx}
theorem own_at {σ : St} {H : Hp} {ρ : List T} {vs : List V} {τ : List T} {j : Nat} {ns : List Int} {a : Addr} (h : ownIs j ns ρ) (I : SS C σ H ρ (vs ++ [.ref a]) (τ ++ [.ali j])) : H a = some (.lst (ns.map V.int)) := by
  obtain ⟨ow, J⟩ := id I
  have e : dr ρ (.ali j) = .own (ns.map .int) := by show (ρ[j]?).getD .emp = _; rw [show ρ[j]? = _ from h]; rfl
  rcases J.dr1 with z | ⟨os, r⟩
  · rw [e] at z; cases z
  · rw [e] at r
    cases r with
    | own e0 t => rw [ints_inv t] at e0; exact e0
theorem walks_own {j : Nat} {ns : List Int} {a : Addr} : WalksDP C (ownIs j ns) (Itl C.K a) [.ref a] [.ali j] (ns.map fun n => .dat (.int n)) := by
  intro i σ H ρ vs τ hτ hP I
  have e := own_at hP I
  have hq : SqL C.K H a (ns.map V.int) := .of e
  refine ⟨fun h => ⟨_, hq, by simpa using h⟩, fun t et => ?_⟩
  rw [List.getElem?_map, Option.map_eq_some_iff] at et
  obtain ⟨n, en, rfl⟩ := et
  have hw : (ns.map V.int)[i]? = some (.int n) := by rw [List.getElem?_map, en]; rfl
  refine ⟨⟨_, _, hq, hw⟩, fun w' H' hy => ?_⟩
  obtain ⟨rfl, hy⟩ := hy
  have := hy _ hq
  rw [hw] at this; cases this
  exact SS.int I n
theorem simIP_own {j : Nat} {ns : List Int} (nc : j ∉ C.cv) : SimIP C (ownIs j ns) (iList C.K (tVar j)) (fun ρ Q => ownIs j ns ρ ∧ Q (ns.map fun n => .dat (.int n)) ρ) := fun σ H ρ vs τ Qd R I h k => by
  obtain ⟨hP, q⟩ := h
  obtain ⟨ow, J⟩ := id I
  rcases J.slot (show ρ[j]? = _ from hP) with z | ⟨v, hv, r⟩
  · cases z
  · generalize ow j = os at r
    cases r with
    | own e0 t =>
      rename_i a zs
      have I1 : SS C σ H ρ (vs ++ [.ref a]) (τ ++ [.ali j]) := I.push0 fun ow' J' => .ali (wipe_get nc hv)
      exact ⟨_, hv, a, rfl, ⟨_, .of (own_at hP I1)⟩, k _ H [.ref a] [.ali j] _ ρ I1 walks_own q⟩
end
section
variable {C : Ctx} {elt tge : Expr} {ifs : List Expr} {scope : Scope} {own : List (Str × Nat)} {pos p0 : Pos} {tt : DTt} {fe : DE} {tg : Tgt} {x : Str}
theorem de_lcA (j : Nat) (hc : C.X.calm = true) (hN : C.X.N.Nodup) (hx : C.X.N[j]? = some x) (hv : Vis C.X.env.scope x) (nc : j ∉ C.cv) (ok : BlkOk C.X.N C.X.env.scope scope own) (hg : TgtOk C tge tg scope)
    (ht : ∀ (s : Shared) (H : Hp) (Cc : Addr) (cl : List (Str × Addr)) (fp : List Addr), DPTs (C.blk s H scope Cc cl fp) ifs tt) (he : ∀ (s : Shared) (H : Hp) (Cc : Addr) (cl : List (Str × Addr)) (fp : List Addr), DPE (C.blk s H scope Cc cl fp) elt fe)
    (h1 : ∀ i ∈ tg.sl, i ∈ own.map (·.2)) (h2 : ∀ i ∈ own.map (·.2), i ∉ C.lent ∧ i ∈ C.cv) (hs : ∀ y, foldedSetIterable (.Name x p0) C.X.env y = pure y := by intro _; rfl)
    (hd : (x == ("__debug__" : Str)) = false := by decide) (hcd : (x == ("__classdict__" : Str)) = false := by decide) :
    DPE C (.ListComp elt [⟨tge, .Name x p0, ifs, 0⟩] scope pos) (dLcA j tg.d tt fe (own.map (·.2))) :=
  ⟨_, pe_lc hc hN (pi_list (pe_var hx hv hd hcd)) ok (fun s H Cc cl fp => hg.pg s H Cc cl fp) (fun s H Cc cl fp => pts_der (ht s H Cc cl fp)) (fun s H Cc cl fp => pe_der (he s H Cc cl fp)) hs, fun σ H ρ vs τ Qd Q I h k => by
    obtain ⟨ns, hP, q⟩ := h
    exact sim_lcP (simIP_own nc) h1 h2 σ H ρ vs τ Qd Q I ⟨hP, q⟩ k⟩
end
theorem wD_i' {o : Option D} {d : D} {k : D → Prop} (e : o = some d) (h : k d) : wD o k := by rw [e]; exact h
theorem lcP_fl {α : Type} {P : List T → Prop} {i : Nat} {tt : DTt} {fe : DE} {K : List D → List T → Prop} {ρ : List T} (its : List α) (tg : α → T) (p : α → Bool) (gv : α → D) (hw : ρ.set i .emp = ρ) (hP : P ρ) (hl : its.length ≤ sizeLine) (na : ∀ a ∈ its, noAli (tg a) = true)
    (he : ∀ a ∈ its, ∀ (P : T → List T → Prop) (R : List T → Prop), (p a = true → ∀ y, frz y = some (gv a) → P y (ρ.set i (tg a))) → (p a = false → R (ρ.set i (tg a))) → tt (ρ.set i (tg a)) fun b ρ2 => br b (fe ρ2 P) (R ρ2))
    (hk : K ((its.filter p).map gv) ρ) : dLcGoP P (dgName i) tt fe [i] K (its.map tg) [] ρ := by
  have go : ∀ (l : List α) (acc : List D), (∀ a ∈ l, a ∈ its) → acc.length + l.length ≤ sizeLine → K (acc ++ (l.filter p).map gv) ρ → dLcGoP P (dgName i) tt fe [i] K (l.map tg) acc ρ := by
    intro l
    induction l with
    | nil => intro acc _ _ h; exact ⟨hP, by simpa using h⟩
    | cons a l ih =>
      intro acc hm hz h
      have ha := hm a (List.mem_cons_self ..)
      have hz' : acc.length + l.length + 1 ≤ sizeLine := by simpa [Nat.add_assoc] using hz
      have hwp : wipeT (ρ.set i (tg a)) [i] = ρ := by show (ρ.set i (tg a)).set i .emp = ρ; rw [List.set_set, hw]
      refine ⟨hP, dgn_i (na a ha) (he a ha _ _ (fun hp y ey => ?_) fun hp => ?_)⟩
      · refine wD_i' ey ⟨by omega, ?_⟩
        rw [hwp]
        refine ih _ (fun b hb => hm b (List.mem_cons_of_mem _ hb)) (by simp; omega) ?_
        rw [List.filter_cons, if_pos hp] at h
        simpa using h
      · show dLcGoP P (dgName i) tt fe [i] K (l.map tg) acc (wipeT (ρ.set i (tg a)) [i])
        rw [hwp]
        refine ih acc (fun b hb => hm b (List.mem_cons_of_mem _ hb)) (by omega) ?_
        rw [List.filter_cons, if_neg (by rw [hp]; decide)] at h
        exact h
  exact go its [] (fun _ h => h) (by simpa using hl) (by simpa using hk)
end Ds
namespace Ds
open PySem L2 PySem.Spec PyProof.Rows

theorem excO_ok {P : Program} {w : World} {H : Hp} {h : Heap} {a : Addr} {cls : Value} {d : Option Addr} {ob : Obj} {us : Array Value} (e : h.get? a = some ob) (z : Zc cls d ob) (f : ob.data = .fields us) : ObjOk P w H h a (ExcO cls d a) :=
  ⟨⟨ob, us, e, z, f⟩, ⟨ob, e⟩, fun _ _ ⟨o, v, q, r⟩ k => ⟨o, v, k o q, r⟩⟩
section
variable {X : Cx} {pins : List (Addr × Obj)} {σ : L2.St} {H : Hp} {sI sE : Shared} {G : Heap} {a : Addr} {ob : Obj} {us : Array Value} {cls : Value} {d : Option Addr}
/-- the error's object, new since the body began, is tracked from here on -/
theorem track_exc (I : Inv X pins σ H sI) (J : Inv X pins σ H sE) (hex : X.ex = []) (nb : ∀ b o, sI.heap.get? b = some o → b ∉ frs X.stack → G.get? b = some o) (hG : G.get? a = none) (he : sE.heap.get? a = some ob) (hd : ob.data = .fields us)
    (hz : Zc cls d ob) (na : H a = none) (nL : a ≠ X.env.locals) (nS : a ∉ frs X.stack) : Inv X pins σ (upd H a (ExcO cls d a)) sE := by
  have off : ∀ o, sI.heap.get? a ≠ some o := fun o e => by
    have := nb a o e nS
    rw [hG] at this; cases this
  have n0 : X.s_0.heap.get? a = none := by
    cases e : X.s_0.heap.get? a with
    | none => rfl
    | some o =>
      obtain ⟨o', q⟩ := I.base.there a o e (by rw [hex]; simp)
      exact absurd q (off o')
  have nt : ∀ {b : Addr} {u : HO}, H b = some u → b ≠ a := fun q z => by rw [z, na] at q; cases q
  refine ⟨J.ok, J.os, J.bare, ⟨J.base.keep, J.base.slot, fun b o e n hx => ?_, J.base.there, fun b xs e => ?_, fun b o u e => ?_, fun b ps e => ?_⟩, J.loc, J.cell, ?_, fun x c e => ?_, fun p hp => ?_, fun b u e => ?_, J.len⟩
  · rw [upd_ne (fun z => by rw [z, n0] at e; cases e)]; exact J.base.free b o e n hx
  · have q := J.base.tups b xs e
    rw [upd_ne (nt q)]; exact q
  · have q := J.base.frzs b o u e
    rw [upd_ne (nt q)]; exact q
  · obtain ⟨more, q⟩ := J.base.tbls b ps e
    exact ⟨more, by rw [upd_ne (nt q)]; exact q⟩
  · rw [upd_ne (Ne.symm nL)]; exact J.free
  · obtain ⟨v, o, q, z⟩ := J.cell x c e
    have : c ≠ a := fun y => by rw [y, he] at q; cases q; rw [hd] at z; cases z
    rw [upd_ne this]; exact J.freeC x c e
  · obtain ⟨e1, e2, e3, e4, e5⟩ := J.pin p hp
    have : p.1 ≠ a := fun y => off _ (y ▸ (I.pin p hp).1)
    exact ⟨e1, by rw [upd_ne this]; exact e2, e3, e4, e5⟩
  · by_cases z : b = a
    · subst z
      rw [upd_same] at e; cases e
      exact excO_ok he hz hd
    · rw [upd_ne z] at e
      refine (J.hok b u e).stay (fun c v _ q => q) (fun c q => ?_) fun c xs q => ?_
      · rw [upd_ne (nt q)]; exact q
      · rw [upd_ne (nt q)]; exact q
theorem suite_in (I : Inv X pins σ H sE) : Inv (X.suite a (X.pn ++ pins)) [] σ H sE :=
  ⟨I.ok.suite _ _, I.os, I.bare, I.base, I.loc, I.cell, I.free, I.freeC, fun p hp => I.pin p (by rw [List.append_nil] at hp; exact hp), I.hok, I.len⟩
theorem suite_out {pn' : List (Addr × Obj)} (ok : X.Ok) (I : Inv (X.suite a (X.pn ++ pins)) pn' σ H sE) : Inv X pins σ H sE :=
  ⟨ok, I.os, I.bare, I.base, I.loc, I.cell, I.free, I.freeC, fun p hp => I.pin p (List.mem_append_left _ hp), I.hok, I.len⟩
end
/-- the ends of a suite whose error's name, slot i, goes -/
abbrev endsNo (i : Nat) (D : Ends) : Ends := { nx := fun τ G => D.nx (τ.set i none) G, rt := D.rt, bk := fun τ G => D.bk (τ.set i none) G, ct := fun τ G => D.ct (τ.set i none) G }
/-- every error of the body is caught; the suite sees it tracked -/
def wTr (K : PySem.W.Frag) (c : Value) (i : Nat) (ts : Addr → Value → Option Addr → TS) (D : Ends) : WX := fun cls d σ H =>
  PySem.W.exmOne K cls c = some true ∧ ∀ a, H a = none → ts a cls d (endsNo i D) (σ.set i (some (.ref a))) (upd H a (ExcO cls d a))
section
variable {X : Cx} {x n : Str} {c : Value} {i : Nat} {body suite : List Stmt} {b₀ : Stmt} {np pos pos' : Pos} {tb : WX → TS} {ts : Addr → Value → Option Addr → TS}
theorem ps_try_tr (stk : X.stack = X.env :: X.outer) (fr : X.env.frame = some X.env.locals) (hex : X.ex = []) (nd : X.N.Nodup) (at_ : X.N[i]? = some n) (ln : X.env.kindOf n = some .local) (nm : Names X x c)
    (inside : ∀ (W : WX) (pn : List (Addr × Obj)) (xe : Value → Shared → Prop), Takes (X.tr pn xe) W → PassesOwn (model X.prog X.w) X.A X.env xe → PSs (X.tr pn xe) body (tb W))
    (after : ∀ (a : Addr) (cls : Value) (d : Option Addr) (pn : List (Addr × Obj)), PSs (X.suite a pn) (b₀ :: suite) (ts a cls d)) :
    PS X (.Try body [.ExceptHandler (some (.Name x np)) (some n) (b₀ :: suite) pos'] [] [] pos) (fun D σ H => tb (wTr X.K c i ts D) D σ H) := by
  refine ⟨fun pins s0 σ H D I0 want => ?_⟩
  have okX := I0.ok
  have frames : X.A.frames = some (X.env :: X.outer) := by rw [okX.frames, stk]
  refine wpAny_Try_except ?_
  refine wpAny_mono ((inside (wTr X.K c i ts D) (X.pn ++ pins) (fun er q1 => wpAny (model X.prog X.w) X.A (noteFrame er X.env) (fun _ q2 => wpAny (model X.prog X.w) X.A (setFlight er none) (fun _ q3 =>
    wpAny (model X.prog X.w) X.A (handleBy er X.env [.ExceptHandler (some (.Name x np)) (some n) (b₀ :: suite) pos']) (SP X pins D) X.xe q3) X.xe q2) X.xe q1) (fun er sR air => ?_) PassesOwn.looking).run [] s0 σ H D (I0.toTry _) want) (fun fl s1 res => ?_) (fun _ _ z => z)
  · obtain ⟨a, G, sI, pins', σ1, H1, cls, d, rfl, JT, nb, up, sky, na, os, ag, catches, next⟩ := air
    have JI : Inv X pins σ1 H1 sI := JT.ofTry okX
    have skyX : Sky G (X.env :: X.outer) a (Zc cls d) X.env.locals sR.heap := by rw [← stk]; exact sky
    show wpAny (model X.prog X.w) X.A (noteFrame (.ref a) X.env) _ _ _
    refine Sky.land Zc.steady frames fr skyX fun hp1 fly1 up1 => ?_
    have K1 : Inv X pins σ1 H1 { sR with heap := hp1 } := JI.landed nb fly1.1 (up.trans up1) os ag
    obtain ⟨ob1, us1, at1, z1, f1⟩ := fly1.there
    have notStack : ∀ {hp : Heap} {ob : Obj} {us : Array Value}, hp.FunFrames G (X.env :: X.outer) → hp.get? a = some ob → ob.data = .fields us → a ∉ frs X.stack := fun {hp ob us} ff q dd hm => by
      rw [stk] at hm
      obtain ⟨_, o', q', no⟩ := ff.mem hm
      rw [q] at q'; cases q'
      exact no _ dd
    have nS := notStack fly1.2.2.1 at1 f1
    have nL : a ≠ X.env.locals := fun z => nS (by rw [stk]; exact List.mem_filterMap.mpr ⟨X.env, List.mem_cons_self, by rw [fr, z]⟩)
    have T1 : Inv (X.suite a (X.pn ++ pins)) [] σ1 (upd H1 a (ExcO cls d a)) { sR with heap := hp1 } := suite_in (track_exc JI K1 hex nb fly1.2.1 at1 f1 z1 na nL nS)
    refine wpAny_handleBy_cons (codeAny_handlers_test ?_) (by intro q; cases q)
    have kind : PySem.W.Looks (model X.prog X.w) hp1 (typeOf (.ref a)) cls := fun A Q E s k q => wpAny_typeOf_ref (k _ _ at1) (by rw [z1.1]; exact q)
    have fits := PySem.W.exm_one (M := model X.prog X.w) K1.kIn kind catches
    have named : ∀ {Q E : Value → Shared → Prop}, Q c { sR with heap := hp1 } → wpAny (model X.prog X.w) (X.A.mark (some (.ref a))) (eval (.Name x np) X.env) Q E { sR with heap := hp1 } := fun {Q E} q => by
      obtain ⟨g1, g2, g3 | ⟨g3, g4, g5⟩⟩ := nm
      · exact ld_glob (X := X.suite a (X.pn ++ pins)) T1 g1 g3 q g2
      · exact ld_blt (X := X.suite a (X.pn ++ pins)) T1 g1 g3 g4 q g5 g2
    refine named (fits.here ?_)
    refine codeAny_handlers_suite_as ?_
    refine HandSPX.lands_againZ fly1 fun hp2 fly2 up2 => ?_
    have K2 : Inv X pins σ1 H1 { sR with heap := hp2 } := JI.landed nb fly2.1 ((up.trans up1).trans up2) os ag
    obtain ⟨ob2, us2, at2, z2, f2⟩ := fly2.there
    have T2 : Inv (X.suite a (X.pn ++ pins)) [] σ1 (upd H1 a (ExcO cls d a)) { sR with heap := hp2 } := suite_in (track_exc JI K2 hex nb fly2.2.1 at2 f2 z2 na nL nS)
    refine store_ok (X := X.suite a (X.pn ++ pins)) (v := .ref a) T2 nd at_ (.inl ln) rfl (fun s5 T5 => ?_) (.inr ln)
    refine wpAny_mono ((after a cls d (X.pn ++ pins)).run [] s5 _ _ _ T5 (next a na)) (fun fl s6 res => ?_) (fun _ _ z => z.elim)
    have gone : ∀ {σ6 : L2.St} {H6 : Hp} {Q : Shared → Prop}, Inv (X.suite a (X.pn ++ pins)) [] σ6 H6 s6 → (∀ s7, Inv X pins (σ6.set i none) H6 s7 → Q s7) →
        wpAny (model X.prog X.w) X.A (do bindName X.env n .none; unbindBehindTheSuite X.env n pos') (fun _ s7 => Q s7) X.xe s6 := fun {σ6 H6 Q} T6 hq => gone_ok (suite_out okX T6) nd at_ ln hq
    cases fl with
    | next =>
      obtain ⟨σ6, H6, T6, q6⟩ := res
      exact gone T6 fun s7 J7 => ⟨_, _, J7, q6⟩
    | brk =>
      obtain ⟨σ6, H6, T6, q6⟩ := res
      exact gone T6 fun s7 J7 => ⟨_, _, J7, q6⟩
    | cont =>
      obtain ⟨σ6, H6, T6, q6⟩ := res
      exact gone T6 fun s7 J7 => ⟨_, _, J7, q6⟩
    | ret u =>
      obtain ⟨v6, σ6, H6, T6, r6, q6⟩ := res
      exact gone T6 fun s7 J7 => ⟨_, _, _, J7, r6, q6⟩
  · cases fl with
    | next =>
      obtain ⟨σ2, H2, J2, q⟩ := res
      exact wpAny_execs_nil ⟨σ2, H2, J2.ofTry okX, q⟩
    | brk =>
      obtain ⟨σ2, H2, J2, q⟩ := res
      exact ⟨σ2, H2, J2.ofTry okX, q⟩
    | cont =>
      obtain ⟨σ2, H2, J2, q⟩ := res
      exact ⟨σ2, H2, J2.ofTry okX, q⟩
    | ret u =>
      obtain ⟨v, σ2, H2, J2, r, q⟩ := res
      exact ⟨v, σ2, H2, J2.ofTry okX, r, q⟩
end

/-! ### raise -/
/-- an error class of the text over TeeError/ValueError without its own __init__ -/
structure HasE (K : PySem.W.Frag) (mg : Str → Option Value) (n : Str) : Prop where
  ex : ∃ a, mg n = some (.ref a) ∧ PySem.W.nsIn K mainGlobals n = some (some (.ref a)) ∧ PySem.W.excIn K a [.type "ValueError", .type "Exception", .type "BaseException", .type "object"] "ValueError.__new__" = true ∧
    PySem.W.keepIn K (.ref a) = true ∧ PySem.W.subIn K (.ref a) (.type "BaseException") = some true ∧ PySem.W.typeIn K (.ref a) = some (.type "type")
def dRaise (Wd : Exn → List T → Prop) (n : Str) : DS := fun _ ρ => Wd ⟨n, none⟩ ρ
section
variable {C : Ctx} {x m : Str} {j : Nat} {p p2 pos pos' : Pos}
theorem ds_raise (h : HasE C.X.K C.X.mg x) (hc : C.X.calm = true) (tk : DTk C) (hg : Gl C.X x) (hdb : (x == ("__debug__" : Str)) = false := by decide) : DPS C (.Raise (some (.Call (.Name x p) [.Constant (.str m) j p2] [] pos)) none pos') (dRaise C.Wd x) :=
  let ⟨_, g, ns, x, k, b, t⟩ := h.ex
  ⟨_, ps_raise hc tk (pmk_own PySem.F.excBase_ValueError x g k (raises_own b t) hg hdb), fun σ H ρ vs τ Dd D I na q k => ⟨_, ρ, ⟨ns, rfl⟩, SS.drop (vs := []) (τ := []) I rfl, q⟩⟩
end
/-! ### try: .. except C as e: y = e -/
def tabHas : List Str → Str → Bool
  | [], _ => false
  | n :: r, m => match decide (n = m) with
    | true => true
    | false => tabHas r m
theorem tabHas_mem {m : Str} : ∀ {l : List Str}, tabHas l m = true → m ∈ l
  | [], h => by simp [tabHas] at h
  | n :: r, h => by
    unfold tabHas at h
    cases e : decide (n = m) with
    | true => rw [of_decide_eq_true e]; simp
    | false => rw [e] at h; exact List.mem_cons_of_mem _ (tabHas_mem h)
/-- the wish at an error of the body -/
def dTryW (tab : List Str) (i j : Nat) (D : DEnds) : Exn → List T → Prop := fun ex ρ => tabHas tab ex.cls = true ∧ ex.fs = none ∧ (i < ρ.length ∧ j < ρ.length) ∧ D.nx ((ρ.set j (.exc ex)).set i .emp)
def dTry (tab : List Str) (i j : Nat) (fb : (Exn → List T → Prop) → DS) : DS := fun D ρ => fb (dTryW tab i j D) D ρ
abbrev Ctx.inTry (C : Ctx) (pn : List (Addr × Obj)) (xe : Value → Shared → Prop) (Wd : Exn → List T → Prop) : Ctx := { C with X := C.X.tr pn xe, Wd := Wd }
section
variable {C : Ctx} {σ : L2.St} {H : Hp} {ρ : List T} {vs : List V} {τ : List T}
theorem SS.try_in {pn : List (Addr × Obj)} {xe : Value → Shared → Prop} {Wd : Exn → List T → Prop} (I : SS C σ H ρ vs τ) : SS (C.inTry pn xe Wd) σ H ρ vs τ :=
  let ⟨ow, J⟩ := I
  ⟨ow, ⟨⟨J.ok.b0, J.ok.ob⟩, J.ln, J.lt, J.na, J.cl, J.nd, J.dj, J.ot, J.fr, J.kp, J.tr, J.le⟩⟩
theorem SS.try_out {pn : List (Addr × Obj)} {xe : Value → Shared → Prop} {Wd : Exn → List T → Prop} (I : SS (C.inTry pn xe Wd) σ H ρ vs τ) : SS C σ H ρ vs τ :=
  let ⟨ow, J⟩ := I
  ⟨ow, ⟨⟨J.ok.b0, J.ok.ob⟩, J.ln, J.lt, J.na, J.cl, J.nd, J.dj, J.ot, J.fr, J.kp, J.tr, J.le⟩⟩
/-- a caught error, kept in slot j -/
theorem SS.keepE (I : SS C σ H ρ [] []) {a : Addr} {ex : Exn} {cls : Value} {d : Option Addr} (ha : H a = none) (hx : ExIs C.K H ex cls d) (hf : ex.fs = none) {i j : Nat} (hj : j < ρ.length) (nj : j ∉ C.lent) (ni : i ∉ C.lent) (ci : i ∈ C.cv) (hij : i ≠ j) :
    SS C (((σ.set i (some (.ref a))).set j (some (.ref a))).set i none) (upd H a (ExcO cls d a)) ((ρ.set j (.exc ex)).set i .emp) [] [] := by
  obtain ⟨hn, hd⟩ := hx
  have I1 : SS C σ (upd H a (ExcO cls d a)) ρ ([] ++ [.ref a]) ([] ++ [.exc ex]) := I.push [] (same_upd ha) (fun ow ow' _ _ _ n0 n1 => .exc ⟨cls, d, hn, upd_same, fun z => (n1 a z).elim (fun q => n0 a ha q) (fun q => by simp at q), by rw [hf] at hd ⊢; exact hd⟩) List.nodup_nil (fun _ z => by simp at z) fun _ z => by simp at z
  have I2 := I1.assign hj rfl (.inl rfl) nj
  have e : ((σ.set i (some (.ref a))).set j (some (.ref a))).set i none = (σ.set j (some (.ref a))).set i none := by
    rw [List.set_comm _ _ hij, List.set_set]
  rw [e]
  refine I2.toW (own := [i]) ?_ (fun k hk => by simp at hk; subst hk; exact ci) (fun k hk => by simp at hk; subst hk; exact ni)
  show (σ.set j (some (.ref a))).set i none = ((σ.set j (some (.ref a))).set i none).set i none
  rw [List.set_set]

theorem ds_try {x n y : Str} {c : Value} {i j : Nat} {body : List Stmt} {np py pe spos pos pos' : Pos} {tab : List Str} {fb : (Exn → List T → Prop) → DS}
    (hcat : ∀ m ∈ tab, ∀ cls, PySem.W.nsIn C.X.K mainGlobals m = some (some cls) → PySem.W.exmOne C.X.K cls c = some true)
    (hb : ∀ (Wd : Exn → List T → Prop) (pn : List (Addr × Obj)) (xe : Value → Shared → Prop), DTk (C.inTry pn xe Wd) → PassesOwn (model C.X.prog C.X.w) C.X.A C.X.env xe → DPSs (C.inTry pn xe Wd) body (fb Wd))
    (hi : C.X.N[i]? = some n) (hj : C.X.N[j]? = some y) (nm : Names C.X x c) (nl : j ∉ C.lent := by decide) (ni : i ∉ C.lent := by decide) (ci : i ∈ C.cv := by decide) (hij : i ≠ j := by decide)
    (nd : C.X.N.Nodup := by decide) (stk : C.X.stack = C.X.env :: C.X.outer := by rfl) (fr : C.X.env.frame = some C.X.env.locals := by rfl) (hex : C.X.ex = [] := by rfl) (ln : C.X.env.kindOf n = some .local := by rfl) (lny : C.X.env.kindOf y = some .local := by rfl)
    (hv : Vis C.X.env.scope n := by first | exact Or.inl rfl | exact Or.inr (Or.inl rfl) | exact Or.inr (Or.inr rfl)) (hd1 : (n == ("__debug__" : Str)) = false := by decide) (hd2 : (n == ("__classdict__" : Str)) = false := by decide) :
    DPS0 C (.Try body [.ExceptHandler (some (.Name x np)) (some n) [.Assign [.Name y py] (.Name n pe) spos] pos'] [] [] pos) (dTry tab i j fb) := by
  have suite : ∀ (a : Addr) (cls : Value) (d : Option Addr) (pn : List (Addr × Obj)), PSs (C.X.suite a pn) [.Assign [.Name y py] (.Name n pe) spos] (tAsg (tVar i) (gName j)) := fun a cls d pn =>
    pss_one (ps_set (X := C.X.suite a pn) nd hj (.inl lny) (pe_var (X := C.X.suite a pn) hi hv hd1 hd2) rfl (.inr lny))
  refine ⟨_, ps_try_tr (tb := fun W D σ H => ∀ (pn : List (Addr × Obj)) (xe : Value → Shared → Prop), Takes (C.X.tr pn xe) W → PassesOwn (model C.X.prog C.X.w) C.X.A C.X.env xe → ∃ t, PSs (C.X.tr pn xe) body t ∧ t D σ H) stk fr hex nd hi ln nm
    (fun W pn xe tk pass => ⟨fun pins s σ H D I h => let ⟨_, p, q⟩ := h pn xe tk pass; p.run pins s σ H D I q⟩) suite, fun σ H ρ Dd D I h k pn xe tk pass => ?_⟩
  have dtk : DTk (C.inTry pn xe (dTryW tab i j Dd)) := tk.imp fun cls d σ1 H1 ⟨ex, ρ1, hx, I1, h1, h2, ⟨li, lj⟩, h3⟩ => by
    refine ⟨hcat _ (tabHas_mem h1) cls hx.1, fun a na => ?_⟩
    have I1 : SS C σ1 H1 ρ1 [] [] := I1.try_out
    refine ⟨.ref a, List.getElem?_set_self (by rw [← I1.lnN]; exact li), ?_⟩
    exact k.nx _ _ _ (I1.keepE na hx h2 lj nl ni ci hij) h3
  obtain ⟨t, p, s⟩ := (hb _ pn xe dtk pass).ex
  exact ⟨t, p, s σ H ρ [] [] Dd D I.try_in rfl h ⟨fun σ H ρ I q => k.nx σ H ρ I.try_out q, fun σ H ρ v x I q => k.rt σ H ρ v x I.try_out q, fun σ H ρ I q => k.bk σ H ρ I.try_out q, fun σ H ρ I q => k.ct σ H ρ I.try_out q⟩⟩
end
end Ds
namespace Ds
open PySem L2
/-! ### isinstance of a caught error -/
/-- the class D of the error that H keeps at a, against the class cv -/
def rIsX (K : PySem.W.Frag) : List V → Hp → VK → Prop := fun xs H Q => ∃ (a D : Addr) (c : V) (cv : Value) (b : Bool), xs = [.ref a, c] ∧ H a = some (ExcO (.ref D) none a) ∧ ExcC K D ∧ ClsV c cv ∧ PySem.W.kitOne K (.ref D) cv = some b ∧ Q (.bl b) H
def rIsXT (K : PySem.W.Frag) : List V → Hp → VK → Prop := fun xs H Q => ∃ (a D tp : Addr) (cs : List V) (us : List Value) (b : Bool), xs = [.ref a, .ref tp] ∧ H a = some (ExcO (.ref D) none a) ∧ ExcC K D ∧ H tp = some (.tup cs) ∧ Paired ClsV cs us ∧ PySem.W.kitAny K (.ref D) us = some b ∧ Q (.bl b) H
section
variable {X : Cx} {pins : List (Addr × Obj)} {σ : St} {H : Hp} {s : Shared}
theorem exc_at {a D : Addr} (I : Inv X pins σ H s) (h : H a = some (ExcO (.ref D) none a)) : ∃ ob, PySem.W.InstAt s.heap a ob D none := by
  obtain ⟨⟨ob, us, at_, z, f⟩, _⟩ := I.hok a _ h
  obtain ⟨oc, od, dt, sl⟩ := ob
  obtain ⟨z1, z2⟩ := z
  dsimp only at z1 z2 f
  subst z1 z2 f
  exact ⟨_, at_, rfl, rfl, trivial⟩
theorem call_isX : CallR X (.builtin "isinstance") (rIsX X.K) := fun pins s σ H xs us Q I rel want => by
  obtain ⟨a, D, c, cv, b, rfl, tracked, good, kind, kit, q⟩ := want
  obtain ⟨u1, u2, rfl, r1, r2⟩ := vals2 rel
  cases (show u1 = Value.ref a from r1)
  obtain rfl := kind.eq r2
  obtain ⟨ob, J⟩ := exc_at I tracked
  exact PySem.W.kia_one (PySem.W.handS_kitx_exc good.hg good.hk good.hs good.hd good.ha good.hn good.ht good.hm) I.kIn J kit (fun z => nomatch z) fun tk => ⟨.bl b, H, I.tok tk, rfl, q⟩
theorem call_isXT : CallR X (.builtin "isinstance") (rIsXT X.K) := fun pins s σ H xs us Q I rel want => by
  obtain ⟨a, D, tp, cs, ws, b, rfl, tracked, good, tup, kinds, kit, q⟩ := want
  obtain ⟨u1, u2, rfl, r1, r2⟩ := vals2 rel
  cases (show u1 = Value.ref a from r1)
  cases (show u2 = Value.ref tp from r2)
  obtain ⟨ob, J⟩ := exc_at I tracked
  obtain ⟨_, its, rv, o, h1, h2, n, h3⟩ := (show ObjOk X.prog X.w H s.heap tp (.tup cs) from I.hok tp _ tup)
  have e3 := ClsV.all kinds rv
  subst e3
  obtain ⟨oc, od, dt, sl⟩ := o
  simp only at h2 h3
  subst h2 h3
  exact PySem.W.kia_tup (PySem.W.handS_kitx_exc good.hg good.hk good.hs good.hd good.ha good.hn good.ht good.hm) I.kIn J h1 kit (fun z => nomatch z) fun tk => ⟨.bl b, H, I.tok tk, rfl, q⟩
end
def lkB : List (Str × Bool) → Str → Option Bool
  | [], _ => none
  | (n, b) :: r, m => match decide (n = m) with
    | true => some b
    | false => lkB r m
/-- an error of the class named m, asked for the class cv -/
structure IsX (K : PySem.W.Frag) (m : Str) (cv : Value) (b : Bool) : Prop where
  ex : ∃ D, PySem.W.nsIn K mainGlobals m = some (some (.ref D)) ∧ ExcC K D ∧ PySem.W.kitOne K (.ref D) cv = some b
def Tab (K : PySem.W.Frag) (cv : Value) (tb : List (Str × Bool)) : Prop := ∀ q ∈ tb, IsX K q.1 cv q.2
theorem Tab.nil {K : PySem.W.Frag} {cv : Value} : Tab K cv [] := fun q h => by simp at h
theorem Tab.cons {K : PySem.W.Frag} {cv : Value} {m : Str} {b : Bool} {tb : List (Str × Bool)} (h : IsX K m cv b) (t : Tab K cv tb) : Tab K cv ((m, b) :: tb) := fun q hq => by
  rcases List.mem_cons.mp hq with rfl | hq
  · exact h
  · exact t q hq
theorem lkB_mem {m : Str} {b : Bool} : ∀ {tb : List (Str × Bool)}, lkB tb m = some b → (m, b) ∈ tb
  | [], h => by simp [lkB] at h
  | (n, c) :: r, h => by
    unfold lkB at h
    cases e : decide (n = m) with
    | true => rw [e] at h; cases h; rw [of_decide_eq_true e]; simp
    | false => rw [e] at h; exact List.mem_cons_of_mem _ (lkB_mem h)
def dIsX (tb : List (Str × Bool)) (fe : DE) : DE := fun ρ Q => fe ρ fun x ρ1 => match dr ρ1 x with
  | .exc ex => ∃ b, (ex.fs = none ∧ lkB tb ex.cls = some b) ∧ Q (.dat (.bool b)) ρ1
  | _ => False
section
variable {C : Ctx} {e : Expr} {fe : DE} {p p1 pos : Pos} {x : Str} {tb : List (Str × Bool)}
theorem de_isXv {c : V} {cv : Value} (hg : Gl C.X "isinstance") (hm : C.X.mg "isinstance" = none) (he : DPE C e fe) (hc : PE C.X (.Name x p1) (tC c)) (hv : ClsV c cv) (ht : Tab C.K cv tb)
    (hs : starEach [e, .Name x p1] C.X.env = (false, eval e C.X.env) :: starEach [.Name x p1] C.X.env := by rfl) (hs2 : starEach [.Name x p1] C.X.env = (false, eval (.Name x p1) C.X.env) :: starEach [] C.X.env := by rfl) (hpl : (backTo pos (starEach [.Name x p1] C.X.env)).any (·.1) = false := by rfl) :
    DPE C (.Call (.Name "isinstance" p) [e, .Name x p1] [] pos) (dIsX tb fe) :=
  let ⟨_, pe, se⟩ := he.ex
  ⟨_, pe_callB call_isX hg hm PyProof.Rows.boot_isinstance (pa_cons pe (pa_cons hc pa_nil hs2) hs) (by decide) (by decide) hs hpl, fun σ H ρ vs τ Qd Q I h k => se σ H ρ vs τ _ _ I h fun v H1 t ρ1 I1 q => by
    obtain ⟨ow, J⟩ := id I1
    rcases J.dr1 with z | ⟨os, r⟩
    · rw [z] at q; exact q.elim
    · generalize Ds.dr ρ1 t = t' at q r
      cases r with
      | exc h =>
        obtain ⟨b, ⟨hf, eb⟩, q⟩ := q
        obtain ⟨cls, d, hn, ha, _, hd⟩ := h
        obtain ⟨D, h1, h2, h3⟩ := (ht _ (lkB_mem eb)).ex
        rw [h1] at hn; cases hn
        rw [hf] at hd
        have hd : d = none := hd
        subst hd
        exact ⟨_, D, c, cv, b, rfl, ha, h2, hv, h3, k _ _ _ _ (I1.pop.bool _) q⟩
      | _ => exact q.elim⟩
/-- the class is the text's own, or a built-in one -/
theorem de_isX {a : Addr} (hg : Gl C.X "isinstance") (hm : C.X.mg "isinstance" = none) (he : DPE C e fe) (hgx : Gl C.X x) (hmx : C.X.mg x = some (.ref a)) (ht : Tab C.K (.ref a) tb) (hd : (x == ("__debug__" : Str)) = false := by decide)
    (hs : starEach [e, .Name x p1] C.X.env = (false, eval e C.X.env) :: starEach [.Name x p1] C.X.env := by rfl) (hs2 : starEach [.Name x p1] C.X.env = (false, eval (.Name x p1) C.X.env) :: starEach [] C.X.env := by rfl) (hpl : (backTo pos (starEach [.Name x p1] C.X.env)).any (·.1) = false := by rfl) :
    DPE C (.Call (.Name "isinstance" p) [e, .Name x p1] [] pos) (dIsX tb fe) := de_isXv hg hm he (pe_glob (v := .ref a) hgx hmx rfl hd) (.own a) ht hs hs2 hpl
theorem de_isXb {T : String} (hg : Gl C.X "isinstance") (hm : C.X.mg "isinstance" = none) (he : DPE C e fe) (hgx : Gl C.X x) (hmx : C.X.mg x = none) (hv : bootBuiltins x = some (.type T)) (ht : Tab C.K (.type T) tb) (hn : x ≠ "__name__" := by decide) (hd : (x == ("__debug__" : Str)) = false := by decide)
    (hs : starEach [e, .Name x p1] C.X.env = (false, eval e C.X.env) :: starEach [.Name x p1] C.X.env := by rfl) (hs2 : starEach [.Name x p1] C.X.env = (false, eval (.Name x p1) C.X.env) :: starEach [] C.X.env := by rfl) (hpl : (backTo pos (starEach [.Name x p1] C.X.env)).any (·.1) = false := by rfl) :
    DPE C (.Call (.Name "isinstance" p) [e, .Name x p1] [] pos) (dIsX tb fe) := de_isXv hg hm he (pe_bltn hgx hmx hv (v := .ty T) rfl hn hd) (.ty T) ht hs hs2 hpl
end
/-- a class of the text, and which errors are of it -/
structure HasI (K : PySem.W.Frag) (mg : Str → Option Value) (x : Str) (tb : List (Str × Bool)) : Prop where
  ex : ∃ a, mg x = some (.ref a) ∧ Tab K (.ref a) tb
section
variable {C : Ctx} {e : Expr} {fe : DE} {p p1 pos : Pos} {x : Str} {tb : List (Str × Bool)}
theorem de_isI (hg : Gl C.X "isinstance") (hm : C.X.mg "isinstance" = none) (he : DPE C e fe) (hgx : Gl C.X x) (h : HasI C.X.K C.X.mg x tb) (hd : (x == ("__debug__" : Str)) = false := by decide)
    (hs : starEach [e, .Name x p1] C.X.env = (false, eval e C.X.env) :: starEach [.Name x p1] C.X.env := by rfl) (hs2 : starEach [.Name x p1] C.X.env = (false, eval (.Name x p1) C.X.env) :: starEach [] C.X.env := by rfl) (hpl : (backTo pos (starEach [.Name x p1] C.X.env)).any (·.1) = false := by rfl) :
    DPE C (.Call (.Name "isinstance" p) [e, .Name x p1] [] pos) (dIsX tb fe) := let ⟨_, h1, h2⟩ := h.ex; de_isX hg hm he hgx h1 h2 hd hs hs2 hpl
end
theorem kit_sub {K : PySem.W.Frag} {D E : Addr} {b : Bool} (hd : PySem.W.hasDictIn K E = true) (ht : PySem.W.typeIn K (.ref E) = some (.type "type")) (hs : PySem.W.subIn K (.ref D) (.ref E) = some b) (self : PySem.W.subIn K (.ref D) (.ref D) = some true) : PySem.W.kitOne K (.ref D) (.ref E) = some b := by
  unfold PySem.W.kitOne
  by_cases q : ((Value.ref D) == (.ref E)) = true
  · rw [if_pos q]
    have e : Value.ref D = .ref E := beq_iff_eq.mp q
    rw [← e, self] at hs
    exact hs
  · rw [if_neg q]
    show (if ((PySem.W.clsIn K E).isSome && PySem.W.typeIn K (Value.ref E) == some (Value.type "type")) = true then PySem.W.subIn K (Value.ref D) (Value.ref E) else none) = some b
    have c : (PySem.W.clsIn K E).isSome = true := by
      obtain ⟨cd, hc, _⟩ := PySem.W.any_some hd
      rw [hc]; rfl
    rw [c, ht]
    exact hs
theorem kit_self {K : PySem.W.Frag} {t : Value} : PySem.W.kitOne K t t = some true := by
  unfold PySem.W.kitOne
  rw [if_pos (beq_self_eq_true t)]
theorem kit_subT {K : PySem.W.Frag} {D : Addr} {T : String} {b : Bool} (hm : PySem.W.kitMeta T = true) (hs : PySem.W.subIn K (.ref D) (.type T) = some b) : PySem.W.kitOne K (.ref D) (.type T) = some b := by
  unfold PySem.W.kitOne
  rw [if_neg (by simp)]
  show (if PySem.W.kitMeta T = true then PySem.W.subIn K (Value.ref D) (Value.type T) else none) = some b
  rw [if_pos hm]
  exact hs
def Catch (K : PySem.W.Frag) (c : Value) (tab : List Str) : Prop := ∀ m ∈ tab, ∀ cls, PySem.W.nsIn K mainGlobals m = some (some cls) → PySem.W.exmOne K cls c = some true
theorem Catch.nil {K : PySem.W.Frag} {c : Value} : Catch K c [] := fun m h => by simp at h
theorem Catch.cons {K : PySem.W.Frag} {c cls : Value} {m : Str} {tab : List Str} (ns : PySem.W.nsIn K mainGlobals m = some (some cls)) (h : PySem.W.exmOne K cls c = some true) (t : Catch K c tab) : Catch K c (m :: tab) := fun q hq cls' hc => by
  rcases List.mem_cons.mp hq with rfl | hq
  · rw [ns] at hc; cases hc; exact h
  · exact t q hq cls' hc
structure HasTry (K : PySem.W.Frag) (mg : Str → Option Value) (x : Str) (tab : List Str) : Prop where
  ex : ∃ c, mg x = some c ∧ Catch K c tab
theorem ds_tryI {C : Ctx} {x n y : Str} {i j : Nat} {body : List Stmt} {np py pe spos pos pos' : Pos} {tab : List Str} {fb : (Exn → List T → Prop) → DS} (h : HasTry C.X.K C.X.mg x tab)
    (hb : ∀ (Wd : Exn → List T → Prop) (pn : List (Addr × Obj)) (xe : Value → Shared → Prop), DTk (C.inTry pn xe Wd) → PassesOwn (model C.X.prog C.X.w) C.X.A C.X.env xe → DPSs (C.inTry pn xe Wd) body (fb Wd))
    (hi : C.X.N[i]? = some n) (hj : C.X.N[j]? = some y) (gl : Gl C.X x) (nd : C.X.N.Nodup) (nl : j ∉ C.lent) (ni : i ∉ C.lent) (ci : i ∈ C.cv) (hij : i ≠ j := by decide) (hdb : (x == ("__debug__" : Str)) = false := by decide)
    (stk : C.X.stack = C.X.env :: C.X.outer := by rfl) (fr : C.X.env.frame = some C.X.env.locals := by rfl) (hex : C.X.ex = [] := by rfl) (ln : C.X.env.kindOf n = some .local := by rfl) (lny : C.X.env.kindOf y = some .local := by rfl)
    (hv : Vis C.X.env.scope n := by first | exact Or.inl rfl | exact Or.inr (Or.inl rfl) | exact Or.inr (Or.inr rfl)) (hd1 : (n == ("__debug__" : Str)) = false := by decide) (hd2 : (n == ("__classdict__" : Str)) = false := by decide) :
    DPS0 C (.Try body [.ExceptHandler (some (.Name x np)) (some n) [.Assign [.Name y py] (.Name n pe) spos] pos'] [] [] pos) (dTry tab i j fb) :=
  let ⟨_, hm, hc⟩ := h.ex
  ds_try hc hb hi hj ⟨gl, hdb, .inl hm⟩ nl ni ci hij nd stk fr hex ln lny hv hd1 hd2
/-! ### None or an error -/
/-- is None, of data or of an error -/
def dIsNX : DO2 := fun ρ x y Q => wD (lk ρ y) fun d => match d with
  | .none => match dr ρ x with
    | .exc _ => Q (.dat (.bool false)) ρ
    | .dat d => Q (.dat (.bool (isN d))) ρ
    | .bor d => Q (.dat (.bool (isN d))) ρ
    | _ => False
  | _ => False
theorem dc_isNX {C : Ctx} {b : Expr} : DCmp C .Is b dIsNX := ⟨_, op_isN, fun σ H ρ vs τ u v x y Qd Q I q k => by
    unfold dIsNX at q
    obtain ⟨d, ed, q⟩ := wD_some q
    have ev := I.lk1 ed
    have fin : ∀ b, Qd (.dat (.bool b)) ρ → Q (.bl b) H := fun b h => k _ _ _ _ (I.pop.pop.bool b) h
    obtain ⟨ow, J⟩ := id I
    cases d <;> first | exact q.elim | skip
    refine ⟨ev.none_eq, ?_⟩
    rcases J.dr2 with z | ⟨os, r⟩
    · rw [z] at q; exact q.elim
    · generalize Ds.dr ρ x = t at q r
      cases r with
      | exc h => exact fin _ (by simpa using q)
      | dat h => rw [isN_eq h]; exact fin _ q
      | bor h => rw [isN_eq h]; exact fin _ q
      | _ => exact q.elim, nobehind _ (by decide) (by decide)⟩
/-! ### a def out of a list of defs -/
theorem pe_callGE {X : Cx} {fe e : Expr} {es : List Expr} {tf : TE} {t : TA} {pos : Pos} {k : Nat} {E : St → XK} {S : Addr → Sp → Prop} (hf : PE X fe tf) (hS : ∀ f sp, S f sp → ∃ fd ps, FnG X.prog X.w X.K X.mg X.base k f fd ps sp ∧ PySem.W.keepIn X.K (.ref f) = true ∧ Binds X.K fd ps []) (hr : RoomG k X.A)
    (hx : ∀ σ, PassesAt (L2.CX X.prog X.w) X σ (E σ)) (ha : PA X (e :: es) t)
    (ht : eval (.Call fe (e :: es) [] pos) X.env = (do callWith pos (← eval fe X.env) [] (backTo pos (starEach (e :: es) X.env)) (backToKw pos (keywordEach [] X.env))) := by rfl)
    (he : starEach (e :: es) X.env = (false, eval e X.env) :: starEach es X.env := by rfl) (hpl : (backTo pos (starEach es X.env)).any (·.1) = false := by rfl) :
    PE X (.Call fe (e :: es) [] pos) (fun σ H Q => tf σ H fun v H1 => ∃ f sp, v = .ref f ∧ S f sp ∧ t σ H1 fun vs H2 => sp vs H2 Q (E σ)) := by
  constructor
  intro pins s σ H Q I h
  rw [ht]
  refine wpAny_bind (thn (hf.run pins s σ H _ I h) fun u s1 got => ?_)
  obtain ⟨v, H1, I1, r1, f, sp, ev, hs, q⟩ := got
  subst ev
  cases (show u = Value.ref f from r1)
  obtain ⟨fd, ps, F, hk, hb⟩ := hS f sp hs
  have args := ha.run pos pins s1 σ H1 _ I1 q
  refine PySem.W.callWith_K (h₀ := X.base) I.ok.mod.kin hk (thn args fun us s2 hh => ?_) he hpl
  obtain ⟨vs, H2, J, r, q2⟩ := hh
  exact ⟨J.kIn, runG F hr hb .nil (hx σ) J r (by rw [List.append_nil]; exact q2)⟩
theorem SS.newer {C : Ctx} {σ : St} {H : Hp} {ρ : List T} {vs : List V} {τ : List T} (I : SS C σ H ρ vs τ) {p : Addr} {o : HO} (hp : H p = none) : SS C σ (upd H p o) ρ vs τ :=
  (I.push (v := .non) (t := .dat .none) [] (same_upd hp) (fun _ _ _ _ _ _ _ => .dat .none) List.nodup_nil (fun _ z => by simp at z) fun _ z => by simp at z).pop
/-- one of two defs by a number in slot i, less m -/
def dPick2 (i : Nat) (m : Int) (ms1 : List Md) (sp1 : DSp) (ms2 : List Md) (sp2 : DSp) (Wd : Exn → List T → Prop) (fs : DA) : DE := fun ρ Q => match ρ[i]? with
  | some (.dat (.int n)) => (n - m = 0 ∧ dCall ms1 sp1 Wd fs ρ Q) ∨ (n - m = 1 ∧ dCall ms2 sp2 Wd fs ρ Q)
  | some (.bor (.int n)) => (n - m = 0 ∧ dCall ms1 sp1 Wd fs ρ Q) ∨ (n - m = 1 ∧ dCall ms2 sp2 Wd fs ρ Q)
  | _ => False
section
variable {C : Ctx} {k1 k2 j i : Nat} {ps1 ps2 : List Str} {x1 x2 : Str} {e ie : Expr} {es : List Expr} {fs : DA} {ms1 ms2 : List Md} {sp1 sp2 : DSp} {te : TE} {m : Int} {q1 q2 lpos spos pos : Pos}
theorem de_pick2 (h1 : Has C.X.prog C.X.w C.X.K C.X.mg C.X.base x1 k1 ps1 ms1 sp1) (h2 : Has C.X.prog C.X.w C.X.K C.X.mg C.X.base x2 k2 ps2 ms2 sp2) (hr : RoomG j C.X.A) (hk1 : k1 ≤ j) (hk2 : k2 ≤ j) (tk : DTk C) (g1 : Gl C.X x1) (g2 : Gl C.X x2)
    (pi : PE C.X ie te) (hi : ∀ σ H Q (n : Int), σ[i]? = some (some (.int n)) → Q (.int (n - m)) H → te σ H Q) (ix : PlainIx ie) (ha : DPA C (e :: es) fs) (d1 : (x1 == ("__debug__" : Str)) = false := by decide) (d2 : (x2 == ("__debug__" : Str)) = false := by decide)
    (s1 : starEach [.Name x1 q1, .Name x2 q2] C.X.env = (false, eval (.Name x1 q1) C.X.env) :: starEach [.Name x2 q2] C.X.env := by rfl) (s2 : starEach [.Name x2 q2] C.X.env = (false, eval (.Name x2 q2) C.X.env) :: starEach [] C.X.env := by rfl)
    (ht : eval (.Call (.Subscript (.List [.Name x1 q1, .Name x2 q2] lpos) ie spos) (e :: es) [] pos) C.X.env = (do callWith pos (← eval (.Subscript (.List [.Name x1 q1, .Name x2 q2] lpos) ie spos) C.X.env) [] (backTo pos (starEach (e :: es) C.X.env)) (backToKw pos (keywordEach [] C.X.env))) := by rfl)
    (he : starEach (e :: es) C.X.env = (false, eval e C.X.env) :: starEach es C.X.env := by rfl) (hpl : (backTo pos (starEach es C.X.env)).any (·.1) = false := by rfl) :
    DPE C (.Call (.Subscript (.List [.Name x1 q1, .Name x2 q2] lpos) ie spos) (e :: es) [] pos) (dPick2 i m ms1 sp1 ms2 sp2 C.Wd fs) := by
  obtain ⟨f1, fd1, m1, kp1, b1, F1⟩ := h1.ex
  obtain ⟨f2, fd2, m2, kp2, b2, F2⟩ := h2.ex
  obtain ⟨_, pa, sa⟩ := ha.ex
  refine ⟨_, pe_callGE (k := j) (S := fun f sp => (f = f1 ∧ sp = toSp C.X.K ps1.length (lnOf ms1) sp1) ∨ (f = f2 ∧ sp = toSp C.X.K ps2.length (lnOf ms2) sp2))
    (pe_ix ix_seq (pe_lst (pa_cons (pe_glob (v := .ref f1) g1 m1 rfl d1) (pa_cons (pe_glob (v := .ref f2) g2 m2 rfl d2) pa_nil s2) s1)) pi ix)
    (fun f sp h => ?_) hr (fun σ => passAt tk σ) pa ht he hpl, fun σ H ρ vs τ Qd Q I h kk => ?_⟩
  · rcases h with ⟨rfl, rfl⟩ | ⟨rfl, rfl⟩
    · exact ⟨fd1, ps1, F1.mono hk1, kp1, b1⟩
    · exact ⟨fd2, ps2, F2.mono hk2, kp2, b2⟩
  · suffices got : ∃ n : Int, σ[i]? = some (some (.int n)) ∧ ((n - m = 0 ∧ dCall ms1 sp1 C.Wd fs ρ Qd) ∨ (n - m = 1 ∧ dCall ms2 sp2 C.Wd fs ρ Qd)) by
      clear h
      obtain ⟨n, en, h⟩ := got
      refine ⟨by show 2 ≤ sizeLine; decide, fun p hp => hi σ _ _ n en ?_⟩
      have I' : SS C σ (upd H p (.lst [.ref f1, .ref f2])) ρ vs τ := I.newer hp
      rcases h with ⟨e0, h⟩ | ⟨e0, h⟩
      · rw [e0]
        refine .inl ⟨p, [.ref f1, .ref f2], 0, .ref f1, rfl, rfl, .of upd_same, rfl, f1, _, rfl, .inl ⟨rfl, rfl⟩, ?_⟩
        exact sa σ _ ρ vs τ _ _ I' h fun xs H1 as ρ1 I1 hl q => sim_call h1.len I1 hl (I1.lenA hl) q kk h1.mono
      · rw [e0]
        refine .inl ⟨p, [.ref f1, .ref f2], 1, .ref f2, rfl, rfl, .of upd_same, rfl, f2, _, rfl, .inr ⟨rfl, rfl⟩, ?_⟩
        exact sa σ _ ρ vs τ _ _ I' h fun xs H1 as ρ1 I1 hl q => sim_call h2.len I1 hl (I1.lenA hl) q kk h2.mono
    unfold dPick2 at h
    obtain ⟨ow, J⟩ := id I
    cases e : ρ[i]? with
    | none => rw [e] at h; exact h.elim
    | some t =>
      rw [e] at h
      rcases J.slot e with rfl | ⟨v, hv, r⟩
      · exact h.elim
      · cases t with
        | dat d =>
          cases d with
          | int n => exact ⟨n, by rw [hv, r.dat_inv.int_eq], h⟩
          | _ => exact h.elim
        | bor d =>
          cases d with
          | int n => exact ⟨n, by rw [hv, r.bor_inv.int_eq], h⟩
          | _ => exact h.elim
        | _ => exact h.elim
end
theorem te_slot {i : Nat} : ∀ (σ : St) (H : Hp) (Q : VK) (n : Int), σ[i]? = some (some (.int n)) → Q (.int (n - 0)) H → tVar i σ H Q := fun σ H Q n e q => ⟨_, e, by rw [Int.sub_zero] at q; exact q⟩
theorem te_slot1 {i : Nat} {m : Int} : ∀ (σ : St) (H : Hp) (Q : VK) (n : Int), σ[i]? = some (some (.int n)) → Q (.int (n - m)) H → tOp (rI0 fun i j => .int (i - j)) (tVar i) (tC (.int m)) σ H Q := fun σ H Q n e q => ⟨_, e, n, m, rfl, rfl, q⟩
end Ds
namespace Ds
open PySem L2
def tRefs : List Addr → TA
  | [] => tNil
  | a :: r => tCons (tC (.ref a)) (tRefs r)
theorem tRefs_run {σ : St} {H : Hp} (as : List Addr) : ∀ {Q : List V → Hp → Prop}, Q (as.map V.ref) H → tRefs as σ H Q := by
  induction as with
  | nil => intro Q h; exact h
  | cons a as ih => intro Q h; exact ih (Q := fun xs H2 => Q (V.ref a :: xs) H2) h
inductive NamesOf (X : Cx) : List Expr → List Str → Prop
  | nil : NamesOf X [] []
  | cons {x : Str} {p : Pos} {es : List Expr} {xs : List Str} : Gl X x → (x == ("__debug__" : Str)) = false → starEach (.Name x p :: es) X.env = (false, eval (.Name x p) X.env) :: starEach es X.env → NamesOf X es xs → NamesOf X (.Name x p :: es) (x :: xs)
def Addrs (mg : Str → Option Value) : List Str → List Addr → Prop
  | [], [] => True
  | x :: xs, a :: as => mg x = some (.ref a) ∧ Addrs mg xs as
  | _, _ => False
theorem NamesOf.pa {X : Cx} : ∀ {es : List Expr} {xs : List Str} {as : List Addr}, NamesOf X es xs → Addrs X.mg xs as → PA X es (tRefs as)
  | _, _, [], .nil, _ => pa_nil
  | _, _, a :: as, .cons g d st r, h => pa_cons (pe_glob (v := .ref a) g h.1 rfl d) (r.pa h.2) st
  | _, _, _ :: _, .nil, h => h.elim
  | _, _, [], .cons _ _ _ _, h => h.elim
theorem Addrs.len {mg : Str → Option Value} : ∀ {xs : List Str} {as : List Addr}, Addrs mg xs as → as.length = xs.length
  | [], [], _ => rfl
  | _ :: _, _ :: _, h => congrArg (· + 1) (Addrs.len h.2)
  | [], _ :: _, h => h.elim
  | _ :: _, [], h => h.elim
def TabU (K : PySem.W.Frag) (as : List Addr) (tb : List (Str × Bool)) : Prop := ∀ q ∈ tb, ∃ D, PySem.W.nsIn K mainGlobals q.1 = some (some (.ref D)) ∧ ExcC K D ∧ PySem.W.kitAny K (.ref D) (as.map Value.ref) = some q.2
theorem TabU.nil {K : PySem.W.Frag} {as : List Addr} : TabU K as [] := fun q h => by simp at h
theorem TabU.cons {K : PySem.W.Frag} {as : List Addr} {m : Str} {b : Bool} {tb : List (Str × Bool)} {E : Addr} (h1 : PySem.W.nsIn K mainGlobals m = some (some (.ref E))) (h2 : ExcC K E) (h3 : PySem.W.kitAny K (.ref E) (as.map Value.ref) = some b) (t : TabU K as tb) : TabU K as ((m, b) :: tb) := fun q hq => by
  rcases List.mem_cons.mp hq with rfl | hq
  · exact ⟨E, h1, h2, h3⟩
  · exact t q hq
structure HasU (K : PySem.W.Frag) (mg : Str → Option Value) (xs : List Str) (tb : List (Str × Bool)) : Prop where
  ex : ∃ as, Addrs mg xs as ∧ TabU K as tb
theorem cls_refs : ∀ as : List Addr, Paired ClsV (as.map V.ref) (as.map Value.ref)
  | [] => .nil
  | a :: as => .cons (.own a) (cls_refs as)
section
variable {C : Ctx} {e : Expr} {fe : DE} {p pos tpos : Pos} {kk : Nat} {es : List Expr} {xs : List Str} {tb : List (Str × Bool)}
theorem de_isU (hg : Gl C.X "isinstance") (hm : C.X.mg "isinstance" = none) (he : DPE C e fe) (nm : NamesOf C.X es xs) (h : HasU C.X.K C.X.mg xs tb) (hl : xs.length ≤ 1000 := by decide)
    (hs : starEach [e, .Tuple es kk tpos] C.X.env = (false, eval e C.X.env) :: starEach [.Tuple es kk tpos] C.X.env := by rfl) (hs2 : starEach [.Tuple es kk tpos] C.X.env = (false, eval (.Tuple es kk tpos) C.X.env) :: starEach [] C.X.env := by rfl) (hpl : (backTo pos (starEach [.Tuple es kk tpos] C.X.env)).any (·.1) = false := by rfl) :
    DPE C (.Call (.Name "isinstance" p) [e, .Tuple es kk tpos] [] pos) (dIsX tb fe) := by
  obtain ⟨as, h1, h2⟩ := h.ex
  obtain ⟨_, pe, se⟩ := he.ex
  refine ⟨_, pe_callB call_isXT hg hm PyProof.Rows.boot_isinstance (pa_cons pe (pa_cons (pe_tup (nm.pa h1)) pa_nil hs2) hs) (by decide) (by decide) hs hpl, fun σ H ρ vs τ Qd Q I q0 k => se σ H ρ vs τ _ _ I q0 fun v H1 t ρ1 I1 q => ?_⟩
  obtain ⟨ow, J⟩ := id I1
  refine tRefs_run as ⟨by rw [List.length_map, h1.len]; exact Nat.le_trans hl (by decide), fun tp htp => ?_⟩
  rcases J.dr1 with z | ⟨os, r⟩
  · rw [z] at q; exact q.elim
  · generalize Ds.dr ρ1 t = t' at q r
    cases r with
    | @exc a ex h =>
      obtain ⟨b, ⟨hf, eb⟩, q⟩ := q
      obtain ⟨cls, d, hn, ha, _, hd⟩ := h
      obtain ⟨D, e1, e2, e3⟩ := h2 _ (lkB_mem eb)
      dsimp only at e1
      rw [e1] at hn; cases hn
      rw [hf] at hd
      have hd : d = none := hd
      subst hd
      have na : a ≠ tp := fun z => by rw [z, htp] at ha; cases ha
      exact ⟨a, D, tp, _, _, b, rfl, by rw [upd_ne na]; exact ha, e2, upd_same, cls_refs as, e3, k _ _ _ _ ((I1.pop.newer htp).bool _) q⟩
    | _ => exact q.elim
end
end Ds
namespace Ds
open PySem L2
def dLstRg2 (fa fb : DE) : DE := fun ρ Q => fa ρ fun x ρ1 => fb ρ1 fun y ρ2 => wI (lk ρ2 x) fun i => wI (lk ρ2 y) fun j => RgOk i j ∧ Q (.own ((rngI i j).map .int)) ρ2
section
variable {C : Ctx} {e e2 : Expr} {fe fe2 : DE} {p p1 pos pos1 : Pos}
theorem de_lstRg2 (hc : C.X.calm = true) (hg : Gl C.X "list") (hm : C.X.mg "list" = none) (hg1 : Gl C.X "range") (hm1 : C.X.mg "range" = none) (he : DPE C e fe) (he2 : DPE C e2 fe2) (hs : starEach [e, e2] C.X.env = (false, eval e C.X.env) :: starEach [e2] C.X.env := by rfl) (hs2 : starEach [e2] C.X.env = (false, eval e2 C.X.env) :: starEach [] C.X.env := by rfl)
    (hp : (backTo pos1 (starEach [e2] C.X.env)).any (·.1) = false := by rfl)
    (hs1 : starEach [.Call (.Name "range" p1) [e, e2] [] pos1] C.X.env = (false, eval (.Call (.Name "range" p1) [e, e2] [] pos1) C.X.env) :: starEach [] C.X.env := by rfl) :
    DPE C (.Call (.Name "list" p) [.Call (.Name "range" p1) [e, e2] [] pos1] [] pos) (dLstRg2 fe fe2) :=
  let ⟨_, pe, se⟩ := he.ex
  let ⟨_, pe2, se2⟩ := he2.ex
  ⟨_, pe_listRg hc hg hm (prg_2 hg1 hm1 pe pe2 hs hs2 hp) hs1, fun σ H ρ vs τ Qd Q I h k => se σ H ρ vs τ _ _ I h fun v H1 t ρ1 I1 q => se2 σ H1 ρ1 (vs ++ [v]) (τ ++ [t]) _ _ I1 q fun w H2 u ρ2 I2 q => by
    obtain ⟨i, ei, q⟩ := wI_some q
    obtain ⟨j, ej, ok, q⟩ := wI_some q
    refine ⟨i, j, (I2.lk2 ei).int_eq, (I2.lk1 ej).int_eq, ok, fun l hl => ?_⟩
    rw [rgV_ints]
    have hτ := I.ltE
    have I3 : SS C σ H2 ρ2 (vs ++ [v, w]) (τ ++ [t, u]) := by simpa using I2
    obtain ⟨ow, J⟩ := id I3
    exact k _ _ _ _ (J.newL hτ hl ints_is) q⟩
end
end Ds
namespace Ds
open PySem L2
def dCnt (fo : DE) (fs : DA) : DE := fun ρ Q => fo ρ fun x ρ1 => wInts (lk ρ1 x) fun _ => fs ρ1 fun ts ρ2 => match ts with
  | [y] => wInts (lk ρ2 x) fun ns => wI (lk ρ2 y) fun k => Q (.dat (.int (ns.count k : Nat))) ρ2
  | _ => False
section
variable {C : Ctx} {o e : Expr} {fo : DE} {fs : DA} {apos cpos : Pos}
theorem de_cnt (ho : DPE C o fo) (ha : DPA C [e] fs)
    (hbase : attributeBase o "count" C.X.env (eval o C.X.env) = eval o C.X.env := by rfl)
    (hfew : ((backTo cpos (starEach [e] C.X.env)).all (fun x => !x.1) && (backToKw cpos (keywordEach [] C.X.env)).all (fun x => x.1.isSome)
      && decide (([e] : List Expr).length + ([] : List Keyword).length + (if ([] : List Keyword).isEmpty then 0 else 1) < 30)) = true := by rfl)
    (hline : (apos.endLine == cpos.line) = true := by rfl) (hs : starEach [e] C.X.env = (false, eval e C.X.env) :: starEach [] C.X.env := by rfl) (hplain : (backTo cpos (starEach [] C.X.env)).any (·.1) = false := by rfl) :
    DPE C (.Call (.Attribute o "count" apos) [e] [] cpos) (dCnt fo fs) :=
  let ⟨_, po, so⟩ := ho.ex; let ⟨_, pa, sa⟩ := ha.ex
  ⟨_, pe_bm PySem.F.plainAttrs_list PySem.F.slot_list_count PySem.F.type_list_count mt_lcount po pa hbase hfew hline hs hplain, fun σ H ρ vs τ Qd Q I q k => so σ H ρ vs τ _ _ I q fun u H1 x ρ1 I1 q1 => by
    obtain ⟨ns0, e1, q1⟩ := q1
    have dv := I1.lk1 e1
    cases dv with
    | @list a0 vs0 _ e0 n t =>
      refine ⟨.inl ⟨rfl, _, .inl (.of e0)⟩, sa σ H1 ρ1 _ _ _ _ I1 q1 fun xs H2 ts ρ2 I2 hl q2 => ?_⟩
      split at q2
      · rename_i y
        obtain ⟨v, rfl⟩ := len1 hl
        obtain ⟨ns, e2, q2⟩ := q2
        obtain ⟨m, e3, q2⟩ := wI_some q2
        have I3 : SS C σ H2 ρ2 (vs ++ [.ref a0, v]) (τ ++ [x, y]) := by simpa using I2
        obtain ⟨a', ha', d1⟩ := SS.lkA I3 (I.ltE) (j := 0) rfl e2
        obtain ⟨b', hb', d2⟩ := SS.lkA I3 (I.ltE) (j := 1) rfl e3
        simp at ha' hb'
        subst ha' hb'
        cases d1 with
        | list f0 n1 t1 =>
          rw [ints_inv t1] at f0
          exact ⟨_, ns, m, rfl, by rw [d2.int_eq], .inl (.of f0), k _ _ _ _ ((I3.drop I.ltE).int _) q2⟩
      · exact q2.elim⟩
/-- list(numbers) -/
def dLstI : DOn := fun ρ ts Q => match ts with
  | [x] => ∃ ns : List Int, (lk ρ x = some (.list (ns.map .int)) ∨ lk ρ x = some (.tuple (ns.map .int))) ∧ Q (.own (ns.map .int)) ρ
  | _ => False
theorem sim_lstI : SimC C (fun xs H Q => ∃ p ys, xs = [.ref p] ∧ (SqL C.K H p ys ∨ SqT C.K H p ys) ∧ ∀ l, H l = none → Q (.ref l) (upd H l (.lst ys))) dLstI := by
  intro σ H ρ vs τ xs ts Qd Q I hl hτ q k
  unfold dLstI at q
  split at q
  · rename_i x
    obtain ⟨v, rfl⟩ := len1 hl
    obtain ⟨ns, e, q⟩ := q
    obtain ⟨ow, J⟩ := id I
    rcases e with e | e
    · have dv := SS.lk1 I e
      cases dv with
      | @list a0 vs0 _ e0 n t =>
        rw [ints_inv t] at e0
        exact ⟨_, _, rfl, .inl (.inl (.of e0)), fun p hp => k _ _ _ _ (J.newL hτ hp ints_is) q⟩
    · have dv := SS.lk1 I e
      cases dv with
      | @tuple a0 vs0 _ e0 t =>
        have ev := ints_inv t
        subst ev
        exact ⟨_, _, rfl, .inr e0.sq, fun p hp => k _ _ _ _ (J.newL hτ hp ints_is) q⟩
  · exact q.elim
theorem de_lstI {p pos : Pos} (hg : Gl C.X "list") (hm : C.X.mg "list" = none) (ha : DPA C [e] fs) (he : starEach [e] C.X.env = [(false, eval e C.X.env)] := by rfl) : DPE C (.Call (.Name "list" p) [e] [] pos) (dCB dLstI fs) :=
  de_callTy call_list_of sim_lstI hg hm PyProof.Rows.boot_list ha (by decide) (by decide) he
end
end Ds
namespace Ds
open PySem L2
section
variable {K : PySem.W.Frag} {B B' Bb Bb' : Addr → Prop} {H H' : Hp} {σ σ' : St}
theorem TIsL.append : ∀ {ts us : List T} {vs ws : List V} {o1 o2 : List Addr}, TIsL K B Bb σ H ts vs o1 → TIsL K B Bb σ H us ws o2 → TIsL K B Bb σ H (ts ++ us) (vs ++ ws) (o1 ++ o2)
  | _, _, _, _, _, _, .nil, s => s
  | _, _, _, _, _, _, .cons r t, s => by rw [List.append_assoc]; exact .cons r (TIsL.append t s)
theorem TIs.lst_inv2 {ts : List T} {v : V} : ∀ {os : List Addr}, TIs K B Bb σ H (.lst ts) v os → ∃ a zs o, v = .ref a ∧ H a = some (.lst zs) ∧ TIsL K B Bb σ H ts zs o ∧ os = a :: o
  | _, .lst e q => ⟨_, _, _, rfl, e, q, rfl⟩
end
section
variable {C : Ctx} {σ σ' σ2 : St} {H H' : Hp} {ρ ρ' : List T} {vs xs : List V} {τ ts acc : List T} {own : List Nat} {v w : V} {x t : T} {l : Addr}
/-- the list below the top takes the top in, with what it owns -/
theorem SS.growK (h : SS C σ H ρ (vs ++ [.ref l] ++ xs ++ [w]) (τ ++ [.lst acc] ++ ts ++ [x])) (hτ : τ.length = vs.length) (hx : noAli x = true) (ha : noAliL acc = true) :
    ∃ zs, H l = some (.lst zs) ∧ zs.length = acc.length ∧ SS C σ (upd H l (.lst (zs ++ [w]))) ρ (vs ++ [.ref l] ++ xs) (τ ++ [.lst (acc ++ [x])] ++ ts) := by
  obtain ⟨ow, I⟩ := h
  have hl := I.lt
  simp at hl
  have hts : ts.length = xs.length := by omega
  let n := ρ.length + τ.length
  let m := ρ.length + (τ.length + 1 + ts.length)
  obtain ⟨v, hv, r⟩ := I.temp (j := τ.length) (t := .lst acc) (by simp)
  have ev : v = .ref l := by rw [hτ] at hv; simp at hv; exact hv.symm
  subst ev
  have rtop := I.top
  have em : ρ.length + (τ ++ [T.lst acc] ++ ts).length = m := by simp [m]; omega
  rw [em] at rtop
  have own_inv : ∃ zs o, H l = some (.lst zs) ∧ TIsL C.K (Bar C ow) (BarB C ow) (wipe σ C.cv) H acc zs o ∧ ow n = l :: o := by
    obtain ⟨a, zs, o, ea, e, q, eo⟩ := r.lst_inv2
    cases ea
    exact ⟨zs, o, e, q, eo⟩
  obtain ⟨zs, o, hz, dz, on⟩ := own_inv
  have nn : l ∉ o := by have := I.nd n; rw [on] at this; exact (List.nodup_cons.mp this).1
  have lb : ∀ k, k ≠ n → l ∉ ow k := fun k hk q => I.dj n k l (Ne.symm hk) (by rw [on]; simp) q
  have hnm : n < m := by simp [n, m]; omega
  let ow' : Nat → List Addr := fun k => if k = n then ow n ++ ow m else if k = m then [] else ow k
  have own' : ow' n = l :: (o ++ (ow m ++ [])) := by show (if n = n then ow n ++ ow m else _) = _; rw [if_pos rfl, on]; simp
  refine ⟨zs, hz, dz.length.symm, ow', I.next (S := fun k => k = n ∨ m ≤ k) I.ln (by simp; omega) I.na (fun k hk => ?_) (fun k u hk e => ?_) rfl (fun b o e hb => ?_) (fun b z => ?_)
    (fun k a hk h => ?_) (fun m1 m2 k u hk e => ?_) (fun k hk => ?_) (fun j k a hj hk hjk h => ?_) (fun k a hk h => ?_) (fun i hi => rfl)⟩
  · show (if k = n then ow n ++ ow m else if k = m then [] else ow k) = ow k
    rw [if_neg (fun z => hk (.inl z)), if_neg (fun z => hk (.inr (by omega)))]
  · have h1 : k ≠ n := fun z => hk (.inl z)
    have h2 : k < m := by by_cases z : k < m; exact z; exact absurd (.inr (by omega)) hk
    refine ⟨?_, ?_, .inl rfl⟩
    · by_cases z : k < n
      · simp only [← List.append_assoc] at e ⊢
        rw [List.getElem?_append_left (by simp; omega), List.getElem?_append_left (by simp; omega)] at e
        rw [List.getElem?_append_left (by simp; omega), List.getElem?_append_left (by simp; omega), List.getElem?_append_left (by simp; omega)]
        exact e
      · simp only [← List.append_assoc] at e ⊢
        rw [List.getElem?_append_right (by simp; omega)] at e
        rw [List.getElem?_append_left (by simp; omega), List.getElem?_append_right (by simp; omega)]
        simpa using e
    · have z : k < (σ ++ List.map some (vs ++ [V.ref l] ++ xs)).length := by simp [← I.ln, ← hτ]; omega
      have e3 : (σ ++ List.map some (vs ++ [V.ref l] ++ xs ++ [w])) = (σ ++ List.map some (vs ++ [V.ref l] ++ xs)) ++ [some w] := by simp
      rw [e3]
      exact (List.getElem?_append_left z).symm
  · have : b ≠ l := fun z => hb n (.inl rfl) (by rw [on, z]; simp)
    rw [upd_ne this]; exact e
  · by_cases q : b = l
    · subst q; rw [upd_same]; simp
    · rw [upd_ne q]; exact z
  · have h : a ∈ (if k = n then ow n ++ ow m else if k = m then [] else ow k) := h
    split at h
    · rcases List.mem_append.mp h with h | h
      · exact .inl ⟨n, .inl rfl, h⟩
      · exact .inl ⟨m, .inr (Nat.le_refl _), h⟩
    · split at h
      · simp at h
      · exact .inl ⟨k, hk, h⟩
  · refine .inr ?_
    rcases hk with rfl | hk
    · have eu : u = .lst (acc ++ [x]) := by
        simp only [← List.append_assoc] at e
        rw [List.getElem?_append_left (by simp [n]), List.getElem?_append_right (by simp [n])] at e
        simp [n] at e; exact e.symm
      subst eu
      refine ⟨.ref l, ?_, ?_⟩
      · simp only [List.map_append, ← List.append_assoc]
        rw [List.getElem?_append_left (by simp [← I.ln, ← hτ, n]), List.getElem?_append_right (by simp [← I.ln, ← hτ, n])]
        simp [← I.ln, ← hτ, n]
      · rw [own']
        have ne : ∀ b, b ∈ o → b ≠ l := fun b hb z => nn (z ▸ hb)
        have ne2 : ∀ b, b ∈ ow m → b ≠ l := fun b hb z => lb m (by omega) (z ▸ hb)
        exact .lst upd_same (TIsL.append (dz.move m1 m2 (fun b u hb eb => by rw [upd_ne (ne b hb)]; exact eb) (.inl rfl)) (.cons (rtop.move m1 m2 (fun b u hb eb => by rw [upd_ne (ne2 b hb)]; exact eb) (.inl rfl)) .nil))
    · have : k < (ρ ++ (τ ++ [T.lst (acc ++ [x])] ++ ts)).length := (List.getElem?_eq_some_iff.mp e).1
      simp at this
      omega
  · show (if k = n then ow n ++ ow m else if k = m then [] else ow k).Nodup
    split
    · exact List.nodup_append.mpr ⟨I.nd n, I.nd m, fun a ha b hb z => I.dj n m a (by omega) ha (z ▸ hb)⟩
    · split
      · exact List.nodup_nil
      · exact I.nd k
  · have h : a ∈ (if j = n then ow n ++ ow m else if j = m then [] else ow j) := h
    show a ∉ (if k = n then ow n ++ ow m else if k = m then [] else ow k)
    split at h
    · rename_i hjn
      rw [if_neg (by omega)]
      split
      · simp
      · rename_i hkm
        rcases List.mem_append.mp h with h | h
        · exact I.dj n k a (by omega) h
        · exact I.dj m k a (by omega) h
    · split at h
      · simp at h
      · rename_i hjn hjm
        split
        · intro z
          rcases List.mem_append.mp z with z | z
          · exact I.dj j n a hjn h z
          · exact I.dj j m a hjm h z
        · split
          · simp
          · exact I.dj j k a hjk h
  · have h : a ∈ (if k = n then ow n ++ ow m else if k = m then [] else ow k) := h
    have old : ∀ k, a ∈ ow k → ∃ u, upd H l (.lst (zs ++ [w])) a = some u ∧ Chg u := fun k hk => by
      by_cases z : a = l
      · subst z; exact ⟨_, upd_same, trivial⟩
      · obtain ⟨u, e, c⟩ := I.ot k a hk
        exact ⟨u, (by rw [upd_ne z]; exact e), c⟩
    split at h
    · rcases List.mem_append.mp h with h | h
      · exact old n h
      · exact old m h
    · split at h
      · simp at h
      · exact old k h
end
def dLcKGo (g : DG) (tt : DTt) (fe : DE) (own : List Nat) (K : List T → List T → Prop) : List T → List T → List T → Prop
  | [], acc, ρ => K acc ρ
  | t :: its, acc, ρ => g t ρ fun ρ1 => tt ρ1 fun b ρ2 => br b (fe ρ2 fun y ρ3 => noAli y = true ∧ acc.length < sizeLine ∧ dLcKGo g tt fe own K its (acc ++ [y]) (wipeT ρ3 own)) (dLcKGo g tt fe own K its acc (wipeT ρ2 own))
def dLcK (fi : DI) (g : DG) (tt : DTt) (fe : DE) (own : List Nat) : DE := fun ρ Q => fi ρ fun its ρ1 => dLcKGo g tt fe own (fun ts ρ2 => Q (.lst ts) ρ2) its [] (wipeT ρ1 own)
section
variable {C : Ctx} {elt tge iter : Expr} {ifs : List Expr} {scope : Scope} {own : List (Str × Nat)} {pos : Pos} {fi : DI} {tt : DTt} {fe : DE} {tg : Tgt}
theorem sim_lcK {wi : TI} (hi : SimI C wi fi) (h1 : ∀ i ∈ tg.sl, i ∈ own.map (·.2)) (h2 : ∀ i ∈ own.map (·.2), i ∉ C.lent ∧ i ∈ C.cv) :
    Sim C (tLc wi (tg.g C.K) (derT C tt) (derE C fe) (own.map (·.2))) (dLcK fi tg.d tt fe (own.map (·.2))) := fun σ H ρ vs τ Qd Q I h k => hi σ H ρ vs τ _ _ I h fun J H1 sv sx its ρ1 I1 nx wk q A hD => by
  let os := own.map (·.2)
  have hτ := I.ltE
  have hsx : sx.length = sv.length := by have := I1.ltE; simp at this; omega
  have hc : ∀ i ∈ os, i ∈ C.cv := fun i hi => (h2 i hi).2
  have hl : ∀ i ∈ os, i ∉ C.lent := fun i hi => (h2 i hi).1
  have I2 : SS C σ (upd H1 A (.lst [])) (wipeT ρ1 os) (vs ++ [.ref A] ++ sv) (τ ++ [.lst []] ++ sx) := by
    obtain ⟨ow, J1⟩ := id I1
    have J2 : SS C σ (upd H1 A (.lst [])) ρ1 (vs ++ sv ++ [.ref A]) (τ ++ sx ++ [.lst []]) := by
      have J1' : SI C σ H1 ρ1 (vs ++ sv ++ []) (τ ++ sx ++ []) ow := by simpa using J1
      exact J1'.one J1.lt (same_upd hD) _ _ [A] (fun ow' m1 m2 hb => .lst upd_same .nil) (by simp) (fun a h => by simp at h; subst h; exact .inr hD) fun a h => by simp at h; subst h; exact ⟨_, upd_same, trivial⟩
    have J3 := SS.under (vs := vs) (τ := τ) (sv := sv) (sx := sx) hsx (sv2 := []) (sx2 := []) rfl (by simpa using J2)
    have J4 : SS C σ (upd H1 A (.lst [])) ρ1 (vs ++ [.ref A] ++ sv) (τ ++ [.lst []] ++ sx) := by simpa using J3
    exact J4.toW rfl hc hl
  have hτ2 : (τ ++ [T.lst []]).length = (vs ++ [V.ref A]).length := by simp [hτ]
  refine ⟨fun i m H => m = its.length - i ∧ i ≤ its.length ∧ ∃ acc ρ, noAliL acc = true ∧ SS C σ H ρ (vs ++ [.ref A] ++ sv) (τ ++ [.lst acc] ++ sx) ∧ wipeT ρ os = ρ ∧ dLcKGo tg.d tt fe os (fun ds ρ2 => Qd (.lst ds) ρ2) (its.drop i) acc ρ, ⟨_, rfl, Nat.zero_le _, [], _, rfl, I2, wipeT_idem _ _, q⟩, ?_⟩
  rintro i m H3 ⟨rfl, hle, acc, ρ3, na3, I3, hw3, q3⟩
  have hτ3 : (τ ++ [T.lst acc]).length = (vs ++ [V.ref A]).length := by simp [hτ]
  have I3w : SS C (wipe σ os) H3 ρ3 (vs ++ [.ref A] ++ sv) (τ ++ [.lst acc] ++ sx) := by
    have := I3.toW (σ := wipe σ os) (own := os) (wipe_idem σ os).symm hc hl
    rwa [hw3] at this
  obtain ⟨st, go⟩ := wk i (wipe σ os) H3 ρ3 (vs ++ [.ref A]) (τ ++ [.lst acc]) hτ3 I3w
  by_cases hlt : i < its.length
  · have e : its[i]? = some its[i] := List.getElem?_eq_getElem hlt
    obtain ⟨g1, y⟩ := go _ e
    refine .inr ⟨g1, fun H' => ∃ acc ρ, noAliL acc = true ∧ SS C σ H' ρ (vs ++ [.ref A] ++ sv) (τ ++ [.lst acc] ++ sx) ∧ wipeT ρ os = ρ ∧ dLcKGo tg.d tt fe os (fun ds ρ2 => Qd (.lst ds) ρ2) (its.drop (i + 1)) acc ρ, fun H' ⟨acc, ρ', na', I', hw', q'⟩ => ⟨_, by omega, rfl, by omega, acc, ρ', na', I', hw', q'⟩, fun w H4 hy => ?_⟩
    have I4 := y w H4 hy
    have nt : noAli its[i] = true ∨ noAli its[i] = false := by cases noAli its[i] <;> simp
    rw [List.drop_eq_getElem_cons hlt] at q3
    have back : ∀ {σ2 : St} {H5 : Hp} {ρ5 : List T} {acc5 : List T}, noAliL acc5 = true → wipe σ2 os = wipe σ os → SS C σ2 H5 ρ5 (vs ++ [.ref A] ++ sv) (τ ++ [.lst acc5] ++ sx) → dLcKGo tg.d tt fe os (fun ds ρ2 => Qd (.lst ds) ρ2) (its.drop (i + 1)) acc5 (wipeT ρ5 os) →
        ∃ acc ρ, noAliL acc = true ∧ SS C σ H5 ρ (vs ++ [.ref A] ++ sv) (τ ++ [.lst acc] ++ sx) ∧ wipeT ρ os = ρ ∧ dLcKGo tg.d tt fe os (fun ds ρ2 => Qd (.lst ds) ρ2) (its.drop (i + 1)) acc ρ := fun {σ2 H5 ρ5 acc5} na5 hw I5 q5 => ⟨acc5, _, na5, I5.toW hw hc hl, wipeT_idem _ _, q5⟩
    have hgo := Tgt.sim (C := C) (tg := tg) (fun i hi => h2 i (h1 i hi)) (wipe σ os) H4 ρ3 _ _ w its[i] _ (fun σ2 H2 => ∀ (hw : wipe σ2 os = wipe σ os), derT C tt σ2 H2 fun b H3 => if b = true then derE C fe σ2 H3 fun y H4 => ∃ acc, H4 A = some (.lst acc) ∧ acc.length < sizeLine ∧
        (∃ acc2 ρ, noAliL acc2 = true ∧ SS C σ (upd H4 A (.lst (acc ++ [y]))) ρ (vs ++ [.ref A] ++ sv) (τ ++ [.lst acc2] ++ sx) ∧ wipeT ρ os = ρ ∧ dLcKGo tg.d tt fe os (fun ds ρ2 => Qd (.lst ds) ρ2) (its.drop (i + 1)) acc2 ρ) else
        (∃ acc ρ, noAliL acc = true ∧ SS C σ H3 ρ (vs ++ [.ref A] ++ sv) (τ ++ [.lst acc] ++ sx) ∧ wipeT ρ os = ρ ∧ dLcKGo tg.d tt fe os (fun ds ρ2 => Qd (.lst ds) ρ2) (its.drop (i + 1)) acc ρ)) I4 (tgd_na q3) q3 fun σ5 H5 ρ5 I5 q5 hw => ⟨ρ5, _, _, _, I5, q5, fun b H6 ρ6 I6 q6 => ?_⟩
    · have hon := Tgt.only (K := C.K) (own := os) h1 hgo
      exact tgt_mono hon fun σ' H' ⟨hq, hw⟩ => ⟨by rw [hw, wipe_idem], hq (by rw [hw, wipe_idem])⟩
    · cases b with
      | true =>
        rw [if_pos rfl]
        refine ⟨ρ6, _, _, _, I6, q6.t rfl, fun v7 H7 x7 ρ7 I7 q7 => ?_⟩
        obtain ⟨ed, hlen, q7⟩ := q7
        obtain ⟨zs, hz, hzl, I8⟩ := I7.growK hτ ed na3
        exact ⟨zs, hz, by omega, back (by rw [noAliL_append, na3]; simp [noAliL, ed]) hw I8 q7⟩
      | false =>
        rw [if_neg (by decide)]
        exact back na3 hw I6 (q6.f rfl)
  · have e : i = its.length := by omega
    subst e
    rw [List.drop_length] at q3
    have I5 : SS C σ H3 ρ3 (vs ++ [.ref A]) (τ ++ [.lst acc]) := I3.drop hτ3
    exact .inl ⟨st (Nat.le_refl _), k _ _ _ _ I5 q3⟩
theorem de_lcK (hc : C.X.calm = true) (hN : C.X.N.Nodup) (hi : DPI C tge iter fi) (ok : BlkOk C.X.N C.X.env.scope scope own) (hg : TgtOk C tge tg scope)
    (ht : ∀ (s : Shared) (H : Hp) (Cc : Addr) (cl : List (Str × Addr)) (fp : List Addr), DPTs (C.blk s H scope Cc cl fp) ifs tt) (he : ∀ (s : Shared) (H : Hp) (Cc : Addr) (cl : List (Str × Addr)) (fp : List Addr), DPE (C.blk s H scope Cc cl fp) elt fe)
    (h1 : ∀ i ∈ tg.sl, i ∈ own.map (·.2)) (h2 : ∀ i ∈ own.map (·.2), i ∉ C.lent ∧ i ∈ C.cv) (hs : ∀ x, foldedSetIterable iter C.X.env x = pure x := by intro _; rfl) :
    DPE C (.ListComp elt [⟨tge, iter, ifs, 0⟩] scope pos) (dLcK fi tg.d tt fe (own.map (·.2))) :=
  let ⟨_, p, s⟩ := hi.ex
  ⟨_, pe_lc hc hN p ok (fun s H Cc cl fp => hg.pg s H Cc cl fp) (fun s H Cc cl fp => pts_der (ht s H Cc cl fp)) (fun s H Cc cl fp => pe_der (he s H Cc cl fp)) hs, sim_lcK s h1 h2⟩
variable {py spos : Pos} {i : Nat} {y : Str}
theorem ds_setLcK (hc : C.X.calm = true) (hN : C.X.N.Nodup) (hy : C.X.N[i]? = some y) (hyl : C.X.env.scope.names.lookup y = some .local) (nl : i ∉ C.lent) (hsw : swapsWith (.ListComp elt [⟨tge, iter, ifs, 0⟩] scope pos) (some (.Name y py)) spos.line C.X.env = pure true)
    (hi : DPI C tge iter fi) (ok : BlkOk C.X.N C.X.env.scope scope own) (hg : TgtOk C tge tg scope)
    (ht : ∀ (s : Shared) (H : Hp) (Cc : Addr) (cl : List (Str × Addr)) (fp : List Addr), DPTs (C.blk s H scope Cc cl fp) ifs tt) (he : ∀ (s : Shared) (H : Hp) (Cc : Addr) (cl : List (Str × Addr)) (fp : List Addr), DPE (C.blk s H scope Cc cl fp) elt fe)
    (h1 : ∀ i ∈ tg.sl, i ∈ own.map (·.2)) (h2 : ∀ i ∈ own.map (·.2), i ∉ C.lent ∧ i ∈ C.cv) (hs : ∀ x, foldedSetIterable iter C.X.env x = pure x := by intro _; rfl) :
    DPS C (.Assign [.Name y py] (.ListComp elt [⟨tge, iter, ifs, 0⟩] scope pos) spos) (dAsg (dLcK fi tg.d tt fe (own.map (·.2))) (dgName i)) :=
  let ⟨_, p, s⟩ := hi.ex
  ⟨_, ps_setLc hc hN hy hyl hsw p ok (fun s H Cc cl fp => hg.pg s H Cc cl fp) (fun s H Cc cl fp => pts_der (ht s H Cc cl fp)) (fun s H Cc cl fp => pe_der (he s H Cc cl fp)) hs, sim_asg (sim_lcK s h1 h2) (by
    intro σ H ρ vs τ v t Qd Q I na q k
    obtain ⟨nt, q⟩ := na_ok q
    by_cases z : i < ρ.length
    · exact k _ _ _ (I.assign z nt (.inl na) nl) q
    · refine k _ _ ρ ?_ (by rw [getElem?_of_set z] at q; exact q)
      rw [getElem?_of_set (by rw [← I.lnN]; exact z)]
      exact I.pop)⟩
end
/-! ### a list within a list -/
section
variable {C : Ctx} {σ σ' σ2 : St} {H H' : Hp} {ρ ρ' : List T} {vs xs : List V} {τ ts acc : List T} {own : List Nat} {v w : V} {x t : T} {l : Addr}
/-- a slot forgotten, whatever it is -/
theorem SS.forget (h : SS C σ H ρ vs τ) {j : Nat} (u : V) (hj : j < ρ.length) (nτ : noAliL τ = true) (nl : j ∉ C.lent) : SS C (σ.set j (some u)) H (ρ.set j .emp) vs τ := by
  obtain ⟨ow, I⟩ := h
  have hσ : j < σ.length := by rw [← I.ln]; exact hj
  have same : ∀ (k : Nat), k ≠ j → (σ.set j (some u) ++ vs.map some)[k]? = (σ ++ vs.map some)[k]? := fun k hk => by
    by_cases z : k < σ.length
    · rw [List.getElem?_append_left (by simpa using z), List.getElem?_append_left z, List.getElem?_set_ne (Ne.symm hk)]
    · rw [List.getElem?_append_right (by simp; omega), List.getElem?_append_right (by omega), List.length_set]
  refine ⟨fun k => if k = j then [] else ow k, I.next (S := fun k => k = j) (by simp [I.ln]) I.lt (noAliL_set I.na rfl) (fun k hk => if_neg hk) (fun k t hk e => ?_) (by simp) (fun b o e _ => e) (fun b z => z) (fun k a hk h => ?_) (fun m1 m2 k t hk e => ?_) (fun k hk => ?_) (fun p k a hp hk hjk h => ?_) (fun k a hk h => ?_) (fun i hi => ?_)⟩
  · have e' : (ρ ++ τ)[k]? = some t := by
      by_cases z : k < ρ.length
      · rw [List.getElem?_append_left (by simpa using z), List.getElem?_set_ne (Ne.symm hk)] at e
        rw [List.getElem?_append_left z]; exact e
      · rw [List.getElem?_append_right (by simp; omega), List.length_set] at e
        rw [List.getElem?_append_right (by omega)]; exact e
    refine ⟨e', same k hk, .inr ?_⟩
    exact noAliL_iff.mp (show noAliL (ρ ++ τ) = true by rw [noAliL_append, I.na, nτ]; rfl) k t e'
  · simp only [hk, if_true] at h; simp at h
  · subst hk
    rw [List.getElem?_append_left (by simpa using hj), List.getElem?_set_self hj] at e
    exact .inl ⟨(Option.some.inj e).symm, by simpa using hj⟩
  · simp only [hk, if_true]; exact List.nodup_nil
  · simp only [hp, if_true] at h; simp at h
  · simp only [hk, if_true] at h; simp at h
  · refine List.getElem?_set_ne fun z => nl ?_
    rw [z]; exact hi
/-- the last list within the list of a slot -/
theorem SS.inner (h : SS C σ H ρ vs τ) {i : Nat} {ds : List D} (e : ρ[i]? = some (.lst (ts ++ [.own ds]))) :
    ∃ l zs b ys, σ[i]? = some (some (.ref l)) ∧ H l = some (.lst (zs ++ [.ref b])) ∧ H b = some (.lst ys) ∧ DIsL C.K N0 H ds ys ∧
      ∀ (k : Nat) (d : D) (v : V), sv d = some v → SS C σ (upd H b (.lst (ys.set k v))) (ρ.set i (.lst (ts ++ [.own (ds.set k d)]))) vs τ := by
  obtain ⟨ow, I⟩ := h
  have hi : i < ρ.length := (List.getElem?_eq_some_iff.mp e).1
  rcases I.slot e with z | ⟨v, hv, r⟩
  · cases z
  obtain ⟨l, zs0, o, rfl, hl, tl, eo⟩ := r.lst_inv2
  have split : ∀ {ts : List T} {zs : List V} {o : List Addr}, TIsL C.K (Bar C ow) (BarB C ow) (wipe σ C.cv) H (ts ++ [T.own ds]) zs o → ∃ zs1 b ys o1, zs = zs1 ++ [.ref b] ∧ H b = some (.lst ys) ∧ DIsL C.K (Bar C ow) H ds ys ∧ TIsL C.K (Bar C ow) (BarB C ow) (wipe σ C.cv) H ts zs1 o1 ∧ o = o1 ++ [b] := by
    intro ts
    induction ts with
    | nil =>
      intro zs o h
      cases h with
      | cons r t =>
        cases t
        obtain ⟨b, ys, rfl, hb, d, rfl⟩ := r.own_inv
        exact ⟨[], b, ys, [], rfl, hb, d, .nil, rfl⟩
    | cons a ts ih =>
      intro zs o h
      cases h with
      | cons r t =>
        obtain ⟨zs1, b, ys, o1, rfl, hb, d, t1, rfl⟩ := ih t
        exact ⟨_ :: zs1, b, ys, _ ++ o1, rfl, hb, d, .cons r t1, by rw [List.append_assoc]⟩
  obtain ⟨zs, b, ys, o1, rfl, hb, dl, t1, rfl⟩ := split tl
  have nd := I.nd i
  rw [eo] at nd
  have hlb : l ≠ b := fun z => (List.nodup_cons.mp nd).1 (by rw [z]; simp)
  have ho1 : ∀ a ∈ o1, a ≠ b := fun a ha z => by
    have := (List.nodup_append.mp (List.nodup_cons.mp nd).2).2.2 a ha b (by simp)
    exact this z
  have bi : b ∈ ow i := by rw [eo]; simp
  refine ⟨l, zs, b, ys, hv, hl, hb, dl.free, fun k d w hw => ⟨ow, I.next (S := fun k => k = i) (by simp [I.ln]) I.lt (noAliL_set I.na ?_) (fun _ _ => rfl) (fun k t hk e => ?_) (by simp) (fun a u ea hk => ?_) (fun a z => ?_) (fun k a hk h => .inl ⟨k, hk, h⟩) (fun m1 m2 k t hk e2 => ?_) (fun k _ => I.nd k) (fun p k a _ _ hjk h => I.dj p k a hjk h) (fun k a hk h => ?_) (fun _ _ => rfl)⟩⟩
  · have := noAliL_iff.mp I.na i _ e
    simp only [noAli, noAliL_append, noAliL, Bool.and_true] at this ⊢
    exact this
  · refine ⟨?_, rfl, .inl rfl⟩
    by_cases z : k < ρ.length
    · rw [List.getElem?_append_left (by simpa using z), List.getElem?_set_ne (Ne.symm hk)] at e
      rw [List.getElem?_append_left z]; exact e
    · rw [List.getElem?_append_right (by simp; omega), List.length_set] at e
      rw [List.getElem?_append_right (by omega)]; exact e
  · have : a ≠ b := fun z => hk i rfl (z ▸ bi)
    rw [upd_ne this]; exact ea
  · by_cases q : a = b
    · subst q; rw [upd_same]; simp
    · rw [upd_ne q]; exact z
  · subst hk
    rw [List.getElem?_append_left (by simpa using hi), List.getElem?_set_self hi] at e2
    cases e2
    refine .inr ⟨.ref l, ?_, ?_⟩
    · rw [List.getElem?_append_left (by rw [← I.ln]; exact hi)]; exact hv
    · rw [eo]
      exact .lst (by rw [upd_ne hlb]; exact hl) (TIsL.append (t1.move m1 m2 (fun a u ha ea => by rw [upd_ne (ho1 a ha)]; exact ea) (.inl rfl)) (.cons (.own upd_same ((dl.move m1).set _ (sv_is hw))) .nil))
  · by_cases q : a = b
    · subst q; exact ⟨_, upd_same, trivial⟩
    · obtain ⟨u, ea, c⟩ := I.ot k a h
      exact ⟨u, (by rw [upd_ne q]; exact ea), c⟩
end
def dInner (i j k : Nat) (g : Int → Int) : DS := fun D ρ => match ρ[i]? with
  | some (.lst ts) => match ts.getLast? with
    | some (.own ds) => match ds[k]? with
      | some (.int n) => (j < ρ.length ∧ i ≠ j) ∧ D.nx ((ρ.set j .emp).set i (.lst (ts.dropLast ++ [.own (ds.set k (.int (g n)))])))
      | _ => False
    | _ => False
  | _ => False
theorem inner_inv {i j k : Nat} {g : Int → Int} {D : DEnds} {ρ : List T} (h : dInner i j k g D ρ) : ∃ ts ds n, ρ[i]? = some (.lst (ts ++ [.own ds])) ∧ ds[k]? = some (.int n) ∧ j < ρ.length ∧ i ≠ j ∧ D.nx ((ρ.set j .emp).set i (.lst (ts ++ [.own (ds.set k (.int (g n)))]))) := by
  unfold dInner at h
  split at h
  · rename_i ts e
    split at h
    · rename_i ds e2
      split at h
      · rename_i n e3
        have : ts = ts.dropLast ++ [.own ds] := by
          have hne : ts ≠ [] := fun z => by subst z; simp at e2
          have := List.dropLast_concat_getLast hne
          rw [List.getLast?_eq_some_getLast hne] at e2
          rw [Option.some.inj e2] at this
          exact this.symm
        exact ⟨ts.dropLast, ds, n, by rw [← this]; exact e, e3, h.1.1, h.1.2, h.2⟩
      · exact h.elim
    · exact h.elim
  · exact h.elim
section
variable {C : Ctx} {i j : Nat} {x y : Str} {p1 p2 p3 p4 p5 p6 p7 p8 p9 : Pos} {rest : List Stmt} {f : DS}
/-- y = x[-1]; y[k] = y[k] + c -/
theorem dss_inner (kz : Int) (k : Nat) (c : Int) (ekz : kz = (k : Int)) (hN : C.X.N.Nodup) (hx : C.X.N[i]? = some x) (hy : C.X.N[j]? = some y) (hvx : Vis C.X.env.scope x) (hly : Loc C.X.env.scope y) (hyl : C.X.env.scope.names.lookup y = some .local) (nl : j ∉ C.lent)
    {k1 k2 k3 k4 : Nat} {q1 q2 q3 q4 q5 q6 : Pos}
    (hdx : (x == ("__debug__" : Str)) = false) (hcx : (x == ("__classdict__" : Str)) = false) (hdy : (y == ("__debug__" : Str)) = false) (hcy : (y == ("__classdict__" : Str)) = false)
    (ha : ∀ v, assign (.Subscript (.Name y p1) (.Constant (.int kz) k1 p2) p3) C.X.env v = (do
      let ov ← holding [v] (eval (.Name y p1) C.X.env)
      let iv ← holding [v, ov] (eval (.Constant (.int kz) k1 p2) C.X.env)
      standAt p3
      holding [v, ov, iv] (setItem ov iv v)
      release [v, ov, iv] [])) (h2 : DPSs C rest f) :
    DPSs C (.Assign [.Name y q1] (.Subscript (.Name x q2) (.UnaryOp .USub (.Constant (.int 1) k2 q3) q4) q5) q6 :: .Assign [.Subscript (.Name y p1) (.Constant (.int kz) k1 p2) p3] (.BinOp (.Subscript (.Name y p4) (.Constant (.int kz) k3 p5) p6) .Add (.Constant (.int c) k4 p7) p8) p9 :: rest)
      (dSeq (dInner i j k fun n => n + c) f) :=
  let ⟨_, pr, sr⟩ := h2.ex
  have vy : Vis C.X.env.scope y := hly.elim .inl fun z => .inr (.inl z)
  ⟨_, pss_cons (ps_set hN hy hly (pe_ix ix_list (pe_var hx hvx hdx hcx) (pe_un un_neg pe_int) (fun _ _ => rfl)) rfl (.inr hyl))
    (pss_cons (ps_asg (pe_op op_add (pe_ix ix_list (pe_var hy vy hdy hcy) pe_int (fun _ _ => rfl)) pe_int) (pg_sub (pe_var hy vy hdy hcy) pe_int set_list ha)) pr), fun σ H ρ vs τ Dd D I na h kk => by
    subst ekz
    obtain ⟨ts, ds, n, e, e3, hj, hij, q⟩ := inner_inv h.run
    obtain ⟨l, zs, b, ys, hv, hl, hb, dl, mk⟩ := I.inner e
    have I2 := I.forget (V.ref b) hj na nl
    have e' : (ρ.set j .emp)[i]? = some (.lst (ts ++ [.own ds])) := by rw [List.getElem?_set_ne (Ne.symm hij)]; exact e
    obtain ⟨l', zs', b', ys', hv', hl', hb', dl', mk'⟩ := I2.inner e'
    have hσ : j < σ.length := by rw [← I.lnN]; exact hj
    rw [List.getElem?_set_ne (Ne.symm hij), hv] at hv'
    cases hv'
    rw [hl] at hl'
    have hl'' := HO.lst.inj (Option.some.inj hl')
    have := List.append_inj' hl'' rfl
    cases this.2
    rw [hb] at hb'
    cases hb'
    have hys : ds.length = ys.length := dl.length
    have hk : k < ds.length := (List.getElem?_eq_some_iff.mp e3).1
    obtain ⟨u, hu, du⟩ := dl.get e3
    have du := du.int_eq
    subst du
    have at1 : atI (zs ++ [V.ref b]) (-1) = some (.ref b) := atI_last _ _
    have at2 : atI ys (k : Int) = some (.int n) := atI_nat hu
    have sj : (σ.set j (some (.ref b)))[j]? = some (some (.ref b)) := List.getElem?_set_self hσ
    refine ⟨.ref l, hv, ⟨1, rfl, l, _, -1, _, rfl, rfl, .inl (.inl hl), at1, ?_⟩⟩
    refine ⟨.ref b, sj, ⟨b, _, (k : Int), _, rfl, rfl, .inl (.inl hb), at2, ⟨n, c, rfl, rfl, ⟨.ref b, sj, ⟨b, _, (k : Int), k, rfl, rfl, hb, ?_, ?_⟩⟩⟩⟩⟩
    · unfold ixN; rw [if_pos (by omega), if_pos (by omega)]; congr 1
    · exact sr _ _ _ vs τ Dd D (mk' k (.int (n + c)) _ rfl) na q kk⟩
end
theorem inner_i {i j k : Nat} {g : Int → Int} {E : DEnds} {ρ : List T} {t : T} {ts : List T} {ds : List D} {n : Int} (h1 : ρ[i]? = some t) (h2 : t = .lst (ts ++ [.own ds])) (h3 : ds[k]? = some (.int n)) (h4 : j < ρ.length ∧ i ≠ j)
    (h5 : E.nx ((ρ.set j .emp).set i (.lst (ts ++ [.own (ds.set k (.int (g n)))])))) : dInner i j k g E ρ := by
  subst h2
  unfold dInner
  rw [h1]
  simp only [List.getLast?_append, List.getLast?_singleton, Option.some_or]
  rw [h3]
  refine ⟨h4, ?_⟩
  simpa using h5
theorem lcK_go {α : Type} {i : Nat} {fe : DE} {K : List T → List T → Prop} {ρ : List T} (tg : α → T) (gv : α → T) (hw : ρ.set i .emp = ρ) : ∀ (its : List α) (acc : List T), acc.length + its.length ≤ sizeLine → (∀ a ∈ its, noAli (tg a) = true) → (∀ a ∈ its, noAli (gv a) = true) →
    (∀ a ∈ its, ∀ P : T → List T → Prop, P (gv a) (ρ.set i (tg a)) → fe (ρ.set i (tg a)) P) → K (acc ++ its.map gv) ρ → dLcKGo (dgName i) dYes fe [i] K (its.map tg) acc ρ
  | [], acc, _, _, _, _, hk => by simpa [dLcKGo] using hk
  | a :: its, acc, hl, na, nb, he, hk => by
    refine dgn_i (na a (by simp)) (br_t rfl (he a (by simp) _ ⟨nb a (by simp), ?_, ?_⟩))
    · simp at hl; omega
    · have e : wipeT (ρ.set i (tg a)) [i] = ρ := by show (ρ.set i (tg a)).set i .emp = ρ; rw [List.set_set, hw]
      rw [e]
      exact lcK_go tg gv hw its _ (by simp at hl ⊢; omega) (fun b hb => na b (by simp [hb])) (fun b hb => nb b (by simp [hb])) (fun b hb => he b (by simp [hb])) (by simpa using hk)
theorem lcK_mp {α : Type} {i : Nat} {fe : DE} {K : List T → List T → Prop} {ρ : List T} (its : List α) (tg : α → T) (gv : α → T) (hw : ρ.set i .emp = ρ) (hl : its.length ≤ sizeLine) (na : ∀ a ∈ its, noAli (tg a) = true) (nb : ∀ a ∈ its, noAli (gv a) = true)
    (he : ∀ a ∈ its, ∀ P : T → List T → Prop, P (gv a) (ρ.set i (tg a)) → fe (ρ.set i (tg a)) P) (hk : K (its.map gv) ρ) : dLcKGo (dgName i) dYes fe [i] K (its.map tg) [] ρ := lcK_go tg gv hw its [] (by simpa using hl) na nb he (by simpa using hk)
end Ds
namespace Lw
open PySem L2 Ds
def reelM : Int := 2 ^ 64 * 2 ^ 63 - 1
/-- a source of numbers: great ones, cells, count, stir -/
structure Reel where
  g : List Int
  c : List Int
  n : Int
  s : Int
def Reel.d (r : Reel) : List D := [.list (r.g.map .int), .list (r.c.map .int), .int r.n, .int r.s]
structure Reel.Ok (r : Reel) (b : Nat) : Prop where
  c0 : r.c ≠ []
  cb : ∀ x ∈ r.c, 0 ≤ x ∧ x < 1000003
  cl : r.c.length ≤ 64
  n0 : 0 ≤ r.n
  nb : r.n ≤ b
  s0 : 0 ≤ r.s
  sb : r.s < 2 ^ 132
  gl : r.g.length ≤ 63
  gb : ∀ x ∈ r.g, 0 ≤ x
theorem Reel.Ok.mono {r : Reel} {a b : Nat} (h : r.Ok a) (hab : a ≤ b) : r.Ok b := ⟨h.c0, h.cb, h.cl, h.n0, by have := h.nb; omega, h.s0, h.sb, h.gl, h.gb⟩
def Reel.extra (r : Reel) : Int := r.c.getD ((r.n + 1) % (r.c.length : Int)).toNat 0
def Reel.stir (r : Reel) : Int := (r.s * r.s + (r.extra + 17) * 27644437 + (r.n + 1) * 999959) % reelM
/-- a draw: its value, the source behind it -/
def Reel.draw (r : Reel) (m : Int) : Int × Reel := match r.g with
  | x :: g => (x % m, ⟨(if x < m then [] else [x / m]) ++ g, r.c, r.n, r.s⟩)
  | [] => (r.stir / 2 ^ 41 % m, ⟨[], r.c, r.n + 1, r.stir⟩)
theorem Reel.draw_ok {r : Reel} {m : Int} {b : Nat} (h : r.Ok b) (hm : 0 < m) : 0 ≤ (r.draw m).1 ∧ (r.draw m).1 < m ∧ (r.draw m).2.Ok (b + 1) := by
  have hM : (0 : Int) < reelM := by decide
  unfold Reel.draw
  split
  · rename_i x g e
    have hx : 0 ≤ x := h.gb x (by rw [e]; simp)
    refine ⟨Int.emod_nonneg _ (by omega), Int.emod_lt_of_pos _ hm, h.c0, h.cb, h.cl, h.n0, by have := h.nb; show r.n ≤ _; omega, h.s0, h.sb, ?_, ?_⟩
    · have := h.gl
      rw [e] at this
      dsimp only
      split <;> simp at this ⊢ <;> omega
    · intro y hy
      dsimp only at hy
      rcases List.mem_append.mp hy with z | z
      · split at z
        · simp at z
        · simp at z; rw [z]; exact Int.ediv_nonneg hx (by omega)
      · exact h.gb y (by rw [e]; simp [z])
  · refine ⟨Int.emod_nonneg _ (by omega), Int.emod_lt_of_pos _ hm, h.c0, h.cb, h.cl, by have := h.n0; dsimp only; omega, by have := h.nb; dsimp only; omega, Int.emod_nonneg _ (by omega), Int.lt_trans (Int.emod_lt_of_pos _ hM) (by decide), by simp, by simp⟩
def reelStep (s c : Int) : Int := (s * s + c % 1000000000000000003 + 29) % reelM
def reelOf (ns : List Int) : Reel := ⟨(ns.filter fun c => decide (10 ^ 18 ≤ c)).map (· - 10 ^ 18), ns.map (· % 1000003) ++ [57], 0, ns.foldl reelStep (23 ^ 29)⟩
theorem stirs_ok (ns : List Int) : 0 ≤ ns.foldl reelStep (23 ^ 29) ∧ ns.foldl reelStep (23 ^ 29) < 2 ^ 132 := by
  have hM : (0 : Int) < reelM := by decide
  have go : ∀ (ns : List Int) (s : Int), 0 ≤ s ∧ s < 2 ^ 132 → 0 ≤ ns.foldl reelStep s ∧ ns.foldl reelStep s < 2 ^ 132 := by
    intro ns
    induction ns with
    | nil => intro s h; exact h
    | cons c ns ih =>
      intro s h
      exact ih _ ⟨Int.emod_nonneg _ (by omega), Int.lt_trans (Int.emod_lt_of_pos _ hM) (by decide)⟩
  exact go ns _ (by decide)
theorem reelOf_ok {ns : List Int} (h : ns.length ≤ 63) : (reelOf ns).Ok 0 := by
  obtain ⟨h1, h2⟩ := stirs_ok ns
  refine ⟨by simp [reelOf], fun x hx => ?_, by simp [reelOf]; omega, Int.le_refl _, Int.le_refl _, h1, h2, ?_, fun x hx => ?_⟩
  · simp only [reelOf, List.mem_append, List.mem_map, List.mem_singleton] at hx
    rcases hx with ⟨y, _, rfl⟩ | rfl
    · exact ⟨Int.emod_nonneg _ (by decide), Int.emod_lt_of_pos _ (by decide)⟩
    · decide
  · simp only [reelOf, List.length_map]
    exact Nat.le_trans (List.length_filter_le ..) h
  · simp only [reelOf, List.mem_map, List.mem_filter, decide_eq_true_eq] at hx
    obtain ⟨y, ⟨_, hy⟩, rfl⟩ := hx
    omega
def isIntB : D → Int → D → Bool
  | .int i, lo, .none => decide (lo ≤ i)
  | .int i, lo, .int h => decide (lo ≤ i) && decide (i ≤ h)
  | _, _, _ => false
def isLstB : D → Bool
  | .list _ => true
  | .tuple _ => true
  | _ => false
def isRunB : D → Bool
  | .list [c, n] => isIntB c (-1) (.int 1) && isIntB n 1 (.int (1000000000000000000000000000000 : Int))
  | .tuple [c, n] => isIntB c (-1) (.int 1) && isIntB n 1 (.int (1000000000000000000000000000000 : Int))
  | _ => false
def runFst : D → D
  | .list (c :: _) => c
  | .tuple (c :: _) => c
  | _ => .none
def chainB : List D → Bool
  | a :: b :: r => !PyData.eqv (runFst a) (runFst b) && chainB (b :: r)
  | _ => true
def recL (ds : List D) : Bool := decide (ds.length ≤ 400) && ds.all isRunB && chainB ds
def isRecB : D → Bool
  | .list ds => recL ds
  | .tuple ds => recL ds
  | _ => false
theorem isInt_inv {d : D} {lo hi : Int} (h : isIntB d lo (.int hi) = true) : ∃ i : Int, d = .int i ∧ lo ≤ i ∧ i ≤ hi := by
  cases d <;> simp [isIntB] at h
  exact ⟨_, rfl, h⟩
theorem isRun_inv {d : D} (h : isRunB d = true) : ∃ c n : Int, (d = .list [.int c, .int n] ∨ d = .tuple [.int c, .int n]) ∧ -1 ≤ c ∧ c ≤ 1 ∧ 1 ≤ n ∧ n ≤ (1000000000000000000000000000000 : Int) := by
  unfold isRunB at h
  split at h
  · rw [Bool.and_eq_true] at h
    obtain ⟨c, rfl, h1, h2⟩ := isInt_inv h.1
    obtain ⟨n, rfl, h3, h4⟩ := isInt_inv h.2
    exact ⟨c, n, .inl rfl, h1, h2, h3, h4⟩
  · rw [Bool.and_eq_true] at h
    obtain ⟨c, rfl, h1, h2⟩ := isInt_inv h.1
    obtain ⟨n, rfl, h3, h4⟩ := isInt_inv h.2
    exact ⟨c, n, .inr rfl, h1, h2, h3, h4⟩
  · cases h
theorem chain_zip : ∀ ds : List D, ((ds.zip (ds.drop 1)).map fun p => !PyData.eqv (runFst p.1) (runFst p.2)).all id = chainB ds
  | [] => rfl
  | [_] => rfl
  | a :: b :: r => by
    have ih := chain_zip (b :: r)
    simp only [List.drop_succ_cons, List.drop_zero, List.zip_cons_cons, List.map_cons, List.all_cons, id, chainB] at ih ⊢
    rw [ih]
def drun (p : Int × Int) : D := .tuple [.int p.1, .int p.2]
def Chn (rs : List (Int × Int)) : Prop := ∀ (i : Nat) (a b : Int × Int), rs[i]? = some a → rs[i + 1]? = some b → a.1 ≠ b.1
/-- runs: at most m, counts up to L -/
structure Runs (m : Nat) (L : Int) (rs : List (Int × Int)) : Prop where
  len : rs.length ≤ m
  chg : ∀ p ∈ rs, -1 ≤ p.1 ∧ p.1 ≤ 1
  cnt : ∀ p ∈ rs, 1 ≤ p.2 ∧ p.2 ≤ L
  chn : Chn rs
theorem Chn.snoc {rs : List (Int × Int)} {x : Int × Int} (h : Chn rs) (hx : ∀ a, rs.getLast? = some a → a.1 ≠ x.1) : Chn (rs ++ [x]) := by
  intro i a b ha hb
  have hi := (List.getElem?_eq_some_iff.mp hb).1
  simp at hi
  by_cases z : i + 1 < rs.length
  · rw [List.getElem?_append_left (by omega)] at ha
    rw [List.getElem?_append_left z] at hb
    exact h i a b ha hb
  · have e : i + 1 = rs.length := by omega
    rw [List.getElem?_append_left (by omega)] at ha
    rw [List.getElem?_append_right (by omega), e, Nat.sub_self] at hb
    simp at hb
    subst hb
    refine hx a ?_
    rw [List.getLast?_eq_getElem?, show rs.length - 1 = i by omega]
    exact ha
theorem Runs.nil {m : Nat} {L : Int} : Runs m L [] := ⟨Nat.zero_le _, by simp, by simp, fun i a b h => by simp at h⟩
theorem Runs.snoc {m : Nat} {L : Int} {rs : List (Int × Int)} {c n : Int} (h : Runs m L rs) (hx : ∀ a, rs.getLast? = some a → a.1 ≠ c) (c0 : -1 ≤ c) (c1 : c ≤ 1) (n0 : 1 ≤ n) (n1 : n ≤ L) : Runs (m + 1) L (rs ++ [(c, n)]) :=
  ⟨by have := h.len; simp; omega, fun p hp => by rcases List.mem_append.mp hp with hp | hp; exact h.chg p hp; simp at hp; subst hp; exact ⟨c0, c1⟩,
   fun p hp => by rcases List.mem_append.mp hp with hp | hp; exact h.cnt p hp; simp at hp; subst hp; exact ⟨n0, n1⟩, h.chn.snoc hx⟩
theorem Runs.mono {m m' : Nat} {L L' : Int} {rs : List (Int × Int)} (h : Runs m L rs) (hm : m ≤ m') (hL : L ≤ L') : Runs m' L' rs := ⟨Nat.le_trans h.len hm, h.chg, fun p hp => ⟨(h.cnt p hp).1, Int.le_trans (h.cnt p hp).2 hL⟩, h.chn⟩
theorem lay_run (p : Int × Int) : Lay 1 (drun p) := .tuple fun x hx => by simp at hx; rcases hx with rfl | rfl <;> exact .int
theorem lay_runs (rs : List (Int × Int)) : Lay 2 (.list (rs.map drun)) := .list fun x hx => by obtain ⟨p, _, rfl⟩ := List.mem_map.mp hx; exact lay_run p
theorem gI_last {α : Type} (l : List α) : gI l (-1) = l.getLast? := by
  show l.reverse[0]? = _
  rw [← List.head?_eq_getElem?, List.head?_reverse]
def mrgStep (acc : List (Int × Int)) (p : Int × Int) : List (Int × Int) := match acc.getLast? with
  | some q => if q.1 = p.1 then acc.dropLast ++ [(p.1, p.2 + q.2)] else acc ++ [p]
  | none => [p]
/-- neighbouring runs with the same change made one -/
def mergeR (rs : List (Int × Int)) : List (Int × Int) := rs.foldl mrgStep []
theorem mergeR_snoc (rs : List (Int × Int)) (p : Int × Int) : mergeR (rs ++ [p]) = mrgStep (mergeR rs) p := by simp only [mergeR, List.foldl_append, List.foldl_cons, List.foldl_nil]
theorem mrgStep_len (acc : List (Int × Int)) (p : Int × Int) : (mrgStep acc p).length ≤ acc.length + 1 := by
  unfold mrgStep
  split
  · split <;> simp
  · simp
theorem mergeR_len (rs : List (Int × Int)) : (mergeR rs).length ≤ rs.length := by
  have go : ∀ (l acc : List (Int × Int)), (l.foldl mrgStep acc).length ≤ acc.length + l.length := by
    intro l
    induction l with
    | nil => intro acc; simp
    | cons p l ih => intro acc; have := ih (mrgStep acc p); have := mrgStep_len acc p; simp only [List.foldl_cons, List.length_cons] at *; omega
  exact Nat.le_trans (go rs []) (by simp)
theorem last_run {acc : List (Int × Int)} (e : PyData.eqv (.list (acc.map drun)) (.list []) = false) : ∃ q, acc.getLast? = some q := by
  cases h : acc.getLast? with
  | none => rw [List.getLast?_eq_none_iff] at h; subst h; rw [List.map_nil, eqv_nil_nil] at e; cases e
  | some p => exact ⟨p, rfl⟩
theorem nil_run {acc : List (Int × Int)} (e : PyData.eqv (.list (acc.map drun)) (.list []) = true) : acc = [] := by
  cases acc with | nil => rfl | cons a l => rw [List.map_cons, eqv_cons_nil] at e; cases e
theorem gI_run {acc : List (Int × Int)} {q : Int × Int} (h : acc.getLast? = some q) : gI (acc.map drun) (-1) = some (drun q) := by rw [gI_last, List.getLast?_map, h]; rfl
theorem pop_run {acc : List (Int × Int)} {q : Int × Int} (h : acc.getLast? = some q) : (acc.map drun).getLast? = some (drun q) := by rw [List.getLast?_map, h]; rfl
mutual
/-- tuples as lists -/
def und : D → D
  | .list ds => .list (undL ds)
  | .tuple ds => .list (undL ds)
  | d => d
def undL : List D → List D
  | [] => []
  | d :: ds => und d :: undL ds
end
mutual
/-- how many parts; 0 if a dict lies within -/
def ndD : D → Nat
  | .list ds => 1 + ndL ds
  | .tuple ds => 1 + ndL ds
  | _ => 1
def ndL : List D → Nat
  | [] => 0
  | d :: ds => ndD d + ndL ds
end
mutual
def noDct : D → Bool
  | .list ds => noDctL ds
  | .tuple ds => noDctL ds
  | .dict _ => false
  | _ => true
def noDctL : List D → Bool
  | [] => true
  | d :: ds => noDct d && noDctL ds
end
theorem ndD_pos : ∀ d, 1 ≤ ndD d
  | .list ds => by simp only [ndD]; omega
  | .tuple ds => by simp only [ndD]; omega
  | .none => Nat.le_refl _
  | .bool _ => Nat.le_refl _
  | .int _ => Nat.le_refl _
  | .str _ => Nat.le_refl _
  | .dict _ => Nat.le_refl _
theorem ndL_len : ∀ ds, ds.length ≤ ndL ds
  | [] => Nat.le_refl _
  | d :: ds => by have := ndL_len ds; have := ndD_pos d; simp only [ndL, List.length_cons]; omega
theorem undL_append : ∀ a b, undL (a ++ b) = undL a ++ undL b
  | [], b => rfl
  | d :: a, b => by simp only [List.cons_append, undL, undL_append a b]
theorem ndL_append : ∀ a b, ndL (a ++ b) = ndL a + ndL b
  | [], b => by simp [ndL]
  | d :: a, b => by simp only [List.cons_append, ndL, ndL_append a b]; omega
theorem ndL_take (ds : List D) (j : Nat) (d : D) (h : ds[j]? = some d) : ndL (ds.take j) + ndD d ≤ ndL ds := by
  have e : ds.take (j + 1) = ds.take j ++ [d] := by rw [List.take_succ, h]; rfl
  have e2 := congrArg ndL (List.take_append_drop (j + 1) ds)
  rw [e, ndL_append, ndL_append] at e2
  simp only [ndL] at e2
  omega
theorem noDctL_get : ∀ {ds : List D} {j : Nat} {d : D}, noDctL ds = true → ds[j]? = some d → noDct d = true
  | [], _, _, _, e => by simp at e
  | x :: ds, 0, d, h, e => by simp only [noDctL, Bool.and_eq_true] at h; simp at e; subst e; exact h.1
  | x :: ds, j + 1, d, h, e => by simp only [noDctL, Bool.and_eq_true] at h; exact noDctL_get (j := j) h.2 (by simpa using e)
theorem depth_get : ∀ {ds : List D} {j : Nat} {d : D}, ds[j]? = some d → d.depth ≤ PyData.depthAll ds
  | [], _, _, e => by simp at e
  | x :: ds, 0, d, e => by simp at e; subst e; simp only [PyData.depthAll]; omega
  | x :: ds, j + 1, d, e => by have := depth_get (ds := ds) (j := j) (d := d) (by simpa using e); simp only [PyData.depthAll]; omega
theorem und_int {d : D} {i : Int} (h : und d = .int i) : d = .int i := by cases d <;> simp only [und] at h <;> first | exact h | cases h
theorem und_lst {d : D} {us : List D} (h : und d = .list us) : ∃ ds, (d = .list ds ∨ d = .tuple ds) ∧ undL ds = us := by
  cases d <;> simp only [und] at h <;> first | cases h | skip
  · exact ⟨_, .inl rfl, rfl⟩
  · exact ⟨_, .inr rfl, rfl⟩
theorem undL_cons_inv {ds : List D} {u : D} {us : List D} (h : undL ds = u :: us) : ∃ d r, ds = d :: r ∧ und d = u ∧ undL r = us := by
  cases ds with
  | nil => cases h
  | cons d r => simp only [undL, List.cons.injEq] at h; exact ⟨d, r, rfl, h.1, h.2⟩
theorem undL_nil_inv {ds : List D} (h : undL ds = []) : ds = [] := by cases ds with | nil => rfl | cons d r => cases h
theorem undL_ints : ∀ ns : List Int, undL (ns.map PyData.int) = ns.map PyData.int
  | [] => rfl
  | n :: ns => by simp only [List.map_cons, undL, und, undL_ints ns]
theorem undL_ints_inv : ∀ {ns : List Int} {ds : List D}, undL ds = ns.map PyData.int → ds = ns.map PyData.int
  | [], ds, h => undL_nil_inv h
  | n :: ns, ds, h => by
    obtain ⟨d, r, rfl, h1, h2⟩ := undL_cons_inv h
    rw [und_int h1, undL_ints_inv h2]; rfl
/-- a list of numbers, dressed -/
theorem und_ints {d : D} {ns : List Int} (h : und d = und (.list (ns.map .int))) : d = .list (ns.map .int) ∨ d = .tuple (ns.map .int) := by
  simp only [und, undL_ints] at h
  obtain ⟨ds, h1, h2⟩ := und_lst h
  rw [undL_ints_inv h2] at h1; exact h1
theorem nd_ints (ns : List Int) : ndL (ns.map PyData.int) = ns.length := by
  induction ns with
  | nil => rfl
  | cons n ns ih => simp only [List.map_cons, ndL, ndD, ih, List.length_cons]; omega
theorem noDct_ints (ns : List Int) : noDctL (ns.map PyData.int) = true := by
  induction ns with
  | nil => rfl
  | cons n ns ih => simp only [List.map_cons, noDctL, noDct, ih, Bool.and_self]

def RLk : List D → List (Int × Int) → Prop
  | [], [] => True
  | d :: ds, p :: ps => (d = .list [.int p.1, .int p.2] ∨ d = .tuple [.int p.1, .int p.2]) ∧ RLk ds ps
  | _, _ => False
theorem rlk_self : ∀ rs, RLk (rs.map drun) rs
  | [] => trivial
  | _ :: rs => ⟨.inr rfl, rlk_self rs⟩
theorem rlk_len : ∀ {ds rs}, RLk ds rs → ds.length = rs.length
  | [], [], _ => rfl
  | _ :: ds, _ :: rs, h => by simp only [List.length_cons, rlk_len h.2]
  | [], _ :: _, h => h.elim
  | _ :: _, [], h => h.elim
theorem undL_runs_inv : ∀ {rs : List (Int × Int)} {ds : List D}, undL ds = undL (rs.map drun) → RLk ds rs
  | [], ds, h => by rw [undL_nil_inv h]; trivial
  | p :: rs, ds, h => by
    simp only [List.map_cons, undL] at h
    obtain ⟨d, r, rfl, h1, h2⟩ := undL_cons_inv h
    simp only [drun, und, undL] at h1
    obtain ⟨ds, h3, h4⟩ := und_lst h1
    obtain ⟨a, r2, rfl, h5, h6⟩ := undL_cons_inv h4
    obtain ⟨b, r3, rfl, h7, h8⟩ := undL_cons_inv h6
    rw [undL_nil_inv h8, und_int h5, und_int h7] at h3
    exact ⟨h3, undL_runs_inv h2⟩
theorem und_runs {d : D} {rs : List (Int × Int)} (h : und d = und (.list (rs.map drun))) : ∃ ds, (d = .list ds ∨ d = .tuple ds) ∧ RLk ds rs := by
  simp only [und] at h
  obtain ⟨ds, h1, h2⟩ := und_lst h
  exact ⟨ds, h1, undL_runs_inv h2⟩
theorem Chn.tail {a : Int × Int} {rs : List (Int × Int)} (h : Chn (a :: rs)) : Chn rs := fun i x y hx hy => h (i + 1) x y (by simpa using hx) (by simpa using hy)
theorem rlk_fst {d : D} {p : Int × Int} (h : d = .list [.int p.1, .int p.2] ∨ d = .tuple [.int p.1, .int p.2]) : runFst d = .int p.1 := by rcases h with rfl | rfl <;> rfl
theorem rlk_run {d : D} {p : Int × Int} (h : d = .list [.int p.1, .int p.2] ∨ d = .tuple [.int p.1, .int p.2]) (c : -1 ≤ p.1 ∧ p.1 ≤ 1) (n : 1 ≤ p.2 ∧ p.2 ≤ (1000000000000000000000000000000 : Int)) : isRunB d = true := by
  have : (isIntB (.int p.1) (-1) (.int 1) && isIntB (.int p.2) 1 (.int (1000000000000000000000000000000 : Int))) = true := by simp only [isIntB, decide_eq_true c.1, decide_eq_true c.2, decide_eq_true n.1, decide_eq_true n.2, Bool.and_self]
  rcases h with rfl | rfl <;> exact this
theorem rlk_chain : ∀ {ds : List D} {rs : List (Int × Int)}, RLk ds rs → Chn rs → chainB ds = true
  | [], [], _, _ => rfl
  | [_], [_], _, _ => rfl
  | a :: b :: ds, p :: q :: rs, h, c => by
    have h1 : (PyData.eqv (runFst a) (runFst b)) = false := by
      rw [rlk_fst h.1, rlk_fst h.2.1, eqv_int]
      have := c 0 p q rfl rfl
      simpa using this
    simp only [chainB, h1, rlk_chain h.2 c.tail, Bool.not_false, Bool.and_self]
  | [], _ :: _, h, _ => h.elim
  | _ :: _, [], h, _ => h.elim
  | [_], _ :: _ :: _, h, _ => h.2.elim
  | _ :: _ :: _, [_], h, _ => h.2.elim
theorem rlk_all : ∀ {ds : List D} {rs : List (Int × Int)}, RLk ds rs → (∀ p ∈ rs, (-1 ≤ p.1 ∧ p.1 ≤ 1) ∧ 1 ≤ p.2 ∧ p.2 ≤ (1000000000000000000000000000000 : Int)) → ds.all isRunB = true
  | [], [], _, _ => rfl
  | d :: ds, p :: rs, h, q => by
    simp only [List.all_cons, rlk_run h.1 (q p (List.mem_cons_self ..)).1 (q p (List.mem_cons_self ..)).2, rlk_all h.2 fun x hx => q x (List.mem_cons_of_mem _ hx), Bool.and_self]
  | [], _ :: _, h, _ => h.elim
  | _ :: _, [], h, _ => h.elim
theorem rlk_rec {m : Nat} {L : Int} {ds : List D} {rs : List (Int × Int)} (h : RLk ds rs) (r : Runs m L rs) (hm : m ≤ 400) (hL : L ≤ (1000000000000000000000000000000 : Int)) : recL ds = true := by
  have hl : ds.length ≤ 400 := by have := rlk_len h; have := r.len; omega
  simp only [recL, decide_eq_true hl, rlk_all h (fun p hp => ⟨r.chg p hp, (r.cnt p hp).1, Int.le_trans (r.cnt p hp).2 hL⟩), rlk_chain h r.chn, Bool.and_self]
theorem rlk_tl : ∀ {ds : List D} {rs : List (Int × Int)}, RLk ds rs → (∀ p ∈ rs, (-1 ≤ p.1 ∧ p.1 ≤ 1) ∧ 1 ≤ p.2 ∧ p.2 ≤ (1000000000000000000000000000000 : Int)) → ∀ d ∈ ds, Tl 1 217 d
  | [], [], _, _ => by simp
  | d :: ds, p :: rs, h, q => by
    intro x hx
    rcases List.mem_cons.mp hx with rfl | hx
    · obtain ⟨⟨c0, c1⟩, n0, n1⟩ := q p (List.mem_cons_self ..)
      have t : TlA 0 105 2 [PyData.int p.1, .int p.2] := .cons (Tl.intB 104 (by omega) (by omega) (by decide) (by decide) (by decide)) (.cons (Tl.intB 104 (by omega) (by omega) (by decide) (by decide) (by decide)) .nil)
      rcases h.1 with rfl | rfl
      · exact t.list
      · exact t.tuple
    · exact rlk_tl h.2 (fun y hy => q y (List.mem_cons_of_mem _ hy)) x hx
  | [], _ :: _, h, _ => h.elim
  | _ :: _, [], h, _ => h.elim
theorem rlk_tlA {m : Nat} {L : Int} {ds : List D} {rs : List (Int × Int)} (h : RLk ds rs) (r : Runs m L rs) (hL : L ≤ (1000000000000000000000000000000 : Int)) : TlA 1 217 m ds :=
  ⟨rlk_tl h fun p hp => ⟨r.chg p hp, (r.cnt p hp).1, Int.le_trans (r.cnt p hp).2 hL⟩, by have := rlk_len h; have := r.len; omega⟩
theorem nd_runs (rs : List (Int × Int)) : ndL (rs.map drun) = 3 * rs.length := by
  induction rs with
  | nil => rfl
  | cons n ns ih => simp only [List.map_cons, ndL, drun, ndD, List.length_cons] at ih ⊢; simp only [ih]; omega
theorem noDct_runs (rs : List (Int × Int)) : noDctL (rs.map drun) = true := by
  induction rs with
  | nil => rfl
  | cons n ns ih => simp only [List.map_cons, noDctL, ih, Bool.and_true]; rfl
theorem depth_runs (rs : List (Int × Int)) : PyData.depthAll (rs.map drun) ≤ 1 := (lay_all (k := 1) fun x hx => by obtain ⟨p, _, rfl⟩ := List.mem_map.mp hx; exact lay_run p).2

end Lw
namespace Lw
open PySem L2 Ds
def runsOf (cs : List Int) : List (Int × Int) := mergeR (cs.map fun c => (c, 1))
def expandR (rs : List (Int × Int)) : List Int := rs.flatMap fun p => List.replicate p.2.toNat p.1
def totR (rs : List (Int × Int)) : Int := (rs.map (·.2)).sum
theorem totR_nil : totR [] = 0 := rfl
theorem totR_cons (p : Int × Int) (rs : List (Int × Int)) : totR (p :: rs) = p.2 + totR rs := by simp [totR]
theorem totR_append (a b : List (Int × Int)) : totR (a ++ b) = totR a + totR b := by simp [totR]
theorem expandR_append (a b : List (Int × Int)) : expandR (a ++ b) = expandR a ++ expandR b := by simp [expandR]
theorem expandR_one (p : Int × Int) : expandR [p] = List.replicate p.2.toNat p.1 := by simp [expandR]
theorem totR_nonneg : ∀ {rs : List (Int × Int)}, (∀ p ∈ rs, 1 ≤ p.2) → 0 ≤ totR rs ∧ (expandR rs).length = (totR rs).toNat ∧ (rs.length : Int) ≤ totR rs
  | [], _ => ⟨Int.le_refl _, rfl, Int.le_refl _⟩
  | p :: rs, h => by
    obtain ⟨h1, h2, h3⟩ := totR_nonneg (rs := rs) fun x hx => h x (List.mem_cons_of_mem _ hx)
    have h4 := h p (List.mem_cons_self ..)
    have e : expandR (p :: rs) = List.replicate p.2.toNat p.1 ++ expandR rs := by simp [expandR]
    rw [totR_cons, e]
    refine ⟨by omega, by simp only [List.length_append, List.length_replicate, h2]; omega, by simp only [List.length_cons]; omega⟩
/-- what runsOf gives -/
structure RunsOf (cs : List Int) (rs : List (Int × Int)) : Prop where
  ex : expandR rs = cs
  cn : Chn rs
  pos : ∀ p ∈ rs, 1 ≤ p.2
  mem : ∀ p ∈ rs, p.1 ∈ cs
theorem last_split {acc : List (Int × Int)} {q : Int × Int} (h : acc.getLast? = some q) : acc = acc.dropLast ++ [q] := by
  have hne : acc ≠ [] := fun z => by subst z; simp at h
  have e := List.dropLast_concat_getLast hne
  rw [List.getLast?_eq_some_getLast hne] at h
  cases h
  exact e.symm
theorem RunsOf.snoc {cs : List Int} {rs : List (Int × Int)} (h : RunsOf cs rs) (c : Int) : RunsOf (cs ++ [c]) (mrgStep rs (c, 1)) := by
  unfold mrgStep
  split
  · rename_i q hq
    have e := last_split hq
    have hqm : q ∈ rs := by rw [e]; simp
    have hq1 := h.pos q hqm
    split
    · rename_i hc
      dsimp only at hc
      refine ⟨?_, ?_, fun p hp => ?_, fun p hp => ?_⟩
      · have h1 := h.ex
        rw [e, expandR_append, expandR_one] at h1
        rw [expandR_append, expandR_one, ← h1, List.append_assoc, hc]
        congr 1
        dsimp only
        rw [show (1 + q.2).toNat = q.2.toNat + 1 by omega, List.replicate_succ']
      · intro i a b ha hb
        have cn := h.cn i
        rw [e] at cn
        by_cases z : i + 1 < rs.dropLast.length
        · rw [List.getElem?_append_left (by omega)] at ha
          rw [List.getElem?_append_left z] at hb
          exact cn a b (by rw [List.getElem?_append_left (by omega)]; exact ha) (by rw [List.getElem?_append_left z]; exact hb)
        · have hi := (List.getElem?_eq_some_iff.mp hb).1
          simp only [List.length_append, List.length_singleton] at hi
          have ei : i + 1 = rs.dropLast.length := by omega
          rw [List.getElem?_append_left (by omega)] at ha
          rw [List.getElem?_append_right (by omega), ei, Nat.sub_self] at hb
          simp at hb
          subst hb
          dsimp only
          rw [← hc]
          exact cn a q (by rw [List.getElem?_append_left (by omega)]; exact ha) (by rw [List.getElem?_append_right (by omega), ei, Nat.sub_self]; rfl)
      · rcases List.mem_append.mp hp with hp | hp
        · exact h.pos p ((List.dropLast_sublist _).subset hp)
        · simp at hp; subst hp; dsimp only; omega
      · rcases List.mem_append.mp hp with hp | hp
        · exact List.mem_append_left _ (h.mem p ((List.dropLast_sublist _).subset hp))
        · simp at hp; subst hp; simp
    · rename_i hc
      dsimp only at hc
      refine ⟨by rw [expandR_append, expandR_one, h.ex]; rfl, h.cn.snoc fun a ha => by rw [hq] at ha; cases ha; exact hc, fun p hp => ?_, fun p hp => ?_⟩
      · rcases List.mem_append.mp hp with hp | hp
        · exact h.pos p hp
        · simp at hp; subst hp; exact Int.le_refl _
      · rcases List.mem_append.mp hp with hp | hp
        · exact List.mem_append_left _ (h.mem p hp)
        · simp at hp; subst hp; simp
  · rename_i hq
    rw [List.getLast?_eq_none_iff] at hq
    subst hq
    have hc : cs = [] := h.ex.symm
    subst hc
    exact ⟨rfl, fun i a b ha hb => by simp at hb, by simp, by simp⟩
theorem runsOf_snoc (cs : List Int) (c : Int) : runsOf (cs ++ [c]) = mrgStep (runsOf cs) (c, 1) := by unfold runsOf; rw [List.map_append, List.map_singleton, mergeR_snoc]
theorem runsOf_is (cs : List Int) : RunsOf cs (runsOf cs) := by
  have go : ∀ (l pre : List Int) (rs : List (Int × Int)), RunsOf pre rs → RunsOf (pre ++ l) ((l.map fun c => (c, (1 : Int))).foldl mrgStep rs) := by
    intro l
    induction l with
    | nil => intro pre rs h; simpa using h
    | cons c l ih => intro pre rs h; have := ih (pre ++ [c]) _ (h.snoc c); simpa using this
  have := go cs [] [] ⟨rfl, fun i a b ha => by simp at ha, by simp, by simp⟩
  simpa [runsOf, mergeR] using this
theorem runsOf_len (cs : List Int) : (runsOf cs).length ≤ cs.length := by
  have := mergeR_len (cs.map fun c => (c, (1 : Int)))
  simpa [runsOf] using this
theorem runsOf_tot (cs : List Int) : totR (runsOf cs) = cs.length := by
  have h := runsOf_is cs
  have h2 := totR_nonneg h.pos
  rw [h.ex] at h2
  omega
theorem mem_tot : ∀ {rs : List (Int × Int)}, (∀ p ∈ rs, 1 ≤ p.2) → ∀ p ∈ rs, p.2 ≤ totR rs
  | [], _, p, hp => by simp at hp
  | q :: rs, h, p, hp => by
    have h1 := totR_nonneg (rs := rs) fun x hx => h x (List.mem_cons_of_mem _ hx)
    have h2 := h q (List.mem_cons_self ..)
    rw [totR_cons]
    rcases List.mem_cons.mp hp with rfl | hp
    · omega
    · have := mem_tot (rs := rs) (fun x hx => h x (List.mem_cons_of_mem _ hx)) p hp
      omega
theorem runsOf_runs {cs : List Int} (h : ∀ c ∈ cs, -1 ≤ c ∧ c ≤ 1) : Runs cs.length cs.length (runsOf cs) := by
  have r := runsOf_is cs
  refine ⟨runsOf_len cs, fun p hp => h _ (r.mem p hp), fun p hp => ⟨r.pos p hp, ?_⟩, r.cn⟩
  have := mem_tot r.pos p hp
  rw [runsOf_tot] at this
  exact this
theorem fold_rep (c : Int) : ∀ (n : Nat) (acc : List (Int × Int)) (k : Int), ((List.replicate n c).map fun c => (c, (1 : Int))).foldl mrgStep (acc ++ [(c, k)]) = acc ++ [(c, k + n)]
  | 0, acc, k => by simp
  | n + 1, acc, k => by
    have e : mrgStep (acc ++ [(c, k)]) (c, 1) = acc ++ [(c, 1 + k)] := by
      unfold mrgStep
      simp
    rw [List.replicate_succ, List.map_cons, List.foldl_cons, e, fold_rep c n acc (1 + k)]
    congr 3
    omega
/-- runs, read one by one and taken together, are the same runs -/
theorem runsOf_expand {rs : List (Int × Int)} (h : Chn rs) (hp : ∀ p ∈ rs, 1 ≤ p.2) : runsOf (expandR rs) = rs := by
  have go : ∀ (l acc : List (Int × Int)), Chn (acc ++ l) → (∀ p ∈ l, 1 ≤ p.2) → ((expandR l).map fun c => (c, (1 : Int))).foldl mrgStep acc = acc ++ l := by
    intro l
    induction l with
    | nil => intro acc _ _; simp [expandR]
    | cons p l ih =>
      intro acc hc hq
      obtain ⟨c, n⟩ := p
      have hn := hq (c, n) (List.mem_cons_self ..)
      dsimp only at hn
      have e : expandR ((c, n) :: l) = c :: (List.replicate (n.toNat - 1) c) ++ expandR l := by
        have : n.toNat = (n.toNat - 1) + 1 := by omega
        simp only [expandR, List.flatMap_cons]
        rw [this, List.replicate_succ]; simp
      have e2 : mrgStep acc (c, 1) = acc ++ [(c, 1)] := by
        unfold mrgStep
        cases h : acc.getLast? with
        | none => rw [List.getLast?_eq_none_iff] at h; subst h; rfl
        | some q =>
          dsimp only
          rw [if_neg]
          have e := last_split h
          have := hc (acc.dropLast.length) q (c, n)
          rw [e] at this
          exact this (by simp) (by simp)
      rw [e, List.map_append, List.map_cons, List.foldl_append, List.foldl_cons, e2, fold_rep]
      rw [show (1 + ((n.toNat - 1 : Nat) : Int)) = n by omega]
      have := ih (acc ++ [(c, n)]) (by simpa using hc) fun x hx => hq x (List.mem_cons_of_mem _ hx)
      rw [this]; simp
  have := go rs [] (by simpa using h) hp
  simpa [runsOf, mergeR] using this
theorem ints_tlA {cs : List Int} {m : Nat} {k : Nat} (n : Nat) (h : ∀ c ∈ cs, -(2 ^ n) < c ∧ c < 2 ^ n) (hm : cs.length ≤ m) (hn : 0 < n) (hn2 : n ≤ 1920) (hk : n + 1 ≤ k) : TlA 0 k m (cs.map .int) :=
  TlA.map (fun c hc => Tl.intB n (h c hc).1 (h c hc).2 hn hn2 hk) hm
end Lw
namespace Lw
open PySem L2 Ds
theorem rlk_zip : ∀ {ds : List D} {rs : List (Int × Int)}, RLk ds rs → ∃ zs : List (D × (Int × Int)), ds = zs.map (·.1) ∧ rs = zs.map (·.2) ∧ ∀ z ∈ zs, z.1 = .list [.int z.2.1, .int z.2.2] ∨ z.1 = .tuple [.int z.2.1, .int z.2.2]
  | [], [], _ => ⟨[], rfl, rfl, by simp⟩
  | d :: ds, p :: rs, h => by
    obtain ⟨zs, h1, h2, h3⟩ := rlk_zip h.2
    refine ⟨(d, p) :: zs, by rw [h1]; rfl, by rw [h2]; rfl, fun z hz => ?_⟩
    rcases List.mem_cons.mp hz with rfl | hz
    · exact h.1
    · exact h3 z hz
  | [], _ :: _, h => h.elim
  | _ :: _, [], h => h.elim
abbrev mn (i j : Int) : Int := if j < i then j else i
theorem mn_comm (i j : Int) : mn i j = mn j i := by unfold mn; split <;> split <;> omega
/-- how many of the first n reads have the change c -/
def cntR (c : Int) : List (Int × Int) → Int → Int
  | [], _ => 0
  | p :: rs, n => (if p.1 = c then mn p.2 n else 0) + cntR c rs (n - mn p.2 n)
theorem cut_mem {α : Type} {l : List α} {lo hi : Option Int} {x : α} (h : x ∈ cut l lo hi) : x ∈ l := List.mem_of_mem_drop (List.mem_of_mem_take h)
theorem cut_len {α : Type} (l : List α) (lo hi : Option Int) : (cut l lo hi).length ≤ l.length := by
  unfold cut; rw [List.length_take, List.length_drop]; omega
end Lw
namespace Lw
open PySem L2 Ds
theorem cut_last {α : Type} (l : List α) (k : Nat) (hk : 0 < k) : (cut l (some (-(k : Int))) none).length ≤ k := by
  have e : HT.sIx l.length 0 (some (-(k : Int))) = (-(k : Int) + l.length).toNat := by
    simp only [HT.sIx]
    rw [if_pos (by omega)]
  unfold cut
  rw [e]
  simp only [List.length_take, List.length_drop, HT.sIx]
  omega
theorem safeL_of : ∀ {l : List D}, (∀ d ∈ l, Ds.safe d = true) → Ds.safeL l = true
  | [], _ => rfl
  | d :: l, h => by simp only [Ds.safeL, h d (List.mem_cons_self ..), safeL_of fun x hx => h x (List.mem_cons_of_mem _ hx), Bool.and_self]
end Lw
namespace Lw
open PySem L2 Ds
def lrun (p : Int × Int) : D := .list [.int p.1, .int p.2]
theorem rlk_lrun : ∀ rs, RLk (rs.map lrun) rs
  | [] => trivial
  | _ :: rs => ⟨.inl rfl, rlk_lrun rs⟩
theorem chn_fst {rs rs' : List (Int × Int)} (h : Chn rs) (e : rs'.map (·.1) = rs.map (·.1)) : Chn rs' := by
  intro i a b ha hb
  have f : ∀ (j : Nat) (x : Int × Int), rs'[j]? = some x → ∃ y, rs[j]? = some y ∧ y.1 = x.1 := fun j x hx => by
    have h1 : (rs'.map (·.1))[j]? = some x.1 := by rw [List.getElem?_map, hx]; rfl
    rw [e, List.getElem?_map, Option.map_eq_some_iff] at h1
    exact h1
  obtain ⟨x, hx, ex⟩ := f i a ha
  obtain ⟨y, hy, ey⟩ := f (i + 1) b hb
  rw [← ex, ← ey]
  exact h i x y hx hy
theorem cntR_le (c : Int) : ∀ {rs : List (Int × Int)} {n : Int}, (∀ p ∈ rs, 1 ≤ p.2) → 0 ≤ n → 0 ≤ cntR c rs n ∧ cntR c rs n ≤ n
  | [], n, _, h => ⟨Int.le_refl _, h⟩
  | p :: rs, n, hp, h => by
    have h1 := hp p (List.mem_cons_self ..)
    have h2 : 0 ≤ mn p.2 n ∧ mn p.2 n ≤ n := by unfold mn; split <;> omega
    have h3 := cntR_le c (rs := rs) (n := n - mn p.2 n) (fun x hx => hp x (List.mem_cons_of_mem _ hx)) (by omega)
    simp only [cntR]
    split <;> omega
end Lw
namespace Lw
open PySem L2 Ds
def sprM : Int := 2305843009213693951
structure Spr where
  g : Int
  s : Int
  n : Int
def Spr.d (r : Spr) : List D := [.int r.g, .int r.s, .int r.n]
structure Spr.Ok (r : Spr) (b : Nat) : Prop where
  g0 : 0 ≤ r.g
  gb : r.g < 2 ^ 13000
  s0 : 0 ≤ r.s
  sb : r.s < 2 ^ 61
  n0 : 0 ≤ r.n
  nb : r.n ≤ b
theorem Spr.Ok.mono {r : Spr} {a b : Nat} (h : r.Ok a) (hab : a ≤ b) : r.Ok b := ⟨h.g0, h.gb, h.s0, h.sb, h.n0, by have := h.nb; omega⟩
/-- totals of the first reads, the count cut at each run -/
abbrev mx0 (i : Int) : Int := if i > 0 then i else 0
def cutN (k n : Int) : Int := mx0 (mn k n)
def cntF (c : Int) : List (Int × Int) → Int → Int
  | [], _ => 0
  | p :: rs, n => (if p.1 = c then cutN p.2 n else 0) + cntF c rs (n - p.2)
def sumC (c : Int) : List (Int × Int) → Int
  | [] => 0
  | p :: rs => (if p.1 = c then p.2 else 0) + sumC c rs
theorem cntF_append (c : Int) : ∀ (a b : List (Int × Int)) (n : Int), cntF c (a ++ b) n = cntF c a n + cntF c b (n - totR a)
  | [], b, n => by simp [cntF, totR]
  | p :: a, b, n => by
    simp only [List.cons_append, cntF, cntF_append c a b, totR_cons]
    rw [show n - p.2 - totR a = n - (p.2 + totR a) by omega]; omega
theorem sumC_append (c : Int) : ∀ (a b : List (Int × Int)), sumC c (a ++ b) = sumC c a + sumC c b
  | [], b => by simp [sumC]
  | p :: a, b => by simp only [List.cons_append, sumC, sumC_append c a b]; omega
theorem cntF_one (c : Int) (p : Int × Int) (n : Int) : cntF c [p] n = if p.1 = c then cutN p.2 n else 0 := by simp [cntF]
theorem sumC_one (c : Int) (p : Int × Int) : sumC c [p] = if p.1 = c then p.2 else 0 := by simp [sumC]
theorem totR_one (p : Int × Int) : totR [p] = p.2 := by simp [totR]
theorem cutN_bd {k n : Int} (h : 0 ≤ k) : 0 ≤ cutN k n ∧ cutN k n ≤ k := by unfold cutN mx0 mn; split <;> split <;> omega
theorem cntF_bd (c : Int) : ∀ {rs : List (Int × Int)} {n : Int}, (∀ p ∈ rs, 1 ≤ p.2) → 0 ≤ cntF c rs n ∧ cntF c rs n ≤ totR rs
  | [], n, _ => ⟨Int.le_refl _, Int.le_refl _⟩
  | p :: rs, n, h => by
    have h1 := h p (List.mem_cons_self ..)
    have h2 := cutN_bd (k := p.2) (n := n) (by omega)
    have h3 := cntF_bd c (rs := rs) (n := n - p.2) fun x hx => h x (List.mem_cons_of_mem _ hx)
    rw [totR_cons]
    simp only [cntF]
    split <;> omega
theorem sumC_bd (c : Int) : ∀ {rs : List (Int × Int)}, (∀ p ∈ rs, 1 ≤ p.2) → 0 ≤ sumC c rs ∧ sumC c rs ≤ totR rs
  | [], _ => ⟨Int.le_refl _, Int.le_refl _⟩
  | p :: rs, h => by
    have h1 := h p (List.mem_cons_self ..)
    have h3 := sumC_bd c (rs := rs) fun x hx => h x (List.mem_cons_of_mem _ hx)
    rw [totR_cons]
    simp only [sumC]
    split <;> omega
theorem tot_le {rs : List (Int × Int)} {m : Nat} {L : Int} (h : ∀ p ∈ rs, p.2 ≤ L) (hl : rs.length ≤ m) (hL : 0 ≤ L) : totR rs ≤ m * L := by
  have go : ∀ rs : List (Int × Int), (∀ p ∈ rs, p.2 ≤ L) → totR rs ≤ (rs.length : Int) * L := by
    intro rs
    induction rs with
    | nil => intro _; simp [totR]
    | cons p rs ih =>
      intro h
      have h1 := h p (List.mem_cons_self ..)
      have h2 := ih fun x hx => h x (List.mem_cons_of_mem _ hx)
      rw [totR_cons, List.length_cons]
      have : (((rs.length + 1 : Nat)) : Int) * L = (rs.length : Int) * L + L := by rw [Int.natCast_add, Int.add_mul]; simp
      omega
  exact Int.le_trans (go rs h) (Int.mul_le_mul_of_nonneg_right (by omega) hL)
/-- running totals -/
def endsR (rs : List (Int × Int)) : List Int := (List.range (rs.length + 1)).map fun j => totR (rs.take j)
theorem endsR_nil : endsR [] = [0] := rfl
theorem endsR_snoc (rs : List (Int × Int)) (p : Int × Int) : endsR (rs ++ [p]) = endsR rs ++ [totR (rs ++ [p])] := by
  unfold endsR
  rw [List.length_append, List.length_singleton, List.range_succ, List.map_append, List.map_singleton]
  congr 1
  · refine List.map_congr_left fun j hj => ?_
    rw [List.mem_range] at hj
    rw [List.take_append_of_le_length (by omega)]
  · rw [List.take_of_length_le (by simp)]
theorem endsR_last (rs : List (Int × Int)) : (endsR rs).getLast? = some (totR rs) := by
  unfold endsR
  rw [List.range_succ, List.map_append, List.map_singleton, List.getLast?_append]
  simp
theorem endsR_len (rs : List (Int × Int)) : (endsR rs).length = rs.length + 1 := by simp [endsR]
theorem tot_take {rs : List (Int × Int)} (h : ∀ p ∈ rs, 1 ≤ p.2) (j : Nat) : 0 ≤ totR (rs.take j) ∧ totR (rs.take j) ≤ totR rs := by
  have h1 := totR_nonneg (rs := rs.take j) fun p hp => h p (List.mem_of_mem_take hp)
  have h2 := totR_nonneg (rs := rs.drop j) fun p hp => h p (List.mem_of_mem_drop hp)
  have h3 := totR_append (rs.take j) (rs.drop j)
  rw [List.take_append_drop] at h3
  omega
theorem endsR_mem {rs : List (Int × Int)} (h : ∀ p ∈ rs, 1 ≤ p.2) : ∀ e ∈ endsR rs, 0 ≤ e ∧ e ≤ totR rs := by
  intro e he
  obtain ⟨j, _, rfl⟩ := List.mem_map.mp he
  exact tot_take h j
/-- totals of runs, as the program writes them -/
def tupR (rs : List (Int × Int)) : D := .tuple [.int (totR rs), .int (sumC 1 rs), .int (sumC 0 rs), .int (sumC (-1) rs)]
def endsT (rs : List (Int × Int)) : List D := (List.range (rs.length + 1)).map fun j => tupR (rs.take j)
theorem endsT_snoc (rs : List (Int × Int)) (p : Int × Int) : endsT (rs ++ [p]) = endsT rs ++ [tupR (rs ++ [p])] := by
  unfold endsT
  rw [List.length_append, List.length_singleton, List.range_succ, List.map_append, List.map_singleton]
  congr 1
  · refine List.map_congr_left fun j hj => ?_
    rw [List.mem_range] at hj
    rw [List.take_append_of_le_length (by omega)]
  · rw [List.take_of_length_le (by simp)]
theorem endsT_last (rs : List (Int × Int)) : (endsT rs).getLast? = some (tupR rs) := by
  unfold endsT
  rw [List.range_succ, List.map_append, List.map_singleton, List.getLast?_append]
  simp
theorem endsT_len (rs : List (Int × Int)) : (endsT rs).length = rs.length + 1 := by simp [endsT]
end Lw
namespace Lw
open PySem L2 Ds TL
abbrev BIGP : Int := 1000000000000000000000000000000000
abbrev numT (n : Int) : Str := Str.ofString (toString n)
theorem numL_head : ∀ n : Nat, (numL n)[0]? = some 48 → n = 0 := by
  intro n
  induction n using Nat.strongRecOn with
  | _ n ih =>
    intro h
    by_cases z : n < 10
    · rw [numL_lt z] at h; simp at h; omega
    · have hz : 10 ≤ n := by omega
      rw [numL_step hz] at h
      have hne : 0 < (numL (n / 10)).length := List.length_pos_iff.mpr (numL_ne _)
      rw [List.getElem?_append_left hne] at h
      have := ih (n / 10) (by omega) h
      omega
structure NumT (n : Int) : Prop where
  rd : PySem.intText? (numT n) = some n
  ln : (numT n).length ≤ 40
  sg : ∀ c ∈ tl (numT n), 48 ≤ c ∧ c ≤ 57
  ne : tl (numT n) ≠ []
  hd : (tl (numT n))[0]? = some 48 → n = 0
theorem numT_ok {n : Int} (h0 : 0 ≤ n) (h1 : n ≤ BIGP) : NumT n := by
  obtain ⟨m, rfl⟩ := Int.eq_ofNat_of_zero_le h0
  have e : tl (numT ((m : Nat) : Int)) = numL m := tl_num m
  have hl : (numL m).length ≤ 40 := numL_len (by decide) (by have h2 : (m : Int) ≤ 1000000000000000000000000000000000 := h1; omega)
  refine ⟨int_num (by omega), ?_, ?_, ?_, ?_⟩
  · have : (tl (numT ((m : Nat) : Int))).length = (numT ((m : Nat) : Int)).length := Array.length_toList
    rw [← this, e]; exact hl
  · rw [e]; exact numL_digits m
  · rw [e]; exact numL_ne m
  · rw [e]; intro h; rw [numL_head m h]; rfl
def spaceT : Str := (" " : Str)
def joinT (ns : List Int) : Str := Txt.join (" " : Str) (ns.map numT)
theorem tl_space : tl (" " : Str) = [32] := by decide +kernel
theorem split_joinT {ns : List Int} (hne : ns ≠ []) (h : ∀ n ∈ ns, NumT n) : Txt.split (joinT ns) (" " : Str) = ns.map numT := by
  refine split_join (y := (" " : Str)) (s := 32) (S := []) tl_space (by decide +kernel) (by simpa using hne) fun p hp => ?_
  obtain ⟨n, hn, rfl⟩ := List.mem_map.mp hp
  intro hc
  have := (h n hn).sg 32 hc
  omega
theorem joinL_len (s : List Nat) (L : Nat) : ∀ ps : List (List Nat), (∀ p ∈ ps, p.length ≤ L) → (joinL s ps).length ≤ ps.length * (L + s.length)
  | [], _ => by simp [joinL]
  | [p], h => by
    have := h p (List.mem_singleton.mpr rfl)
    show p.length ≤ 1 * _
    omega
  | p :: q :: r, h => by
    have h1 := h p (List.mem_cons_self ..)
    have h2 := joinL_len s L (q :: r) fun x hx => h x (List.mem_cons_of_mem _ hx)
    have e : joinL s (p :: q :: r) = p ++ (s ++ joinL s (q :: r)) := rfl
    rw [e, List.length_append, List.length_append]
    have e2 : (p :: q :: r).length * (L + s.length) = (q :: r).length * (L + s.length) + (L + s.length) := by rw [List.length_cons, Nat.succ_mul]
    omega
theorem joinT_len {ns : List Int} (h : ∀ n ∈ ns, NumT n) : (joinT ns).length ≤ ns.length * 41 := by
  have e : (tl (joinT ns)).length = (joinT ns).length := Array.length_toList
  rw [← e]
  unfold joinT
  rw [join_eq, tl_join, tl_space]
  have := joinL_len [32] 40 ((ns.map numT).map tl) fun p hp => by
    obtain ⟨z, hz, rfl⟩ := List.mem_map.mp hp
    obtain ⟨n, hn, rfl⟩ := List.mem_map.mp hz
    have e : (tl (numT n)).length = (numT n).length := Array.length_toList
    rw [e]; exact (h n hn).ln
  simpa using this
theorem joinT_ne {ns : List Int} (hne : ns ≠ []) (h : ∀ n ∈ ns, NumT n) : joinT ns ≠ ("" : Str) := by
  intro e
  have : tl (joinT ns) = [] := by rw [e]; decide +kernel
  unfold joinT at this
  rw [join_eq, tl_join, tl_space] at this
  cases ns with
  | nil => exact hne rfl
  | cons n r =>
    have h1 := (h n (List.mem_cons_self ..)).ne
    cases r with
    | nil => exact h1 this
    | cons m r =>
      have e2 : joinL [32] (((n :: m :: r).map numT).map tl) = tl (numT n) ++ ([32] ++ joinL [32] (((m :: r).map numT).map tl)) := rfl
      rw [e2] at this
      simp at this
theorem join_size {ns : List Int} (h : ∀ n ∈ ns, NumT n) (hl : ns.length ≤ 400) : ((ns.map numT).map (·.length)).sum + (ns.map numT).length * (" " : Str).length ≤ 16777216 := by
  have go : ∀ ns : List Int, (∀ n ∈ ns, NumT n) → ((ns.map numT).map (·.length)).sum ≤ 40 * ns.length := by
    intro ns
    induction ns with
    | nil => intro _; simp
    | cons n r ih =>
      intro h
      have h1 := (h n (List.mem_cons_self ..)).ln
      have h2 := ih fun x hx => h x (List.mem_cons_of_mem _ hx)
      simp only [List.map_cons, List.sum_cons, List.length_cons]; omega
  have h1 := go ns h
  have h2 : (" " : Str).length = 1 := by decide +kernel
  rw [h2, List.length_map]; omega
theorem joinL_mem {s : List Nat} {c : Nat} : ∀ {ps : List (List Nat)}, c ∈ joinL s ps → c ∈ s ∨ ∃ p ∈ ps, c ∈ p
  | [], h => by simp [joinL] at h
  | [p], h => .inr ⟨p, List.mem_singleton.mpr rfl, h⟩
  | p :: q :: r, h => by
    have e : joinL s (p :: q :: r) = p ++ (s ++ joinL s (q :: r)) := rfl
    rw [e, List.mem_append, List.mem_append] at h
    rcases h with h | h | h
    · exact .inr ⟨p, List.mem_cons_self .., h⟩
    · exact .inl h
    · rcases joinL_mem h with h | ⟨z, hz, h⟩
      · exact .inl h
      · exact .inr ⟨z, List.mem_cons_of_mem _ hz, h⟩
theorem joinT_lay {ns : List Int} (h : ∀ n ∈ ns, NumT n) : (PyData.str (joinT ns)).canLay0 = true := by
  show PyData.strOk (joinT ns) = true
  unfold PyData.strOk
  rw [← Array.all_toList, List.all_eq_true]
  intro c hc
  have hc : c ∈ tl (joinT ns) := hc
  unfold joinT at hc
  rw [join_eq, tl_join, tl_space] at hc
  refine decide_eq_true ?_
  rcases joinL_mem hc with hc | ⟨p, hp, hc⟩
  · simp at hc; omega
  · obtain ⟨z, hz, rfl⟩ := List.mem_map.mp hp
    obtain ⟨n, hn, rfl⟩ := List.mem_map.mp hz
    have := (h n hn).sg c hc
    omega
theorem numT_zero : numT 0 = ("0" : Str) := by decide +kernel
/-- entries of a state -/
structure StOk (ns : List Int) : Prop where
  l1 : 1 ≤ ns.length
  l2 : ns.length ≤ 200
  bd : ∀ n ∈ ns, 0 ≤ n ∧ n ≤ BIGP
  srt : ns.Pairwise (· ≥ ·)
theorem StOk.num {ns : List Int} (h : StOk ns) : ∀ n ∈ ns, NumT n := fun n hn => numT_ok (h.bd n hn).1 (h.bd n hn).2
theorem StOk.ne {ns : List Int} (h : StOk ns) : ns ≠ [] := fun e => by have := h.l1; rw [e] at this; simp at this
theorem srt_zip : ∀ {ns : List Int}, ns.Pairwise (· ≥ ·) → ∀ p ∈ ns.zip (ns.drop 1), p.2 ≤ p.1
  | [], _, p, hp => by simp at hp
  | [_], _, p, hp => by simp at hp
  | a :: b :: r, h, p, hp => by
    simp only [List.drop_succ_cons, List.drop_zero, List.zip_cons_cons, List.mem_cons] at hp
    have h1 := List.pairwise_cons.mp h
    rcases hp with rfl | hp
    · exact h1.1 b (List.mem_cons_self ..)
    · exact srt_zip h1.2 p (by simpa using hp)
theorem cutI (ns : List Int) (lo hi : Option Int) : cut (ns.map PyData.int) lo hi = (cut ns lo hi).map PyData.int := by
  unfold cut; simp
/-- the last two -/
theorem StOk.tail2 {ns : List Int} (h : StOk ns) (pre : List Int) (hp : pre ≠ []) (post : List Int) (e : ns = pre ++ post) : StOk (cut pre (some (-2)) none) := by
  have sub : (cut pre (some (-2)) none).Sublist ns := by
    unfold cut
    refine List.Sublist.trans (List.take_sublist ..) (List.Sublist.trans (List.drop_sublist ..) ?_)
    rw [e]; exact List.sublist_append_left ..
  have h2 := cut_last pre 2 (by decide)
  refine ⟨?_, by have : (cut pre (some (-2)) none).length ≤ 2 := h2; omega, fun n hn => h.bd n (sub.subset hn), h.srt.sublist sub⟩
  have hl := List.length_pos_iff.mpr hp
  unfold cut
  rw [List.length_take, List.length_drop]
  have e1 : HT.sIx pre.length 0 (some (-2)) = ((-2 : Int) + pre.length).toNat := by simp only [HT.sIx]; rw [if_pos (by decide)]
  rw [e1]
  simp only [HT.sIx]
  omega
end Lw
namespace Lw
open PySem L2 Ds TL
def letT (c : Int) : Str := if c = 1 then ("u" : Str) else if c = 0 then ("s" : Str) else ("d" : Str)
def runT (p : Int × Int) : Str := letT p.1 ++ numT p.2
def joinRT (rs : List (Int × Int)) : Str := Txt.join (" " : Str) (rs.map runT)
structure RunT (p : Int × Int) : Prop where
  ch : -1 ≤ p.1 ∧ p.1 ≤ 1
  nm : NumT p.2
theorem runT_ok {p : Int × Int} (h : -1 ≤ p.1 ∧ p.1 ≤ 1) (h2 : 1 ≤ p.2 ∧ p.2 ≤ (1000000000000000000000000000000 : Int)) : RunT p :=
  ⟨h, numT_ok (by omega) (by show p.2 ≤ 1000000000000000000000000000000000; omega)⟩
theorem tl_let (c : Int) : ∃ k : Nat, tl (letT c) = [k] ∧ (k = 117 ∨ k = 115 ∨ k = 100) := by
  unfold letT
  split
  · exact ⟨117, by decide +kernel, by simp⟩
  · split
    · exact ⟨115, by decide +kernel, by simp⟩
    · exact ⟨100, by decide +kernel, by simp⟩
theorem tl_run (p : Int × Int) : ∃ k : Nat, tl (letT p.1) = [k] ∧ (k = 117 ∨ k = 115 ∨ k = 100) ∧ tl (runT p) = k :: tl (numT p.2) := by
  obtain ⟨k, h1, h2⟩ := tl_let p.1
  refine ⟨k, h1, h2, ?_⟩
  unfold runT
  rw [tl_append, h1]; rfl
theorem RunT.len {p : Int × Int} (h : RunT p) : (runT p).length ≤ 41 := by
  obtain ⟨k, h1, h2, h3⟩ := tl_run p
  have e1 : (tl (runT p)).length = (runT p).length := Array.length_toList
  have e2 : (tl (numT p.2)).length = (numT p.2).length := Array.length_toList
  have := h.nm.ln
  rw [← e1, h3, List.length_cons, e2]; omega
theorem split_joinRT {rs : List (Int × Int)} (hne : rs ≠ []) (h : ∀ p ∈ rs, RunT p) : Txt.split (joinRT rs) (" " : Str) = rs.map runT := by
  refine split_join (y := (" " : Str)) (s := 32) (S := []) tl_space (by decide +kernel) (by simpa using hne) fun z hz => ?_
  obtain ⟨p, hp, rfl⟩ := List.mem_map.mp hz
  obtain ⟨k, h1, h2, h3⟩ := tl_run p
  rw [h3]
  intro hc
  rcases List.mem_cons.mp hc with hc | hc
  · omega
  · have := (h p hp).nm.sg 32 hc
    omega
theorem joinRT_len {rs : List (Int × Int)} (h : ∀ p ∈ rs, RunT p) : (joinRT rs).length ≤ rs.length * 42 := by
  have e : (tl (joinRT rs)).length = (joinRT rs).length := Array.length_toList
  rw [← e]
  unfold joinRT
  rw [join_eq, tl_join, tl_space]
  have := joinL_len [32] 41 ((rs.map runT).map tl) fun p hp => by
    obtain ⟨z, hz, rfl⟩ := List.mem_map.mp hp
    obtain ⟨n, hn, rfl⟩ := List.mem_map.mp hz
    have e : (tl (runT n)).length = (runT n).length := Array.length_toList
    rw [e]; exact (h n hn).len
  simpa using this
theorem joinRT_ne {rs : List (Int × Int)} (hne : rs ≠ []) : joinRT rs ≠ ("" : Str) := by
  intro e
  have : tl (joinRT rs) = [] := by rw [e]; decide +kernel
  unfold joinRT at this
  rw [join_eq, tl_join, tl_space] at this
  cases rs with
  | nil => exact hne rfl
  | cons n r =>
    obtain ⟨k, h1, h2, h3⟩ := tl_run n
    cases r with
    | nil => have t : tl (runT n) = [] := this
             rw [h3] at t; cases t
    | cons m r =>
      have e2 : joinL [32] (((n :: m :: r).map runT).map tl) = tl (runT n) ++ ([32] ++ joinL [32] (((m :: r).map runT).map tl)) := rfl
      rw [e2] at this
      simp at this
theorem joinR_size {rs : List (Int × Int)} (h : ∀ p ∈ rs, RunT p) (hl : rs.length ≤ 400) : ((rs.map runT).map (·.length)).sum + (rs.map runT).length * (" " : Str).length ≤ 16777216 := by
  have go : ∀ rs : List (Int × Int), (∀ p ∈ rs, RunT p) → ((rs.map runT).map (·.length)).sum ≤ 41 * rs.length := by
    intro rs
    induction rs with
    | nil => intro _; simp
    | cons n r ih =>
      intro h
      have h1 := (h n (List.mem_cons_self ..)).len
      have h2 := ih fun x hx => h x (List.mem_cons_of_mem _ hx)
      simp only [List.map_cons, List.sum_cons, List.length_cons]; omega
  have h1 := go rs h
  have h2 : (" " : Str).length = 1 := by decide +kernel
  rw [h2, List.length_map]; omega
theorem joinRT_lay {rs : List (Int × Int)} (h : ∀ p ∈ rs, RunT p) : (PyData.str (joinRT rs)).canLay0 = true := by
  show PyData.strOk (joinRT rs) = true
  unfold PyData.strOk
  rw [← Array.all_toList, List.all_eq_true]
  intro c hc
  have hc : c ∈ tl (joinRT rs) := hc
  unfold joinRT at hc
  rw [join_eq, tl_join, tl_space] at hc
  refine decide_eq_true ?_
  rcases joinL_mem hc with hc | ⟨q, hq, hc⟩
  · simp at hc; omega
  · obtain ⟨z, hz, rfl⟩ := List.mem_map.mp hq
    obtain ⟨n, hn, rfl⟩ := List.mem_map.mp hz
    obtain ⟨k, h1, h2, h3⟩ := tl_run n
    rw [h3] at hc
    rcases List.mem_cons.mp hc with hc | hc
    · omega
    · have := (h n hn).nm.sg c hc
      omega
theorem Runs.txt {m : Nat} {rs : List (Int × Int)} (h : Runs m (1000000000000000000000000000000 : Int) rs) : ∀ p ∈ rs, RunT p := fun p hp => runT_ok (h.chg p hp) (h.cnt p hp)
theorem cutD (rs : List (Int × Int)) (lo hi : Option Int) : cut (rs.map drun) lo hi = (cut rs lo hi).map drun := by unfold cut; simp
theorem Chn.drop {rs : List (Int × Int)} (h : Chn rs) (k : Nat) : Chn (rs.drop k) := fun i a b ha hb => h (k + i) a b (by rw [List.getElem?_drop] at ha; exact ha) (by rw [List.getElem?_drop] at hb; exact hb)
theorem Chn.take {rs : List (Int × Int)} (h : Chn rs) (k : Nat) : Chn (rs.take k) := fun i a b ha hb => by
  rw [List.getElem?_take] at ha hb
  split at ha
  · split at hb
    · exact h i a b ha hb
    · cases hb
  · cases ha
theorem Runs.cut {m : Nat} {L : Int} {rs : List (Int × Int)} (h : Runs m L rs) (lo hi : Option Int) : Runs m L (Ds.cut rs lo hi) :=
  ⟨Nat.le_trans (cut_len ..) h.len, fun p hp => h.chg p (cut_mem hp), fun p hp => h.cnt p (cut_mem hp), by unfold Ds.cut; exact (h.chn.drop _).take _⟩
theorem Runs.pre {m : Nat} {L : Int} {a b : List (Int × Int)} (h : Runs m L (a ++ b)) : Runs m L a :=
  ⟨by have := h.len; simp at this; omega, fun p hp => h.chg p (by simp [hp]), fun p hp => h.cnt p (by simp [hp]), by have := h.chn.take a.length; simpa using this⟩
theorem str_ext {a b : Str} (h : tl a = tl b) : a = b := by
  cases a; cases b; simp only [Str.mk.injEq]; exact Array.toList_inj.mp h
end Lw
namespace Lw
open PySem L2 Ds TL
theorem tl_cutS (z : Str) (lo hi : Option Int) : tl (cutS z lo hi) = Ds.cut (tl z) lo hi := by
  have e : z.length = (tl z).length := Array.length_toList.symm
  show (List.take _ (List.drop _ (tl z))) = _
  rw [e]; rfl
theorem cut_first (p : Int × Int) : cutS (runT p) none (some 1) = letT p.1 := by
  obtain ⟨k, h1, h2, h3⟩ := tl_run p
  refine str_ext ?_
  rw [tl_cutS, h3, h1, show Ds.cut (k :: tl (numT p.2)) none (some 1) = _ from cut_to (k :: tl (numT p.2)) 1]
  rfl
theorem cut_rest (p : Int × Int) : cutS (runT p) (some 1) none = numT p.2 := by
  obtain ⟨k, h1, h2, h3⟩ := tl_run p
  refine str_ext ?_
  rw [tl_cutS, h3, show Ds.cut (k :: tl (numT p.2)) (some 1) none = _ from cut_from (k :: tl (numT p.2)) 1]
  rfl
end Lw
namespace Lw
open PySem L2 Ds
abbrev Sta := List Int
def ownC (n k : Nat) : Int := if n = 1 then 0 else (if k = 0 then 1 else 0) - (if k + 1 = n then 1 else 0)
def canR (s : Sta) (k : Nat) : Bool := decide (k = 0 ∨ s.getD k 0 < s.getD (k - 1) 0)
def incS (s : Sta) (k : Nat) : Sta := s.set k (s.getD k 0 + 1)
def nextS (s : Sta) (c : Int) : List (Nat × Sta) := ((List.range s.length).filter fun k => canR s k && decide (ownC s.length k = c)).map fun k => (k, incS s k)
def addNew (l : List Sta) (o : Sta) : List Sta := if o ∈ l then l else l ++ [o]
def stepF (F : List Sta) (c : Int) : List Sta := (F.flatMap fun s => (nextS s c).map (·.2)).foldl addNew []
def zeroS (R : Nat) : Sta := List.replicate R 0
def layS (R : Nat) (cs : List Int) : List Sta := cs.foldl stepF [zeroS R]
def keepS (G : List Sta) (c : Int) (F : List Sta) : List Sta := F.filter fun s => (nextS s c).any fun p => decide (p.2 ∈ G)
def prunS : List Sta → List Int → List (List Sta)
  | F, [] => [F]
  | F, c :: cs => keepS ((prunS (stepF F c) cs).headD []) c F :: prunS (stepF F c) cs
theorem mem_foldl_addNew {o : Sta} : ∀ (xs l : List Sta), o ∈ xs.foldl addNew l ↔ o ∈ l ∨ o ∈ xs
  | [], l => by simp
  | x :: xs, l => by
    rw [List.foldl_cons, mem_foldl_addNew xs]
    unfold addNew
    by_cases h : x ∈ l
    · rw [if_pos h, List.mem_cons]
      constructor
      · rintro (h1 | h1); exact .inl h1; exact .inr (.inr h1)
      · rintro (h1 | rfl | h1); exact .inl h1; exact .inl h; exact .inr h1
    · rw [if_neg h, List.mem_append, List.mem_singleton, List.mem_cons]
      constructor
      · rintro ((h1 | h1) | h1); exact .inl h1; exact .inr (.inl h1); exact .inr (.inr h1)
      · rintro (h1 | h1 | h1); exact .inl (.inl h1); exact .inl (.inr h1); exact .inr h1
theorem mem_stepF {F : List Sta} {c : Int} {o : Sta} : o ∈ stepF F c ↔ ∃ s ∈ F, ∃ k, (k, o) ∈ nextS s c := by
  unfold stepF
  rw [mem_foldl_addNew]
  simp only [List.not_mem_nil, false_or, List.mem_flatMap, List.mem_map]
  constructor
  · rintro ⟨s, hs, p, hp, rfl⟩; exact ⟨s, hs, p.1, hp⟩
  · rintro ⟨s, hs, k, hp⟩; exact ⟨s, hs, _, hp, rfl⟩
theorem stepF_nil (c : Int) : stepF [] c = [] := rfl
theorem foldl_nil : ∀ cs : List Int, cs.foldl stepF [] = []
  | [] => rfl
  | c :: cs => by rw [List.foldl_cons, stepF_nil, foldl_nil cs]
theorem mem_nextS {s : Sta} {c : Int} {k : Nat} {o : Sta} : (k, o) ∈ nextS s c ↔ k < s.length ∧ (k = 0 ∨ s.getD k 0 < s.getD (k - 1) 0) ∧ ownC s.length k = c ∧ o = incS s k := by
  unfold nextS canR
  simp only [List.mem_map, List.mem_filter, List.mem_range, Bool.and_eq_true, decide_eq_true_eq, Prod.mk.injEq]
  constructor
  · rintro ⟨j, ⟨h1, h2, h3⟩, rfl, rfl⟩; exact ⟨h1, h2, h3, rfl⟩
  · rintro ⟨h1, h2, h3, rfl⟩; exact ⟨k, ⟨h1, h2, h3⟩, rfl, rfl⟩
/-- the first layer that is left is empty just if the last one is -/
theorem prun_head : ∀ (cs : List Int) (F : List Sta), ((prunS F cs).headD [] = [] ↔ cs.foldl stepF F = []) ∧ ∀ s ∈ (prunS F cs).headD [], s ∈ F
  | [], F => ⟨Iff.rfl, fun s h => h⟩
  | c :: cs, F => by
    obtain ⟨h1, h2⟩ := prun_head cs (stepF F c)
    rw [List.foldl_cons, ← h1]
    have e : (prunS F (c :: cs)).headD [] = keepS ((prunS (stepF F c) cs).headD []) c F := rfl
    rw [e]
    generalize (prunS (stepF F c) cs).headD [] = G at h2
    refine ⟨?_, fun s hs => (List.mem_filter.mp hs).1⟩
    constructor
    · intro h
      refine List.eq_nil_iff_forall_not_mem.mpr fun o ho => ?_
      obtain ⟨s, hs, k, hk⟩ := mem_stepF.mp (h2 o ho)
      have : s ∈ keepS G c F := List.mem_filter.mpr ⟨hs, List.any_eq_true.mpr ⟨_, hk, decide_eq_true ho⟩⟩
      rw [h] at this; simp at this
    · rintro rfl
      exact List.filter_eq_nil_iff.mpr fun s _ => by simp
/-! ### what the states tell -/
def cntC (c : Int) (cs : List Int) : Int := ((cs.filter fun x => decide (x = c)).length : Nat)
theorem cntC_snoc (c x : Int) (cs : List Int) : cntC c (cs ++ [x]) = cntC c cs + if x = c then 1 else 0 := by
  unfold cntC
  rw [List.filter_append, List.length_append]
  by_cases h : x = c
  · rw [if_pos h, List.filter_cons_of_pos (by simpa using h)]; simp
  · rw [if_neg h, List.filter_cons_of_neg (by simpa using h)]; simp
theorem cntC_nonneg (c : Int) (cs : List Int) : 0 ≤ cntC c cs := Int.natCast_nonneg _
structure GoodS (R : Nat) (cs : List Int) (s : Sta) : Prop where
  len : s.length = R
  srt : ∀ k, k + 1 < R → s.getD (k + 1) 0 ≤ s.getD k 0
  sum : s.sum = cs.length
  fst : 2 ≤ R → s.getD 0 0 = cntC 1 cs
  lst : 2 ≤ R → s.getD (R - 1) 0 = cntC (-1) cs
  one : R = 1 → cntC 1 cs = 0 ∧ cntC (-1) cs = 0
theorem getD_inc {s : Sta} {k j : Nat} (h : k < s.length) : (incS s k).getD j 0 = s.getD j 0 + if j = k then 1 else 0 := by
  unfold incS
  rw [List.getD_eq_getElem?_getD, List.getD_eq_getElem?_getD, List.getD_eq_getElem?_getD]
  by_cases e : j = k
  · subst e; rw [List.getElem?_set_self h, if_pos rfl]; rfl
  · rw [List.getElem?_set_ne (Ne.symm e), if_neg e]; omega
theorem sum_inc : ∀ {s : Sta} {k : Nat}, k < s.length → (incS s k).sum = s.sum + 1
  | a :: s, 0, _ => by simp [incS]; omega
  | a :: s, k + 1, h => by
    have := sum_inc (s := s) (k := k) (by simpa using h)
    unfold incS at this ⊢
    simp only [List.set_cons_succ, List.getD_cons_succ, List.sum_cons] at this ⊢
    omega
theorem len_inc {s : Sta} {k : Nat} : (incS s k).length = s.length := by simp [incS]
theorem good_zero {R : Nat} (hR : 1 ≤ R) : GoodS R [] (zeroS R) := by
  have g : ∀ k, (zeroS R).getD k 0 = 0 := fun k => by
    unfold zeroS
    rw [List.getD_eq_getElem?_getD, List.getElem?_replicate]
    split <;> rfl
  refine ⟨by simp [zeroS], fun k _ => by rw [g, g]; omega, by simp [zeroS], fun _ => by rw [g]; rfl, fun _ => by rw [g]; rfl, fun _ => ⟨rfl, rfl⟩⟩
theorem good_next {R : Nat} {cs : List Int} {s o : Sta} {c : Int} {k : Nat} (hR : 1 ≤ R) (g : GoodS R cs s) (h : (k, o) ∈ nextS s c) : GoodS R (cs ++ [c]) o := by
  obtain ⟨h1, h2, h3, rfl⟩ := mem_nextS.mp h
  rw [g.len] at h3 h1
  have hk : k < s.length := by rw [g.len]; exact h1
  have oc : (R = 1 → c = 0) ∧ (2 ≤ R → (c = 1 ↔ k = 0) ∧ (c = -1 ↔ k = R - 1)) := by
    unfold ownC at h3
    refine ⟨fun e => by rw [if_pos e] at h3; exact h3.symm, fun e => ?_⟩
    rw [if_neg (by omega)] at h3
    constructor
    · constructor
      · intro e; rw [e] at h3; by_cases z : k = 0
        · exact z
        · rw [if_neg z] at h3; split at h3 <;> omega
      · intro z; rw [if_pos z, if_neg (by omega)] at h3; omega
    · constructor
      · intro e; rw [e] at h3; by_cases z : k + 1 = R
        · omega
        · rw [if_neg z] at h3; split at h3 <;> omega
      · intro z; rw [if_pos (show k + 1 = R by omega), if_neg (by omega)] at h3; omega
  refine ⟨by rw [len_inc]; exact g.len, fun j hj => ?_, ?_, fun e => ?_, fun e => ?_, fun e => ?_⟩
  · rw [getD_inc hk, getD_inc hk]
    have := g.srt j hj
    by_cases z : j + 1 = k
    · rw [if_pos z, if_neg (by omega)]
      rcases h2 with h2 | h2
      · omega
      · subst z
        rw [show j + 1 - 1 = j from rfl] at h2
        omega
    · rw [if_neg z]; split <;> omega
  · rw [sum_inc hk, g.sum]; simp
  · rw [getD_inc hk, cntC_snoc, g.fst e]
    have := (oc.2 e).1
    by_cases z : k = 0
    · rw [if_pos z.symm, if_pos (this.mpr z)]
    · rw [if_neg (Ne.symm z), if_neg (fun y => z (this.mp y))]
  · rw [getD_inc hk, cntC_snoc, g.lst e]
    have := (oc.2 e).2
    by_cases z : k = R - 1
    · rw [if_pos z.symm, if_pos (this.mpr z)]
    · rw [if_neg (Ne.symm z), if_neg (fun y => z (this.mp y))]
  · have := g.one e
    have c0 := oc.1 e
    rw [cntC_snoc, cntC_snoc, if_neg (by omega), if_neg (by omega)]
    omega
theorem layS_snoc (R : Nat) (cs : List Int) (c : Int) : layS R (cs ++ [c]) = stepF (layS R cs) c := by simp [layS, List.foldl_append]
theorem good_lay {R : Nat} (hR : 1 ≤ R) (cs : List Int) : ∀ s ∈ layS R cs, GoodS R cs s := by
  have go : ∀ (n : Nat) (cs : List Int), cs.length = n → ∀ s ∈ layS R cs, GoodS R cs s := by
    intro n
    induction n with
    | zero =>
      intro cs h s hs
      cases List.eq_nil_of_length_eq_zero h
      have : s = zeroS R := by simpa [layS] using hs
      rw [this]; exact good_zero hR
    | succ n ih =>
      intro cs h s hs
      obtain ⟨pre, c, rfl⟩ : ∃ pre c, cs = pre ++ [c] := ⟨cs.dropLast, cs.getLast (by intro z; rw [z] at h; cases h), (List.dropLast_concat_getLast _).symm⟩
      rw [layS_snoc] at hs
      obtain ⟨s0, h0, k, hk⟩ := mem_stepF.mp hs
      exact good_next hR (ih pre (by simpa using h) s0 h0) hk
  exact go _ cs rfl
/-! ### the inequalities -/
def okZ (R : Nat) (u z d : Int) : Prop := if R = 1 then u = 0 ∧ d = 0 else if R = 2 then z = 0 ∧ d ≤ u else z ≤ ((R : Int) - 2) * u ∧ ((R : Int) - 2) * d ≤ z
def okC (R : Nat) (cs : List Int) : Prop := okZ R (cntC 1 cs) (cntC 0 cs) (cntC (-1) cs)
theorem cnt_sum {cs : List Int} (h : ∀ c ∈ cs, -1 ≤ c ∧ c ≤ 1) : cntC 1 cs + cntC 0 cs + cntC (-1) cs = cs.length := by
  induction cs with
  | nil => rfl
  | cons c cs ih =>
    have := ih fun x hx => h x (by simp [hx])
    have hc := h c (by simp)
    have e : ∀ x : Int, cntC x (c :: cs) = (if c = x then 1 else 0) + cntC x cs := fun x => by
      unfold cntC
      by_cases z : c = x
      · rw [List.filter_cons_of_pos (by simpa using z), if_pos z]; simp; omega
      · rw [List.filter_cons_of_neg (by simpa using z), if_neg z]; omega
    rw [e, e, e, List.length_cons]
    rcases (by omega : c = 1 ∨ c = 0 ∨ c = -1) with rfl | rfl | rfl <;> simp <;> omega
theorem sum_between {a b : Int} : ∀ {l : List Int}, (∀ x ∈ l, a ≤ x ∧ x ≤ b) → (l.length : Int) * a ≤ l.sum ∧ l.sum ≤ (l.length : Int) * b
  | [], _ => by simp
  | x :: l, h => by
    have := sum_between (l := l) fun y hy => h y (by simp [hy])
    have hx := h x (by simp)
    rw [List.sum_cons, List.length_cons]
    have e : ∀ c : Int, ((l.length + 1 : Nat) : Int) * c = (l.length : Int) * c + c := fun c => by rw [Int.natCast_add, Int.add_mul]; simp
    rw [e, e]; omega
theorem srt_le {R : Nat} {s : Sta} (h : ∀ k, k + 1 < R → s.getD (k + 1) 0 ≤ s.getD k 0) : ∀ (n i : Nat), i + n < R → s.getD (i + n) 0 ≤ s.getD i 0
  | 0, _, _ => Int.le_refl _
  | n + 1, i, hi => Int.le_trans (h (i + n) (by omega)) (srt_le h n i (by omega))
theorem split3 {s : Sta} {R : Nat} (h : s.length = R) (hR : 2 ≤ R) : ∃ a m b, s = a :: (m ++ [b]) ∧ m.length = R - 2 := by
  cases s with
  | nil => simp at h; omega
  | cons a s =>
    have ne : s ≠ [] := fun z => by subst z; simp at h; omega
    exact ⟨a, s.dropLast, s.getLast ne, by rw [List.dropLast_concat_getLast], by rw [List.length_dropLast]; simp at h; omega⟩
theorem good_ok {R : Nat} {cs : List Int} {s : Sta} (hR : 1 ≤ R) (hc : ∀ c ∈ cs, -1 ≤ c ∧ c ≤ 1) (g : GoodS R cs s) : okC R cs := by
  unfold okC okZ
  by_cases r1 : R = 1
  · rw [if_pos r1]; exact g.one r1
  · rw [if_neg r1]
    have h2 : 2 ≤ R := by omega
    obtain ⟨a, m, b, rfl, hm⟩ := split3 g.len h2
    have ea : a = cntC 1 cs := g.fst h2
    have gb : ∀ i, (a :: (m ++ [b])).getD (i + 1) 0 = (m ++ [b]).getD i 0 := fun i => rfl
    have eb : b = cntC (-1) cs := by
      have := g.lst h2
      rw [show R - 1 = m.length + 1 by omega, gb, List.getD_eq_getElem?_getD, List.getElem?_append_right (Nat.le_refl _)] at this
      simpa using this
    have es := g.sum
    have ct := cnt_sum hc
    rw [List.sum_cons, List.sum_append] at es
    simp at es
    have bd : ∀ x ∈ m, b ≤ x ∧ x ≤ a := fun x hx => by
      obtain ⟨i, hi, e⟩ := List.getElem_of_mem hx
      have gi : (a :: (m ++ [b])).getD (i + 1) 0 = x := by rw [gb, List.getD_eq_getElem?_getD, List.getElem?_append_left hi, List.getElem?_eq_getElem hi, e]; rfl
      have h1 := srt_le g.srt (i + 1) 0 (by omega)
      have h3 := srt_le g.srt (R - 1 - (i + 1)) (i + 1) (by omega)
      rw [show 0 + (i + 1) = i + 1 by omega, gi] at h1
      rw [show i + 1 + (R - 1 - (i + 1)) = R - 1 by omega, gi, g.lst h2, ← eb] at h3
      exact ⟨h3, h1⟩
    have sb := sum_between bd
    rw [hm] at sb
    have ez : m.sum = cntC 0 cs := by omega
    rw [ez, ea, eb] at sb
    by_cases r2 : R = 2
    · rw [if_pos r2]
      subst r2
      have := srt_le g.srt 1 0 (by omega)
      have l := g.lst h2
      have f := g.fst h2
      have hm0 : m = [] := List.eq_nil_of_length_eq_zero (by omega)
      have : b ≤ a := by
        rw [hm0] at this; exact this
      simp at sb
      omega
    · rw [if_neg r2]
      have er : ((R - 2 : Nat) : Int) = (R : Int) - 2 := by omega
      rw [er] at sb
      exact ⟨sb.2, sb.1⟩
/-- the even state -/
def evM (m z : Nat) : List Int := (List.range m).map fun i => ((z / m + if i < z % m then 1 else 0 : Nat) : Int)
theorem evM_get {m z i : Nat} (h : i < m) : (evM m z).getD i 0 = ((z / m + if i < z % m then 1 else 0 : Nat) : Int) := by
  unfold evM
  rw [List.getD_eq_getElem?_getD, List.getElem?_map, List.getElem?_range h]; rfl
theorem evM_len {m z : Nat} : (evM m z).length = m := by simp [evM]
theorem evM_step {m z : Nat} (hm : 0 < m) : evM m (z + 1) = incS (evM m z) (z % m) := by
  have lt : z % m < m := Nat.mod_lt _ hm
  refine List.ext_getElem? fun i => ?_
  by_cases hi : i < m
  · have e1 : (evM m (z + 1))[i]? = some ((evM m (z + 1)).getD i 0) := by rw [List.getD_eq_getElem?_getD, List.getElem?_eq_getElem (by rw [evM_len]; exact hi)]; rfl
    have e2 : (incS (evM m z) (z % m))[i]? = some ((incS (evM m z) (z % m)).getD i 0) := by rw [List.getD_eq_getElem?_getD, List.getElem?_eq_getElem (by rw [len_inc, evM_len]; exact hi)]; rfl
    rw [e1, e2, evM_get hi, getD_inc (by rw [evM_len]; exact lt), evM_get hi]
    congr 1
    have dz := Nat.div_add_mod z m
    by_cases q : z % m + 1 = m
    · have h1 : (z + 1) / m = z / m + 1 := by
        rw [show z + 1 = m * (z / m + 1) by rw [Nat.mul_add]; omega]; exact Nat.mul_div_cancel_left _ hm
      have h2 : (z + 1) % m = 0 := by
        rw [show z + 1 = m * (z / m + 1) by rw [Nat.mul_add]; omega]; exact Nat.mul_mod_right _ _
      rw [h1, h2, if_neg (by omega)]
      by_cases j : i = z % m
      · rw [if_pos j, if_neg (by omega)]; omega
      · rw [if_neg j, if_pos (by omega)]; omega
    · have h1 : (z + 1) / m = z / m := by
        rw [show z + 1 = (z % m + 1) + m * (z / m) by omega, Nat.add_mul_div_left _ _ hm, Nat.div_eq_of_lt (by omega)]; omega
      have h2 : (z + 1) % m = z % m + 1 := by
        rw [show z + 1 = (z % m + 1) + m * (z / m) by omega, Nat.add_mul_mod_self_left, Nat.mod_eq_of_lt (by omega)]
      rw [h1, h2]
      by_cases j : i = z % m
      · rw [if_pos j, if_pos (by omega), if_neg (by omega)]; omega
      · rw [if_neg j]
        by_cases y : i < z % m
        · rw [if_pos y, if_pos (by omega)]; omega
        · rw [if_neg y, if_neg (by omega)]; omega
  · rw [List.getElem?_eq_none (by rw [evM_len]; omega), List.getElem?_eq_none (by rw [len_inc, evM_len]; omega)]
def evS (R : Nat) (cs : List Int) : Sta := if R = 1 then [cntC 0 cs] else if R = 2 then [cntC 1 cs, cntC (-1) cs] else cntC 1 cs :: (evM (R - 2) (cntC 0 cs).toNat ++ [cntC (-1) cs])
theorem inc_cons (a : Int) (l : Sta) (k : Nat) : incS (a :: l) (k + 1) = a :: incS l k := rfl
theorem inc_app {l : Sta} {b : Int} {k : Nat} (h : k < l.length) : incS (l ++ [b]) k = incS l k ++ [b] := by
  unfold incS
  rw [List.set_append_left _ _ h, List.getD_eq_getElem?_getD, List.getD_eq_getElem?_getD, List.getElem?_append_left h]
theorem inc_end {l : Sta} {b : Int} : incS (l ++ [b]) l.length = l ++ [b + 1] := by
  unfold incS
  rw [List.set_append_right _ _ (Nat.le_refl _), List.getD_eq_getElem?_getD, List.getElem?_append_right (Nat.le_refl _)]
  simp
theorem ev_step {R : Nat} {cs : List Int} {c : Int} (hR : 1 ≤ R) (hc : -1 ≤ c ∧ c ≤ 1) (h1 : okC R (cs ++ [c])) : ∃ k, (k, evS R (cs ++ [c])) ∈ nextS (evS R cs) c := by
  have u0 := cntC_nonneg 1 cs
  have z0 := cntC_nonneg 0 cs
  have d0 := cntC_nonneg (-1) cs
  unfold okC okZ at h1
  rw [cntC_snoc, cntC_snoc, cntC_snoc] at h1
  unfold evS
  rw [cntC_snoc, cntC_snoc, cntC_snoc]
  by_cases r1 : R = 1
  · rw [if_pos r1] at h1
    have c0 : c = 0 := by
      rcases (by omega : c = 1 ∨ c = 0 ∨ c = -1) with rfl | rfl | rfl
      · simp at h1; omega
      · rfl
      · simp at h1; omega
    rw [if_pos r1, if_pos r1, c0]
    exact ⟨0, mem_nextS.mpr ⟨by simp, .inl rfl, rfl, rfl⟩⟩
  rw [if_neg r1] at h1
  rw [if_neg r1, if_neg r1]
  by_cases r2 : R = 2
  · rw [if_pos r2] at h1
    rw [if_pos r2, if_pos r2]
    rcases (by omega : c = 1 ∨ c = 0 ∨ c = -1) with rfl | rfl | rfl
    · exact ⟨0, mem_nextS.mpr ⟨by simp, .inl rfl, rfl, by simp [incS]⟩⟩
    · simp at h1; omega
    · simp at h1
      exact ⟨1, mem_nextS.mpr ⟨by simp, .inr (by show cntC (-1) cs < cntC 1 cs; omega), rfl, by simp [incS]⟩⟩
  rw [if_neg r2] at h1
  rw [if_neg r2, if_neg r2]
  have hm : 0 < R - 2 := by omega
  have er : (R : Int) - 2 = ((R - 2 : Nat) : Int) := by omega
  have hl : ∀ z, (cntC 1 cs :: (evM (R - 2) z ++ [cntC (-1) cs])).length = R := fun z => by simp [evM_len]; omega
  rcases (by omega : c = 1 ∨ c = 0 ∨ c = -1) with rfl | rfl | rfl
  · refine ⟨0, mem_nextS.mpr ⟨by simp, .inl rfl, ?_, by simp [incS]⟩⟩
    rw [hl]; unfold ownC; rw [if_neg r1, if_pos rfl, if_neg (by omega)]; rfl
  · simp at h1
    obtain ⟨z, hz⟩ : ∃ z : Nat, cntC 0 cs = (z : Int) := ⟨(cntC 0 cs).toNat, by omega⟩
    rw [hz] at h1 ⊢
    have lt : z % (R - 2) < R - 2 := Nat.mod_lt _ hm
    refine ⟨z % (R - 2) + 1, mem_nextS.mpr ⟨by rw [hl]; omega, .inr ?_, ?_, ?_⟩⟩
    · have g1 : (cntC 1 cs :: (evM (R - 2) (z : Int).toNat ++ [cntC (-1) cs])).getD (z % (R - 2) + 1) 0 = (evM (R - 2) z).getD (z % (R - 2)) 0 := by
        show (evM (R - 2) z ++ [cntC (-1) cs]).getD (z % (R - 2)) 0 = _
        rw [List.getD_eq_getElem?_getD, List.getD_eq_getElem?_getD, List.getElem?_append_left (by rw [evM_len]; exact lt)]
      rw [g1, evM_get lt, if_neg (by omega), show z % (R - 2) + 1 - 1 = z % (R - 2) from rfl]
      cases q : z % (R - 2) with
      | zero =>
        show _ < cntC 1 cs
        have h3 : ((z : Int) + 1) ≤ ((R - 2 : Nat) : Int) * cntC 1 cs := by rw [← er]; exact h1.1
        have dz := Nat.div_add_mod z (R - 2)
        rw [q] at dz
        have h4 : ((R - 2 : Nat) : Int) * ((z / (R - 2) : Nat) : Int) = (z : Int) := by rw [← Int.natCast_mul]; omega
        by_cases y : ((z / (R - 2) + 0 : Nat) : Int) < cntC 1 cs
        · exact y
        · have : ((R - 2 : Nat) : Int) * cntC 1 cs ≤ ((R - 2 : Nat) : Int) * ((z / (R - 2) : Nat) : Int) := Int.mul_le_mul_of_nonneg_left (by omega) (by omega)
          omega
      | succ j =>
        have g2 : (cntC 1 cs :: (evM (R - 2) (z : Int).toNat ++ [cntC (-1) cs])).getD (j + 1) 0 = (evM (R - 2) z).getD j 0 := by
          show (evM (R - 2) z ++ [cntC (-1) cs]).getD j 0 = _
          rw [List.getD_eq_getElem?_getD, List.getD_eq_getElem?_getD, List.getElem?_append_left (by rw [evM_len]; omega)]
        rw [g2, evM_get (by omega), if_pos (by omega)]
        omega
    · rw [hl]; unfold ownC; rw [if_neg r1, if_neg (by omega), if_neg (by omega)]; rfl
    · rw [inc_cons, inc_app (by rw [evM_len]; exact lt)]
      simp only [if_neg (show ¬ (0 : Int) = 1 by decide), if_neg (show ¬ (0 : Int) = -1 by decide), if_true, Int.add_zero]
      rw [show ((z : Int) + 1).toNat = z + 1 by omega, evM_step hm]
      rfl
  · simp at h1
    obtain ⟨z, hz⟩ : ∃ z : Nat, cntC 0 cs = (z : Int) := ⟨(cntC 0 cs).toNat, by omega⟩
    rw [hz] at h1 ⊢
    refine ⟨R - 1, mem_nextS.mpr ⟨by rw [hl]; omega, .inr ?_, ?_, ?_⟩⟩
    · have g1 : (cntC 1 cs :: (evM (R - 2) (z : Int).toNat ++ [cntC (-1) cs])).getD (R - 1) 0 = cntC (-1) cs := by
        rw [show R - 1 = (R - 2) + 1 by omega]
        show (evM (R - 2) z ++ [cntC (-1) cs]).getD (R - 2) 0 = _
        rw [List.getD_eq_getElem?_getD, List.getElem?_append_right (by rw [evM_len]; omega), evM_len]; simp
      have g2 : (cntC 1 cs :: (evM (R - 2) (z : Int).toNat ++ [cntC (-1) cs])).getD (R - 1 - 1) 0 = (evM (R - 2) z).getD (R - 3) 0 := by
        rw [show R - 1 - 1 = (R - 3) + 1 by omega]
        show (evM (R - 2) z ++ [cntC (-1) cs]).getD (R - 3) 0 = _
        rw [List.getD_eq_getElem?_getD, List.getD_eq_getElem?_getD, List.getElem?_append_left (by rw [evM_len]; omega)]
      have lt : z % (R - 2) < R - 2 := Nat.mod_lt _ hm
      rw [g1, g2, evM_get (by omega), if_neg (by omega)]
      have h3 : ((R - 2 : Nat) : Int) * (cntC (-1) cs + 1) ≤ (z : Int) := by rw [← er]; exact h1.2
      have dz := Nat.div_add_mod z (R - 2)
      by_cases y : cntC (-1) cs < ((z / (R - 2) + 0 : Nat) : Int)
      · exact y
      · have h5 : ((R - 2 : Nat) : Int) * (((z / (R - 2) : Nat) : Int) + 1) ≤ ((R - 2 : Nat) : Int) * (cntC (-1) cs + 1) := Int.mul_le_mul_of_nonneg_left (by omega) (by omega)
        have h6 : ((R - 2 : Nat) : Int) * (((z / (R - 2) : Nat) : Int) + 1) = (((R - 2) * (z / (R - 2)) + (R - 2) : Nat) : Int) := by
          rw [Int.mul_add, Int.natCast_add, Int.natCast_mul]; omega
        rw [h6] at h5
        omega
    · rw [hl]; unfold ownC; rw [if_neg r1, if_neg (by omega), if_pos (by omega)]; rfl
    · rw [show R - 1 = (R - 2) + 1 by omega, inc_cons]
      have e := inc_end (l := evM (R - 2) (z : Int).toNat) (b := cntC (-1) cs)
      rw [evM_len] at e
      rw [e]
      simp
theorem ev_mem {R : Nat} (hR : 1 ≤ R) : ∀ (n : Nat) (cs : List Int), cs.length = n → (∀ c ∈ cs, -1 ≤ c ∧ c ≤ 1) → (∀ j, j ≤ n → okC R (cs.take j)) → evS R cs ∈ layS R cs
  | 0, cs, hl, _, _ => by
    cases List.eq_nil_of_length_eq_zero hl
    have : evS R [] = zeroS R := by
      unfold evS zeroS
      by_cases r1 : R = 1
      · rw [if_pos r1, r1]; rfl
      · rw [if_neg r1]
        by_cases r2 : R = 2
        · rw [if_pos r2, r2]; rfl
        · rw [if_neg r2]
          have e : evM (R - 2) (cntC 0 []).toNat = List.replicate (R - 2) 0 := by
            refine List.ext_getElem (by simp [evM_len]) fun i h1 h2 => ?_
            simp [evM, cntC]
          rw [e, show R = (R - 2) + 1 + 1 by omega, List.replicate_succ]
          congr 1
          rw [show R - 2 + 1 + 1 - 2 = R - 2 by omega, List.replicate_succ']; rfl
    rw [this]; simp [layS]
  | n + 1, cs, hl, hc, hk => by
    obtain ⟨pre, c, rfl⟩ : ∃ pre c, cs = pre ++ [c] := ⟨cs.dropLast, cs.getLast (by intro z; rw [z] at hl; cases hl), (List.dropLast_concat_getLast _).symm⟩
    have hp : pre.length = n := by simpa using hl
    have ih := ev_mem hR n pre hp (fun x hx => hc x (by simp [hx])) fun j hj => by
      have := hk j (by omega)
      rw [List.take_append_of_le_length (by omega)] at this; exact this
    have last := hk (n + 1) (Nat.le_refl _)
    rw [List.take_of_length_le (by omega)] at last
    obtain ⟨k, hk⟩ := ev_step hR (hc c (by simp)) last
    rw [layS_snoc]
    exact mem_stepF.mpr ⟨_, ih, k, hk⟩
/-- THE LAW of the layers: they go on just as long as the inequalities hold -/
theorem lay_iff {R : Nat} (hR : 1 ≤ R) (cs : List Int) (hc : ∀ c ∈ cs, -1 ≤ c ∧ c ≤ 1) : layS R cs ≠ [] ↔ ∀ j, j ≤ cs.length → okC R (cs.take j) := by
  constructor
  · intro h j hj
    have e : layS R cs = (cs.drop j).foldl stepF (layS R (cs.take j)) := by
      unfold layS
      rw [← List.foldl_append, List.take_append_drop]
    have ne : layS R (cs.take j) ≠ [] := fun z => h (by rw [e, z, foldl_nil])
    obtain ⟨s, hs⟩ := List.exists_mem_of_ne_nil _ ne
    exact good_ok hR (fun c h => hc c (List.mem_of_mem_take h)) (good_lay hR _ s hs)
  · intro h z
    have := ev_mem hR _ cs rfl hc h
    rw [z] at this; simp at this
/-! ### how many states -/
theorem take_sum {l : List Int} {n : Nat} (h : n < l.length) : (l.take (n + 1)).sum = (l.take n).sum + l.getD n 0 := by
  rw [List.take_succ, List.getElem?_eq_getElem h, List.sum_append, List.getD_eq_getElem?_getD, List.getElem?_eq_getElem h]; simp
theorem pos_le {l : List Int} (h0 : ∀ k, 0 ≤ l.getD k 0) : ∀ n : Nat, n ≤ l.length → ((((List.range n).filter fun k => decide (1 ≤ l.getD k 0)).length : Nat) : Int) ≤ (l.take n).sum
  | 0, _ => by simp
  | n + 1, h => by
    have ih := pos_le h0 n (by omega)
    have h1 := h0 n
    rw [List.range_succ, List.filter_append, List.length_append, take_sum (by omega)]
    by_cases z : 1 ≤ l.getD n 0
    · rw [List.filter_cons_of_pos (by simpa using z), List.filter_nil, List.length_singleton, Int.natCast_add]; omega
    · rw [List.filter_cons_of_neg (by simpa using z), List.filter_nil, List.length_nil, Int.natCast_add]; omega
theorem can_le {s : Sta} (h0 : ∀ k, 0 ≤ s.getD k 0) : ∀ n : Nat, ((List.range n).filter fun k => canR s k).length ≤ 1 + ((List.range (n - 1)).filter fun k => decide (1 ≤ s.getD k 0)).length
  | 0 => by simp
  | 1 => by simp [canR]
  | n + 2 => by
    have ih := can_le h0 (n + 1)
    have h1 := h0 (n + 1)
    have h2 := h0 n
    have e1 : (List.range (n + 2)).filter (fun k => canR s k) = (List.range (n + 1)).filter (fun k => canR s k) ++ [n + 1].filter fun k => canR s k := by rw [List.range_succ, List.filter_append]
    have e2 : (List.range (n + 1)).filter (fun k => decide (1 ≤ s.getD k 0)) = (List.range n).filter (fun k => decide (1 ≤ s.getD k 0)) ++ [n].filter fun k => decide (1 ≤ s.getD k 0) := by rw [List.range_succ, List.filter_append]
    rw [e1, show n + 2 - 1 = n + 1 from rfl, e2, List.length_append, List.length_append]
    rw [show n + 1 - 1 = n from rfl] at ih
    by_cases z : canR s (n + 1) = true
    · have w : 1 ≤ s.getD n 0 := by
        unfold canR at z
        rcases of_decide_eq_true z with w | w
        · omega
        · rw [show n + 1 - 1 = n from rfl] at w; omega
      have f1 : [n + 1].filter (fun k => canR s k) = [n + 1] := List.filter_cons_of_pos z
      have f2 : [n].filter (fun k => decide (1 ≤ s.getD k 0)) = [n] := List.filter_cons_of_pos (decide_eq_true w)
      rw [f1, f2, List.length_singleton, List.length_singleton]
      omega
    · have f1 : [n + 1].filter (fun k => canR s k) = [] := List.filter_cons_of_neg z
      rw [f1, List.length_nil]
      omega
theorem good_nonneg {R : Nat} {cs : List Int} {s : Sta} (g : GoodS R cs s) (hR : 1 ≤ R) : ∀ k, 0 ≤ s.getD k 0 := by
  intro k
  by_cases hk : k < R
  · by_cases r1 : R = 1
    · have h1 := g.sum
      have h2 := g.len
      rw [r1] at h2 hk
      obtain ⟨a, rfl⟩ := List.length_eq_one_iff.mp h2
      have : k = 0 := by omega
      subst this
      simp at h1 ⊢
      omega
    · have h3 := srt_le g.srt (R - 1 - k) k (by omega)
      rw [show k + (R - 1 - k) = R - 1 by omega, g.lst (by omega)] at h3
      have := cntC_nonneg (-1) cs
      omega
  · rw [List.getD_eq_getElem?_getD, List.getElem?_eq_none (by rw [g.len]; omega)]; exact Int.le_refl _
theorem next_le {R : Nat} {cs : List Int} {s : Sta} (g : GoodS R cs s) (hR : 1 ≤ R) (c : Int) : (nextS s c).length ≤ cs.length + 1 := by
  have h0 := good_nonneg g hR
  have h1 := can_le h0 s.length
  have h2 := pos_le h0 (s.length - 1) (by omega)
  have h3 : (s.take (s.length - 1)).sum ≤ s.sum := by
    have hl := g.len
    have e := take_sum (l := s) (n := s.length - 1) (by omega)
    rw [show s.length - 1 + 1 = s.length by omega, List.take_length] at e
    have := h0 (s.length - 1)
    omega
  have h4 := g.sum
  unfold nextS
  rw [List.length_map]
  have h5 : ((List.range s.length).filter fun k => canR s k && decide (ownC s.length k = c)).length ≤ ((List.range s.length).filter fun k => canR s k).length := by
    have : ((List.range s.length).filter fun k => canR s k && decide (ownC s.length k = c)) = ((List.range s.length).filter fun k => canR s k).filter fun k => decide (ownC s.length k = c) := by
      rw [List.filter_filter]; congr 1; funext k; rw [Bool.and_comm]
    rw [this]; exact List.length_filter_le ..
  omega
theorem addNew_len : ∀ (xs l : List Sta), (xs.foldl addNew l).length ≤ l.length + xs.length
  | [], l => by simp
  | x :: xs, l => by
    rw [List.foldl_cons]
    have h := addNew_len xs (addNew l x)
    have : (addNew l x).length ≤ l.length + 1 := by unfold addNew; split <;> simp
    rw [List.length_cons]; omega
theorem flat_le {F : List Sta} {c : Int} {m : Nat} (h : ∀ s ∈ F, (nextS s c).length ≤ m) : (F.flatMap fun s => (nextS s c).map (·.2)).length ≤ F.length * m := by
  induction F with
  | nil => simp
  | cons s F ih =>
    rw [List.flatMap_cons, List.length_append, List.length_map, List.length_cons, Nat.add_mul]
    have := ih fun x hx => h x (by simp [hx])
    have := h s (by simp)
    omega
def factS : Nat → Nat
  | 0 => 1
  | n + 1 => factS n * (n + 1)
theorem lay_le {R : Nat} (hR : 1 ≤ R) : ∀ (n : Nat) (cs : List Int), cs.length = n → (layS R cs).length ≤ factS n
  | 0, cs, h => by cases List.eq_nil_of_length_eq_zero h; exact Nat.le_refl _
  | n + 1, cs, h => by
    obtain ⟨pre, c, rfl⟩ : ∃ pre c, cs = pre ++ [c] := ⟨cs.dropLast, cs.getLast (by intro z; rw [z] at h; cases h), (List.dropLast_concat_getLast _).symm⟩
    have hp : pre.length = n := by simpa using h
    rw [layS_snoc]
    unfold stepF
    have h1 := addNew_len ((layS R pre).flatMap fun s => (nextS s c).map (·.2)) []
    have h2 := flat_le (F := layS R pre) (c := c) (m := n + 1) fun s hs => by rw [← hp]; exact next_le (good_lay hR pre s hs) hR c
    have h3 := lay_le hR n pre hp
    have h4 : (layS R pre).length * (n + 1) ≤ factS n * (n + 1) := Nat.mul_le_mul_right _ h3
    rw [List.length_nil, Nat.zero_add] at h1
    show _ ≤ factS n * (n + 1)
    exact Nat.le_trans h1 (Nat.le_trans h2 h4)
theorem fact_mono : ∀ {a b : Nat}, a ≤ b → factS a ≤ factS b
  | a, b, h => by
    induction h with
    | refl => exact Nat.le_refl _
    | step h ih => exact Nat.le_trans ih (Nat.le_mul_of_pos_right _ (by omega))
/-! ### the lists of layers -/
def fwdS (R : Nat) (cs : List Int) : List (List Sta) := (List.range (cs.length + 1)).map fun i => layS R (cs.take i)
theorem fwd_len {R : Nat} {cs : List Int} : (fwdS R cs).length = cs.length + 1 := by simp [fwdS]
theorem fwd_get {R : Nat} {cs : List Int} {i : Nat} (h : i ≤ cs.length) : (fwdS R cs)[i]? = some (layS R (cs.take i)) := by
  unfold fwdS
  rw [List.getElem?_map, List.getElem?_range (by omega)]; rfl
theorem fwd_snoc (R : Nat) (cs : List Int) (c : Int) : fwdS R (cs ++ [c]) = fwdS R cs ++ [layS R (cs ++ [c])] := by
  unfold fwdS
  rw [List.length_append, List.length_singleton, List.range_succ, List.map_append]
  congr 1
  · refine List.map_congr_left fun i hi => ?_
    rw [List.mem_range] at hi
    rw [List.take_append_of_le_length (by omega)]
  · simp only [List.map_cons, List.map_nil]
    rw [List.take_of_length_le (by simp)]
theorem prun_ne (F : List Sta) (cs : List Int) : prunS F cs ≠ [] := by cases cs <;> simp [prunS]
def midS (R : Nat) (cs : List Int) (i : Nat) : List (List Sta) := (fwdS R cs).take i ++ prunS (layS R (cs.take i)) (cs.drop i)
theorem mid_top (R : Nat) (cs : List Int) : midS R cs cs.length = fwdS R cs := by
  unfold midS
  rw [List.drop_length, List.take_length]
  show (fwdS R cs).take cs.length ++ [layS R cs] = _
  have e := List.take_succ (l := fwdS R cs) (i := cs.length)
  rw [List.take_of_length_le (by rw [fwd_len]; exact Nat.le_refl _), fwd_get (Nat.le_refl _), List.take_length] at e
  exact e.symm
theorem mid_bot (R : Nat) (cs : List Int) : midS R cs 0 = prunS [zeroS R] cs := by
  unfold midS
  simp [layS]
theorem mid_step {R : Nat} {cs : List Int} {i : Nat} (h : i < cs.length) : ∃ G, (midS R cs (i + 1))[i]? = some (layS R (cs.take i)) ∧ (midS R cs (i + 1))[i + 1]? = some G ∧ (∀ o ∈ G, True) ∧
    (midS R cs (i + 1)).set i (keepS G (cs.getD i 0) (layS R (cs.take i))) = midS R cs i := by
  have tl : ((fwdS R cs).take (i + 1)).length = i + 1 := by rw [List.length_take, fwd_len]; omega
  have tl0 : ((fwdS R cs).take i).length = i := by rw [List.length_take, fwd_len]; omega
  have te : (fwdS R cs).take (i + 1) = (fwdS R cs).take i ++ [layS R (cs.take i)] := by rw [List.take_succ, fwd_get (by omega)]; rfl
  have eg : cs.getD i 0 = cs[i] := by rw [List.getD_eq_getElem?_getD, List.getElem?_eq_getElem h]; rfl
  have ed : cs.drop i = cs.getD i 0 :: cs.drop (i + 1) := by rw [eg]; exact List.drop_eq_getElem_cons h
  have et : cs.take (i + 1) = cs.take i ++ [cs.getD i 0] := by rw [eg, List.take_succ, List.getElem?_eq_getElem h]; rfl
  obtain ⟨G, P, hP⟩ : ∃ G P, prunS (layS R (cs.take (i + 1))) (cs.drop (i + 1)) = G :: P := by
    cases e : prunS (layS R (cs.take (i + 1))) (cs.drop (i + 1)) with
    | nil => exact absurd e (prun_ne _ _)
    | cons G P => exact ⟨G, P, rfl⟩
  have e0 : prunS (layS R (cs.take i)) (cs.drop i) = keepS G (cs.getD i 0) (layS R (cs.take i)) :: G :: P := by
    rw [ed]
    show keepS ((prunS (stepF (layS R (cs.take i)) (cs.getD i 0)) (cs.drop (i + 1))).headD []) (cs.getD i 0) (layS R (cs.take i)) :: prunS (stepF (layS R (cs.take i)) (cs.getD i 0)) (cs.drop (i + 1)) = _
    rw [← layS_snoc, ← et, hP]; rfl
  refine ⟨G, ?_, ?_, fun _ _ => trivial, ?_⟩
  · unfold midS
    rw [te, List.append_assoc, List.getElem?_append_right (by omega), tl0]; simp
  · unfold midS
    rw [List.getElem?_append_right (by omega), tl, hP]; simp
  · unfold midS
    rw [e0, hP, te, List.append_assoc, List.set_append_right _ _ (by omega), tl0]; simp
theorem prun_len : ∀ (cs : List Int) (F : List Sta), (prunS F cs).length = cs.length + 1
  | [], _ => rfl
  | c :: cs, F => by show (prunS (stepF F c) cs).length + 1 = _; rw [prun_len cs]; rfl
theorem mid_len {R : Nat} {cs : List Int} {i : Nat} (h : i ≤ cs.length) : (midS R cs i).length = cs.length + 1 := by
  unfold midS
  rw [List.length_append, List.length_take, fwd_len, prun_len, List.length_drop]; omega
end Lw
namespace Lw
open PySem L2 Ds
def wrD (R u z d x : Int) : Option (Str × Int) :=
  if R = 1 then (if x = 0 then none else some (("single" : Str), 1))
  else if R = 2 then (if x = 0 then some (("two" : Str), 1) else if x = -1 then some (("two" : Str), u - d + 1) else none)
  else if x = 0 then some (("few" : Str), (R - 2) * u - z + 1) else if x = -1 then some (("many" : Str), z / (R - 2) - d + 1) else none
def lessW (n : Int) : Option (Str × Int) → Prop
  | none => True
  | some p => n < p.2
theorem wr_ok {R u z d c n : Int} (R1 : 1 ≤ R) (hu : 0 ≤ u) (hz : 0 ≤ z) (hd : 0 ≤ d) (hc : -1 ≤ c ∧ c ≤ 1) (hn : 1 ≤ n) (h : okZ R.toNat u z d) :
    okZ R.toNat (u + if c = 1 then n else 0) (z + if c = 0 then n else 0) (d + if c = -1 then n else 0) ↔ lessW n (wrD R u z d c) := by
  unfold okZ at h ⊢
  unfold wrD
  by_cases r1 : R = 1
  · rw [if_pos (show R.toNat = 1 by omega)] at h ⊢
    rw [if_pos r1]
    rcases (by omega : c = 1 ∨ c = 0 ∨ c = -1) with rfl | rfl | rfl <;> simp [lessW] <;> omega
  · rw [if_neg (show ¬ R.toNat = 1 by omega)] at h ⊢
    rw [if_neg r1]
    by_cases r2 : R = 2
    · rw [if_pos (show R.toNat = 2 by omega)] at h ⊢
      rw [if_pos r2]
      rcases (by omega : c = 1 ∨ c = 0 ∨ c = -1) with rfl | rfl | rfl <;> simp [lessW] <;> omega
    · rw [if_neg (show ¬ R.toNat = 2 by omega)] at h ⊢
      rw [if_neg r2]
      have er : ((R.toNat : Nat) : Int) - 2 = R - 2 := by omega
      rw [er] at h ⊢
      have m0 : 0 < R - 2 := by omega
      generalize R - 2 = m at h m0
      rcases (by omega : c = 1 ∨ c = 0 ∨ c = -1) with rfl | rfl | rfl
      · have : 0 ≤ m * n := Int.mul_nonneg (by omega) (by omega)
        simp only [if_true, lessW]
        rw [if_neg (by decide), if_neg (by decide), Int.mul_add]
        simp [lessW]; omega
      · simp [lessW]; omega
      · simp only [if_true]
        rw [if_neg (by decide), if_neg (by decide), if_neg (by decide)]
        simp only [lessW, Int.add_zero]
        have e : d + n ≤ z / m ↔ (d + n) * m ≤ z := Int.le_ediv_iff_mul_le m0
        rw [Int.mul_comm (d + n) m] at e
        constructor
        · intro q; have := e.mpr q.2; omega
        · intro q; exact ⟨h.1, e.mp (by omega)⟩
/-- the inequalities at the ends of the runs -/
def okR (R : Nat) (rs : List (Int × Int)) : Prop := okZ R (sumC 1 rs) (sumC 0 rs) (sumC (-1) rs)
def okE (R : Nat) (rs : List (Int × Int)) : Prop := ∀ i, i ≤ rs.length → okR R (rs.take i)
theorem okR_nil {R : Nat} (hR : 1 ≤ R) : okR R [] := by
  show okZ R 0 0 0
  unfold okZ
  split
  · exact ⟨rfl, rfl⟩
  · split
    · exact ⟨rfl, Int.le_refl _⟩
    · simp
theorem okE_snoc {R : Nat} {pre : List (Int × Int)} {p : Int × Int} : okE R (pre ++ [p]) ↔ okE R pre ∧ okR R (pre ++ [p]) := by
  constructor
  · intro h
    refine ⟨fun i hi => ?_, ?_⟩
    · have := h i (by simp; omega)
      rwa [List.take_append_of_le_length hi] at this
    · have := h (pre.length + 1) (by simp)
      rwa [List.take_of_length_le (by simp)] at this
  · rintro ⟨h1, h2⟩ i hi
    by_cases z : i ≤ pre.length
    · rw [List.take_append_of_le_length z]; exact h1 i z
    · rw [List.take_of_length_le (by simp at hi ⊢; omega)]; exact h2
theorem okE_last {R : Nat} {rs : List (Int × Int)} (h : okE R rs) : okR R rs := by
  have := h rs.length (Nat.le_refl _)
  rwa [List.take_length] at this
theorem sum_snoc (c : Int) (pre : List (Int × Int)) (p : Int × Int) : sumC c (pre ++ [p]) = sumC c pre + if p.1 = c then p.2 else 0 := by rw [sumC_append, sumC_one]
/-- a run more -/
theorem okR_step {R : Int} {pre : List (Int × Int)} {p : Int × Int} (R1 : 1 ≤ R) (hp : ∀ q ∈ pre, 1 ≤ q.2) (hc : -1 ≤ p.1 ∧ p.1 ≤ 1) (hn : 1 ≤ p.2) (h : okR R.toNat pre) :
    okR R.toNat (pre ++ [p]) ↔ lessW p.2 (wrD R (sumC 1 pre) (sumC 0 pre) (sumC (-1) pre) p.1) := by
  unfold okR
  rw [sum_snoc, sum_snoc, sum_snoc]
  exact wr_ok R1 (sumC_bd 1 hp).1 (sumC_bd 0 hp).1 (sumC_bd (-1) hp).1 hc hn h
theorem cnt_expand (c : Int) : ∀ (rs : List (Int × Int)), (∀ q ∈ rs, 1 ≤ q.2) → cntC c (expandR rs) = sumC c rs := by
  intro rs
  have app : ∀ a b : List Int, cntC c (a ++ b) = cntC c a + cntC c b := fun a b => by unfold cntC; rw [List.filter_append, List.length_append]; omega
  have rep : ∀ (n : Nat) (x : Int), cntC c (List.replicate n x) = if x = c then (n : Int) else 0 := fun n x => by
    unfold cntC
    rw [List.filter_replicate]
    by_cases h : x = c
    · rw [if_pos (by simpa using h), if_pos h]; simp
    · rw [if_neg (by simpa using h), if_neg h]; rfl
  induction rs with
  | nil => intro _; rfl
  | cons p rs ih =>
    intro h
    have h1 := h p (by simp)
    have e1 : expandR (p :: rs) = List.replicate p.2.toNat p.1 ++ expandR rs := rfl
    have e2 : sumC c (p :: rs) = sumC c [p] + sumC c rs := sumC_append c [p] rs
    rw [e1, app, rep, e2, sumC_one, ih fun q hq => h q (by simp [hq])]
    congr 1
    split <;> omega
/-- the ends of the runs tell it all -/
theorem ends_iff {R : Int} (R1 : 1 ≤ R) : ∀ (n : Nat) (rs : List (Int × Int)), rs.length = n → (∀ q ∈ rs, 1 ≤ q.2) → (∀ q ∈ rs, -1 ≤ q.1 ∧ q.1 ≤ 1) →
    ((∀ j, j ≤ (expandR rs).length → okC R.toNat ((expandR rs).take j)) ↔ okE R.toNat rs)
  | 0, rs, hl, _, _ => by
    cases List.eq_nil_of_length_eq_zero hl
    constructor
    · intro _ i hi
      have : i = 0 := by simpa using hi
      subst this
      exact okR_nil (by omega)
    · intro _ j hj
      have : j = 0 := by simpa [expandR] using hj
      subst this
      exact okR_nil (by omega)
  | n + 1, rs, hl, hp, hc => by
    obtain ⟨pre, p, rfl⟩ : ∃ pre p, rs = pre ++ [p] := ⟨rs.dropLast, rs.getLast (by intro z; rw [z] at hl; cases hl), (List.dropLast_concat_getLast _).symm⟩
    have hpp : ∀ q ∈ pre, 1 ≤ q.2 := fun q hq => hp q (by simp [hq])
    have ih := ends_iff R1 n pre (by simpa using hl) hpp fun q hq => hc q (by simp [hq])
    have p1 := hp p (by simp)
    have pc := hc p (by simp)
    have ee : expandR (pre ++ [p]) = expandR pre ++ List.replicate p.2.toNat p.1 := by
      have app : ∀ a b : List (Int × Int), expandR (a ++ b) = expandR a ++ expandR b := fun a b => by
        induction a with
        | nil => rfl
        | cons x a ih => show List.replicate x.2.toNat x.1 ++ expandR (a ++ b) = _; rw [ih, ← List.append_assoc]; rfl
      rw [app]
      show expandR pre ++ (List.replicate p.2.toNat p.1 ++ []) = _
      rw [List.append_nil]
    have part : ∀ i : Nat, i ≤ p.2.toNat → 1 ≤ i → (expandR pre ++ List.replicate p.2.toNat p.1).take ((expandR pre).length + i) = expandR (pre ++ [(p.1, (i : Int))]) := fun i hi h1 => by
      have app : ∀ a b : List (Int × Int), expandR (a ++ b) = expandR a ++ expandR b := fun a b => by
        induction a with
        | nil => rfl
        | cons x a ih => show List.replicate x.2.toNat x.1 ++ expandR (a ++ b) = _; rw [ih, ← List.append_assoc]; rfl
      rw [app, List.take_length_add_append, List.take_replicate]
      show _ = expandR pre ++ (List.replicate (i : Int).toNat p.1 ++ [])
      rw [List.append_nil, show min i p.2.toNat = (i : Int).toNat by omega]
    have cnt : ∀ i : Nat, 1 ≤ i → okC R.toNat (expandR (pre ++ [(p.1, (i : Int))])) = okR R.toNat (pre ++ [(p.1, (i : Int))]) := fun i h1 => by
      have hq : ∀ q ∈ pre ++ [(p.1, (i : Int))], 1 ≤ q.2 := fun q hq => by
        rcases List.mem_append.mp hq with h | h
        · exact hpp q h
        · simp at h; subst h; show (1 : Int) ≤ (i : Nat); omega
      unfold okC okR
      rw [cnt_expand 1 _ hq, cnt_expand 0 _ hq, cnt_expand (-1) _ hq]
    have hlen : (expandR pre ++ List.replicate p.2.toNat p.1).length = (expandR pre).length + p.2.toNat := by simp
    have epp : (p.1, ((p.2.toNat : Nat) : Int)) = p := by
      have : ((p.2.toNat : Nat) : Int) = p.2 := by omega
      rw [this]
    rw [okE_snoc, ← ih, ee]
    constructor
    · intro h
      refine ⟨fun j hj => ?_, ?_⟩
      · have := h j (by omega)
        rwa [List.take_append_of_le_length hj] at this
      · have := h ((expandR pre).length + p.2.toNat) (by omega)
        rw [part _ (Nat.le_refl _) (by omega), cnt _ (by omega), epp] at this
        exact this
    · rintro ⟨h1, h2⟩ j hj
      by_cases z : j ≤ (expandR pre).length
      · rw [List.take_append_of_le_length z]; exact h1 j z
      · obtain ⟨i, rfl⟩ : ∃ i, j = (expandR pre).length + i := ⟨j - (expandR pre).length, by omega⟩
        rw [part i (by omega) (by omega), cnt i (by omega)]
        have h0 := okE_last (ih.mp h1)
        have a := (okR_step (p := p) R1 hpp pc p1 h0).mp h2
        refine (okR_step (p := (p.1, (i : Int))) R1 hpp pc (by show (1 : Int) ≤ (i : Nat); omega) h0).mpr ?_
        show lessW (i : Int) _
        revert a
        cases wrD R (sumC 1 pre) (sumC 0 pre) (sumC (-1) pre) p.1 with
        | none => exact fun _ => trivial
        | some w => intro a; have a : p.2 < w.2 := a; show (i : Int) < w.2; omega
end Lw
namespace Lw
open PySem L2 Ds
def inR (x : Option (Int × Option Int)) (R : Int) : Prop := match x with
  | none => False
  | some (a, none) => a ≤ R
  | some (a, some b) => a ≤ R ∧ R ≤ b
def posD : Option (Int × Option Int) → D
  | none => .none
  | some (a, none) => .tuple [.int a, .none]
  | some (a, some b) => .tuple [.int a, .int b]
structure PosOk (rs : List (Int × Int)) (x : Option (Int × Option Int)) : Prop where
  iff : ∀ R : Int, 1 ≤ R → (okE R.toNat rs ↔ inR x R)
  lo : ∀ a g, x = some (a, g) → 1 ≤ a ∧ a ≤ totR rs + 4
  hi : ∀ a b, x = some (a, some b) → a ≤ b ∧ b ≤ totR rs + 3
def midE (rs : List (Int × Int)) (m : Int) (j : Nat) : Prop := sumC 0 (rs.take j) ≤ m * sumC 1 (rs.take j) ∧ m * sumC (-1) (rs.take j) ≤ sumC 0 (rs.take j)
structure MidOk (rs : List (Int × Int)) (js : List Nat) (l : Int) (g : Option Int) : Prop where
  iff : ∀ m : Int, 1 ≤ m → ((∀ j ∈ js, midE rs m j) ↔ l ≤ m ∧ ∀ b, g = some b → m ≤ b)
  l1 : 1 ≤ l
  l2 : l ≤ totR rs + 1
  g1 : ∀ b, g = some b → b ≤ totR rs
theorem ceil_le {z u m : Int} (hu : 0 < u) : (z + u - 1) / u ≤ m ↔ z ≤ m * u := by
  have e : (z + u - 1) / u < m + 1 ↔ z + u - 1 < (m + 1) * u := Int.ediv_lt_iff_lt_mul hu
  rw [Int.add_mul] at e
  omega
theorem floor_le {z d m : Int} (hd : 0 < d) : m ≤ z / d ↔ m * d ≤ z := Int.le_ediv_iff_mul_le hd
theorem take_bd {rs : List (Int × Int)} (c : Int) (hp : ∀ q ∈ rs, 1 ≤ q.2) (j : Nat) : 0 ≤ sumC c (rs.take j) ∧ sumC c (rs.take j) ≤ sumC c rs ∧ sumC c rs ≤ totR rs := by
  have h1 := sumC_bd c (rs := rs.take j) fun q hq => hp q (List.mem_of_mem_take hq)
  have h2 := sumC_bd c (rs := rs.drop j) fun q hq => hp q (List.mem_of_mem_drop hq)
  have h3 := sumC_bd c hp
  have e := sumC_append c (rs.take j) (rs.drop j)
  rw [List.take_append_drop] at e
  omega
theorem sum_all : ∀ {rs : List (Int × Int)}, (∀ q ∈ rs, -1 ≤ q.1 ∧ q.1 ≤ 1) → sumC 1 rs + sumC 0 rs + sumC (-1) rs = totR rs
  | [], _ => rfl
  | p :: rs, h => by
    have ih := sum_all (rs := rs) fun q hq => h q (by simp [hq])
    have hp := h p (by simp)
    rw [totR_cons]
    simp only [sumC]
    rcases (by omega : p.1 = 1 ∨ p.1 = 0 ∨ p.1 = -1) with e | e | e <;> rw [e] <;> simp <;> omega
theorem mid_nil (rs : List (Int × Int)) (h : 0 ≤ totR rs) : MidOk rs [] 1 none := ⟨fun m hm => by simp; exact hm, Int.le_refl _, by omega, by simp⟩
theorem mid_snoc {rs : List (Int × Int)} {js : List Nat} {l l' : Int} {g g' : Option Int} {j : Nat} (h : MidOk rs js l g)
    (e1 : ∀ m, 1 ≤ m → (l' ≤ m ↔ l ≤ m ∧ sumC 0 (rs.take j) ≤ m * sumC 1 (rs.take j)))
    (e2 : ∀ m, 1 ≤ m → ((∀ b, g' = some b → m ≤ b) ↔ (∀ b, g = some b → m ≤ b) ∧ m * sumC (-1) (rs.take j) ≤ sumC 0 (rs.take j)))
    (l1 : 1 ≤ l') (l2 : l' ≤ totR rs + 1) (g1 : ∀ b, g' = some b → b ≤ totR rs) : MidOk rs (js ++ [j]) l' g' := by
  refine ⟨fun m hm => ?_, l1, l2, g1⟩
  rw [e1 m hm, e2 m hm]
  have := h.iff m hm
  constructor
  · intro w
    have a := this.mp fun j hj => w j (by simp [hj])
    have b := w j (by simp)
    exact ⟨⟨a.1, b.1⟩, a.2, b.2⟩
  · rintro ⟨⟨a, b⟩, c, d⟩ i hi
    rcases List.mem_append.mp hi with hi | hi
    · exact this.mpr ⟨a, c⟩ i hi
    · have := List.mem_singleton.mp hi
      subst this
      exact ⟨b, d⟩
/-- one end more -/
def lNew (l u z : Int) : Int := if 0 < z then (if l < (z + u - 1) / u then (z + u - 1) / u else l) else l
def gNew (g : Option Int) (z d : Int) : Option Int := if 0 < d then some (match g with | none => z / d | some b => if z / d < b then z / d else b) else g
theorem mid_step2 {rs : List (Int × Int)} {js : List Nat} {l : Int} {g : Option Int} {j : Nat} (hp : ∀ q ∈ rs, 1 ≤ q.2) (h : MidOk rs js l g)
    (zu : 0 < sumC 0 (rs.take j) → 0 < sumC 1 (rs.take j)) : MidOk rs (js ++ [j]) (lNew l (sumC 1 (rs.take j)) (sumC 0 (rs.take j))) (gNew g (sumC 0 (rs.take j)) (sumC (-1) (rs.take j))) := by
  have bu := take_bd 1 hp j
  have bz := take_bd 0 hp j
  have bd := take_bd (-1) hp j
  have hl1 := h.l1
  have hl2 := h.l2
  have hg := h.g1
  refine mid_snoc h (fun m hm => ?_) (fun m hm => ?_) ?_ ?_ ?_ <;> generalize sumC 0 (rs.take j) = z at * <;> generalize sumC 1 (rs.take j) = u at * <;> generalize sumC (-1) (rs.take j) = d at * <;> (try unfold lNew) <;> (try unfold gNew)
  · by_cases z0 : 0 < z
    · have c := ceil_le (z := z) (m := m) (zu z0)
      rw [if_pos z0]
      split <;> omega
    · rw [if_neg z0]
      have : 0 ≤ m * u := Int.mul_nonneg (by omega) bu.1
      omega
  · by_cases d0 : 0 < d
    · have f := floor_le (z := z) (m := m) d0
      rw [if_pos d0]
      cases g with
      | none =>
        constructor
        · intro w; exact ⟨by simp, f.mp (w _ rfl)⟩
        · rintro ⟨_, w⟩ b hb
          cases hb
          exact f.mpr w
      | some b0 =>
        constructor
        · intro w
          have w := w _ rfl
          dsimp only at w
          refine ⟨fun b hb => ?_, f.mp ?_⟩
          · cases hb
            split at w <;> omega
          · split at w <;> omega
        · rintro ⟨w1, w2⟩ b hb
          cases hb
          have := w1 _ rfl
          have := f.mpr w2
          dsimp only
          split <;> omega
    · rw [if_neg d0]
      have : d = 0 := by omega
      subst this
      rw [Int.mul_zero]
      constructor
      · intro w; exact ⟨w, bz.1⟩
      · intro w; exact w.1
  · split
    · split <;> omega
    · omega
  · by_cases z0 : 0 < z
    · have c := (ceil_le (z := z) (m := z) (zu z0)).mpr (by
        have := Int.mul_le_mul_of_nonneg_left (show 1 ≤ u from zu z0) (show 0 ≤ z by omega)
        rw [Int.mul_one] at this; exact this)
      rw [if_pos z0]
      split <;> omega
    · rw [if_neg z0]; omega
  · intro b hb
    by_cases d0 : 0 < d
    · rw [if_pos d0] at hb
      have e := Option.some.inj hb
      have f := Int.ediv_le_self (a := z) d bz.1
      cases g with
      | none => dsimp only at e; omega
      | some b0 => dsimp only at e; have := hg b0 rfl; split at e <;> omega
    · rw [if_neg d0] at hb
      exact hg b hb
theorem ok_three {R : Int} {rs : List (Int × Int)} (h : 3 ≤ R) : okE R.toNat rs ↔ ∀ j ∈ List.range (rs.length + 1), midE rs (R - 2) j := by
  have e : ∀ j, okR R.toNat (rs.take j) ↔ midE rs (R - 2) j := fun j => by
    unfold okR okZ midE
    rw [if_neg (by omega), if_neg (by omega), show ((R.toNat : Nat) : Int) - 2 = R - 2 by omega]
  constructor
  · intro w j hj
    exact (e j).mp (w j (by have := List.mem_range.mp hj; omega))
  · intro w j hj
    exact (e j).mpr (w j (List.mem_range.mpr (by omega)))
theorem ok_one {rs : List (Int × Int)} (hp : ∀ q ∈ rs, 1 ≤ q.2) : okE 1 rs ↔ sumC 1 rs = 0 ∧ sumC (-1) rs = 0 := by
  constructor
  · intro w; exact okE_last w
  · intro w j hj
    have a := take_bd 1 hp j
    have b := take_bd (-1) hp j
    show sumC 1 (rs.take j) = 0 ∧ sumC (-1) (rs.take j) = 0
    omega
theorem ok_two {rs : List (Int × Int)} (hp : ∀ q ∈ rs, 1 ≤ q.2) : okE 2 rs ↔ sumC 0 rs = 0 ∧ ∀ j ∈ List.range (rs.length + 1), sumC (-1) (rs.take j) ≤ sumC 1 (rs.take j) := by
  constructor
  · intro w
    refine ⟨(okE_last w).1, fun j hj => (w j (by have := List.mem_range.mp hj; omega)).2⟩
  · intro w j hj
    have b := take_bd 0 hp j
    refine ⟨?_, w.2 j (List.mem_range.mpr (by omega))⟩
    have := w.1
    show sumC 0 (rs.take j) = 0
    omega
def midX (l : Int) (g : Option Int) : Option (Int × Option Int) := match g with | none => some (l + 2, none) | some b => if l ≤ b then some (l + 2, some (b + 2)) else none
section
variable {rs : List (Int × Int)} (hp : ∀ q ∈ rs, 1 ≤ q.2) (hc : ∀ q ∈ rs, -1 ≤ q.1 ∧ q.1 ≤ 1)
include hp hc
theorem cases3 {R : Int} (h : 1 ≤ R) {P : Prop} (h1 : R = 1 → P) (h2 : R = 2 → P) (h3 : 3 ≤ R → P) : P := by
  rcases (by omega : R = 1 ∨ R = 2 ∨ 3 ≤ R) with e | e | e
  · exact h1 e
  · exact h2 e
  · exact h3 e
theorem pos_empty (h : totR rs = 0) : PosOk rs (some (1, none)) := by
  have b1 := sumC_bd 1 hp
  have b0 := sumC_bd 0 hp
  have bd := sumC_bd (-1) hp
  refine ⟨fun R hR => ?_, fun a g e => by cases e; omega, fun a b e => by cases e⟩
  refine iff_of_true ?_ hR
  intro j hj
  have t1 := take_bd 1 hp j
  have t0 := take_bd 0 hp j
  have td := take_bd (-1) hp j
  have e1 : sumC 1 (rs.take j) = 0 := by omega
  have e0 : sumC 0 (rs.take j) = 0 := by omega
  have ed : sumC (-1) (rs.take j) = 0 := by omega
  unfold okR
  rw [e1, e0, ed]
  exact okR_nil (by omega)
theorem pos_zeros (h0 : totR rs ≠ 0) (h : totR rs = sumC 0 rs) : PosOk rs (some (1, some 1)) := by
  have b1 := sumC_bd 1 hp
  have b0 := sumC_bd 0 hp
  have bd := sumC_bd (-1) hp
  have s := sum_all hc
  refine ⟨fun R hR => ?_, fun a g e => by cases e; omega, fun a b e => by cases e; omega⟩
  show _ ↔ 1 ≤ R ∧ R ≤ 1
  refine cases3 hp hc hR (fun e => ?_) (fun e => ?_) fun e => ?_
  · subst e
    rw [show (1 : Int).toNat = 1 from rfl, ok_one hp]; omega
  · subst e
    rw [show (2 : Int).toNat = 2 from rfl, ok_two hp]; omega
  · rw [ok_three e]
    refine iff_of_false (fun w => ?_) (by omega)
    have := (w rs.length (by simp)).1
    rw [List.take_length, show sumC 1 rs = 0 by omega, Int.mul_zero] at this
    omega
theorem pos_up (h0 : totR rs ≠ 0) (hz : sumC 0 rs = 0) (hd : sumC (-1) rs = 0) : PosOk rs (some (2, none)) := by
  have b1 := sumC_bd 1 hp
  have s := sum_all hc
  refine ⟨fun R hR => ?_, fun a g e => by cases e; omega, fun a b e => by cases e⟩
  show _ ↔ 2 ≤ R
  have z : ∀ j, sumC 0 (rs.take j) = 0 ∧ sumC (-1) (rs.take j) = 0 ∧ 0 ≤ sumC 1 (rs.take j) := fun j => by
    have t1 := take_bd 1 hp j
    have t0 := take_bd 0 hp j
    have td := take_bd (-1) hp j
    omega
  refine cases3 hp hc hR (fun e => ?_) (fun e => ?_) fun e => ?_
  · subst e
    rw [show (1 : Int).toNat = 1 from rfl, ok_one hp]; omega
  · subst e
    rw [show (2 : Int).toNat = 2 from rfl, ok_two hp]
    exact iff_of_true ⟨hz, fun j _ => by have := z j; omega⟩ (by omega)
  · rw [ok_three e]
    refine iff_of_true (fun j _ => ?_) (by omega)
    have := z j
    unfold midE
    rw [this.1, this.2.1, Int.mul_zero]
    exact ⟨Int.mul_nonneg (by omega) this.2.2, Int.le_refl _⟩
theorem pos_two (hz : sumC 0 rs = 0) (hd : sumC (-1) rs ≠ 0) (b : Bool) (hb : b = true ↔ ∀ j ∈ List.range (rs.length + 1), sumC (-1) (rs.take j) ≤ sumC 1 (rs.take j)) : PosOk rs (if b then some (2, some 2) else none) := by
  have b1 := sumC_bd 1 hp
  have bd := sumC_bd (-1) hp
  have main : ∀ R : Int, 1 ≤ R → (okE R.toNat rs ↔ R = 2 ∧ b = true) := fun R hR => by
    refine cases3 hp hc hR (fun e => ?_) (fun e => ?_) fun e => ?_
    · subst e
      rw [show (1 : Int).toNat = 1 from rfl, ok_one hp]
      exact iff_of_false (fun w => hd w.2) (fun w => absurd w.1 (by decide))
    · subst e
      rw [show (2 : Int).toNat = 2 from rfl, ok_two hp, hb]; simp [hz]
    · rw [ok_three e]
      refine iff_of_false (fun w => ?_) (fun w => by have := w.1; omega)
      have := (w rs.length (by simp)).2
      rw [List.take_length, hz] at this
      have h2 : 1 * sumC (-1) rs ≤ (R - 2) * sumC (-1) rs := Int.mul_le_mul_of_nonneg_right (by omega) bd.1
      omega
  cases b with
  | true =>
    refine ⟨fun R hR => ?_, fun a g e => ?_, fun a b e => ?_⟩
    · rw [main R hR]; show R = 2 ∧ true = true ↔ 2 ≤ R ∧ R ≤ 2; exact ⟨fun w => by have := w.1; omega, fun w => ⟨by omega, rfl⟩⟩
    · simp at e; omega
    · simp at e; omega
  | false =>
    refine ⟨fun R hR => ?_, fun a g e => by simp at e, fun a b e => by simp at e⟩
    rw [main R hR]; show R = 2 ∧ false = true ↔ False; simp
theorem not_small (h : totR rs ≠ sumC 0 rs) (hz : sumC 0 rs ≠ 0) {R : Int} (hR : 1 ≤ R) (w : okE R.toNat rs) : 3 ≤ R := by
  have s := sum_all hc
  refine cases3 hp hc hR (fun e => ?_) (fun e => ?_) fun e => e
  · subst e
    rw [show (1 : Int).toNat = 1 from rfl, ok_one hp] at w; omega
  · subst e
    rw [show (2 : Int).toNat = 2 from rfl, ok_two hp] at w; exact absurd w.1 hz
theorem pos_never (h : totR rs ≠ sumC 0 rs) (hz : sumC 0 rs ≠ 0) (j : Nat) (hj : j ∈ List.range (rs.length + 1)) (h1 : 0 < sumC 0 (rs.take j)) (h2 : sumC 1 (rs.take j) = 0) : PosOk rs none := by
  refine ⟨fun R hR => iff_of_false (fun w => ?_) (fun z => z), fun a g e => (nomatch e), fun a b e => (nomatch e)⟩
  have h3 := not_small hp hc h hz hR w
  have := ((ok_three h3).mp w j hj).1
  rw [h2, Int.mul_zero] at this
  omega
theorem pos_mid (h : totR rs ≠ sumC 0 rs) (hz : sumC 0 rs ≠ 0) {l : Int} {g : Option Int} (m : MidOk rs (List.range (rs.length + 1)) l g) :
    PosOk rs (midX l g) := by
  unfold midX
  have l1 := m.l1
  have l2 := m.l2
  have g1 := m.g1
  have main : ∀ R : Int, 1 ≤ R → (okE R.toNat rs ↔ l + 2 ≤ R ∧ ∀ b, g = some b → R ≤ b + 2) := fun R hR => by
    constructor
    · intro w
      have h3 := not_small hp hc h hz hR w
      have := (m.iff (R - 2) (by omega)).mp ((ok_three h3).mp w)
      exact ⟨by omega, fun b hb => by have := this.2 b hb; omega⟩
    · intro w
      exact (ok_three (by omega)).mpr ((m.iff (R - 2) (by omega)).mpr ⟨by omega, fun b hb => by have := w.2 b hb; omega⟩)
  cases g with
  | none =>
    refine ⟨fun R hR => ?_, fun a g e => by simp at e; omega, fun a b e => by simp at e⟩
    rw [main R hR]; show _ ↔ l + 2 ≤ R; simp
  | some b =>
    have gb := g1 b rfl
    dsimp only
    by_cases q : l ≤ b
    · rw [if_pos q]
      refine ⟨fun R hR => ?_, fun a g e => by simp at e; omega, fun a b e => by simp at e; omega⟩
      rw [main R hR]; show _ ↔ l + 2 ≤ R ∧ R ≤ b + 2; simp
    · rw [if_neg q]
      refine ⟨fun R hR => ?_, fun a g e => by simp at e, fun a b e => by simp at e⟩
      rw [main R hR]
      refine iff_of_false (fun w => ?_) (fun z => z)
      have := w.2 b rfl
      omega
end
theorem pos_exists {rs : List (Int × Int)} (hp : ∀ q ∈ rs, 1 ≤ q.2) (hc : ∀ q ∈ rs, -1 ≤ q.1 ∧ q.1 ≤ 1) : ∃ x, PosOk rs x := by
  have t := sumC_bd 0 hp
  by_cases h0 : totR rs = 0
  · exact ⟨_, pos_empty hp hc h0⟩
  · by_cases h1 : totR rs = sumC 0 rs
    · exact ⟨_, pos_zeros hp hc h0 h1⟩
    · by_cases h2 : sumC 0 rs = 0
      · by_cases h3 : sumC (-1) rs = 0
        · exact ⟨_, pos_up hp hc h0 h2 h3⟩
        · by_cases q : ∀ j ∈ List.range (rs.length + 1), sumC (-1) (rs.take j) ≤ sumC 1 (rs.take j)
          · exact ⟨_, pos_two hp hc h2 h3 true (iff_of_true rfl q)⟩
          · exact ⟨_, pos_two hp hc h2 h3 false (iff_of_false (by decide) q)⟩
      · have go : ∀ (n : Nat), (∃ j ∈ List.range n, 0 < sumC 0 (rs.take j) ∧ sumC 1 (rs.take j) = 0) ∨ ∃ l g, MidOk rs (List.range n) l g := by
          intro n
          induction n with
          | zero => exact .inr ⟨_, _, mid_nil rs (by omega)⟩
          | succ n ih =>
            rcases ih with ⟨j, hj, w⟩ | ⟨l, g, m⟩
            · exact .inl ⟨j, by rw [List.range_succ]; simp [hj], w⟩
            · by_cases w : 0 < sumC 0 (rs.take n) ∧ sumC 1 (rs.take n) = 0
              · exact .inl ⟨n, by simp, w⟩
              · have b := take_bd 1 hp n
                rw [List.range_succ]
                exact .inr ⟨_, _, mid_step2 hp m fun z => by omega⟩
        rcases go (rs.length + 1) with ⟨j, hj, w⟩ | ⟨l, g, m⟩
        · exact ⟨_, pos_never hp hc h1 h2 j hj w.1 w.2⟩
        · exact ⟨_, pos_mid hp hc h1 h2 m⟩
/-! ### the list of them -/
theorem rng_cons {a b : Int} (h : a < b) : rngI a b = a :: rngI (a + 1) b := by
  unfold rngI
  obtain ⟨n, hn⟩ : ∃ n, (b - a).toNat = n + 1 := ⟨(b - a).toNat - 1, by omega⟩
  rw [hn, show (b - (a + 1)).toNat = n by omega, List.range_succ_eq_map, List.map_cons, List.map_map]
  congr 1
  · simp
  · refine List.map_congr_left fun i _ => ?_
    show a + ((i + 1 : Nat) : Int) = _
    omega
theorem rng_nil {a b : Int} (h : b ≤ a) : rngI a b = [] := by
  unfold rngI
  rw [show (b - a).toNat = 0 by omega]; rfl
theorem filter_rng {p : Int → Bool} {a b : Int} : ∀ (n : Nat) (lo hi : Int), (hi - lo).toNat = n → (∀ R, lo ≤ R → R < hi → (p R = true ↔ a ≤ R ∧ R < b)) → b ≤ hi → (rngI lo hi).filter p = rngI (if lo < a then a else lo) b
  | 0, lo, hi, hn, h, hb => by
    rw [rng_nil (by omega), rng_nil (by split <;> omega)]; rfl
  | n + 1, lo, hi, hn, h, hb => by
    have ih := filter_rng (p := p) n (lo + 1) hi (by omega) (fun R h1 h2 => h R (by omega) h2) hb
    have h0 := h lo (Int.le_refl _) (by omega)
    rw [rng_cons (show lo < hi by omega)]
    by_cases z : a ≤ lo
    · by_cases w : lo < b
      · rw [List.filter_cons_of_pos (h0.mpr ⟨z, w⟩), ih, if_neg (by omega), if_neg (by omega), rng_cons (show lo < b from w)]
      · rw [List.filter_cons_of_neg (fun e => w (h0.mp e).2), ih, if_neg (by omega), if_neg (by omega), rng_nil (by omega), rng_nil (by omega)]
    · rw [List.filter_cons_of_neg (fun e => z (h0.mp e).1), ih, if_pos (show lo < a by omega)]
      by_cases y : lo + 1 < a
      · rw [if_pos y]
      · rw [if_neg y, show lo + 1 = a by omega]
theorem filter_rng1 {p : Int → Bool} {a b hi : Int} (h : ∀ R, 1 ≤ R → R < hi → (p R = true ↔ a ≤ R ∧ R < b)) (hb : b ≤ hi) (ha : 1 ≤ a) : (rngI 1 hi).filter p = rngI a b := by
  rw [filter_rng _ 1 hi rfl h hb]
  by_cases z : 1 < a
  · rw [if_pos z]
  · rw [if_neg z, show a = 1 by omega]
def Lx (n : Int) : Option (Int × Option Int) → List Int
  | none => []
  | some (a, none) => rngI a (n + 5)
  | some (a, some b) => rngI a (b + 1)
theorem pos_list {rs : List (Int × Int)} {x : Option (Int × Option Int)} (h : PosOk rs x) {p : Int → Bool} (hp : ∀ R, 1 ≤ R → (p R = true ↔ okE R.toNat rs)) : (rngI 1 (totR rs + 5)).filter p = Lx (totR rs) x := by
  cases x with
  | none =>
    refine List.filter_eq_nil_iff.mpr fun R hR e => ?_
    have : 1 ≤ R := by
      unfold rngI at hR
      obtain ⟨i, _, rfl⟩ := List.mem_map.mp hR
      omega
    exact (h.iff R this).mp ((hp R this).mp e)
  | some y =>
    obtain ⟨a, g⟩ := y
    have lo := h.lo a g rfl
    cases g with
    | none =>
      refine filter_rng1 (fun R h1 h2 => ?_) (Int.le_refl _) lo.1
      rw [hp R h1, h.iff R h1]
      show a ≤ R ↔ _
      omega
    | some b =>
      have hi := h.hi a b rfl
      refine filter_rng1 (fun R h1 h2 => ?_) (by omega) lo.1
      rw [hp R h1, h.iff R h1]
      show a ≤ R ∧ R ≤ b ↔ _
      omega
def headL (l : List Int) : Int := l.headD 0
def lastL (l : List Int) : Int := l.getLastD 0
theorem rng_head {a b : Int} (h : a < b) : (rngI a b).headD 0 = a := by rw [rng_cons h]; rfl
theorem rng_snoc {a b : Int} (h : a ≤ b) : rngI a (b + 1) = rngI a b ++ [b] := by
  unfold rngI
  rw [show (b + 1 - a).toNat = (b - a).toNat + 1 by omega, List.range_succ, List.map_append, List.map_singleton]
  congr 2
  omega
theorem rng_last {a b : Int} (h : a ≤ b) : (rngI a (b + 1)).getLastD 0 = b := by rw [rng_snoc h]; simp
def dueX (n : Int) (l : List Int) : Option (Int × Option Int) := if l = [] then none else some (l.headD 0, if l.getLastD 0 = n + 4 then none else some (l.getLastD 0))
theorem due_pos {rs : List (Int × Int)} {x : Option (Int × Option Int)} (h : PosOk rs x) : dueX (totR rs) (Lx (totR rs) x) = x := by
  cases x with
  | none => rfl
  | some y =>
    obtain ⟨a, g⟩ := y
    have lo := h.lo a g rfl
    cases g with
    | none =>
      unfold dueX Lx
      dsimp only
      rw [if_neg (by rw [rng_cons (by omega)]; simp), rng_head (by omega), show totR rs + 5 = totR rs + 4 + 1 by omega, rng_last (by omega), if_pos rfl]
    | some b =>
      have hi := h.hi a b rfl
      unfold dueX Lx
      dsimp only
      rw [if_neg (by rw [rng_cons (by omega)]; simp), rng_head (by omega), rng_last (by omega), if_neg (by omega)]
theorem pos_uniq {rs : List (Int × Int)} {x y : Option (Int × Option Int)} (hp : ∀ R : Int, ∃ b : Bool, b = true ↔ okE R.toNat rs) (h : PosOk rs x) (h2 : PosOk rs y) : x = y := by
  have ch : ∃ p : Int → Bool, ∀ R, p R = true ↔ okE R.toNat rs := ⟨fun R => (hp R).choose, fun R => (hp R).choose_spec⟩
  obtain ⟨p, hp⟩ := ch
  rw [← due_pos h, ← due_pos h2, ← pos_list h (fun R _ => hp R), ← pos_list h2 (fun R _ => hp R)]
theorem pos_uni {rs : List (Int × Int)} {x y : Option (Int × Option Int)} (h : PosOk rs x) (h2 : PosOk rs y) : x = y :=
  pos_uniq (fun R => by
    by_cases z : okE R.toNat rs
    · exact ⟨true, iff_of_true rfl z⟩
    · exact ⟨false, iff_of_false (by decide) z⟩) h h2
/-- an interval, told by its ends -/
theorem due_shape {rs : List (Int × Int)} {x : Option (Int × Option Int)} (h : PosOk rs x) : (x = none ∧ Lx (totR rs) x = []) ∨ ∃ a e : Int, 1 ≤ a ∧ a ≤ e ∧ e ≤ totR rs + 4 ∧ Lx (totR rs) x = rngI a (e + 1) ∧ x = some (a, if e = totR rs + 4 then none else some e) := by
  cases x with
  | none => exact .inl ⟨rfl, rfl⟩
  | some y =>
    obtain ⟨a, g⟩ := y
    have lo := h.lo a g rfl
    cases g with
    | none => exact .inr ⟨a, totR rs + 4, lo.1, lo.2, Int.le_refl _, by unfold Lx; dsimp only; rw [show totR rs + 5 = totR rs + 4 + 1 by omega], by rw [if_pos rfl]⟩
    | some b =>
      have hi := h.hi a b rfl
      exact .inr ⟨a, b, lo.1, hi.1, by omega, rfl, by rw [if_neg (by omega)]⟩
/-- layers, runs, ends -/
theorem lay_runs_iff {R : Int} (R1 : 1 ≤ R) {cs : List Int} (hc : ∀ c ∈ cs, -1 ≤ c ∧ c ≤ 1) : layS R.toNat cs ≠ [] ↔ okE R.toNat (runsOf cs) := by
  have r := runsOf_runs hc
  have e := (runsOf_is cs).ex
  rw [lay_iff (by omega) cs hc]
  have := ends_iff R1 _ (runsOf cs) rfl (fun q hq => (r.cnt q hq).1) fun q hq => r.chg q hq
  rw [e] at this
  exact this
end Lw
namespace Lw
open PySem L2 Ds
theorem cut_mid {α : Type} (a : α) (m : List α) (b : α) : cut (a :: (m ++ [b])) (some 1) (some (-1)) = m := by
  have l : (a :: (m ++ [b])).length = m.length + 2 := by simp
  unfold cut
  rw [l]
  have e1 : HT.sIx (m.length + 2) 0 (some 1) = 1 := by simp only [HT.sIx]; rw [if_neg (by decide)]; omega
  have e2 : HT.sIx (m.length + 2) (m.length + 2) (some (-1)) = m.length + 1 := by simp only [HT.sIx]; rw [if_pos (by decide)]; omega
  rw [e1, e2]
  simp
theorem cut_one {α : Type} (a : α) : cut [a] (some 1) (some (-1)) = [] := by
  unfold cut
  have e1 : HT.sIx 1 0 (some 1) = 1 := by simp only [HT.sIx]; rw [if_neg (by decide)]; omega
  show ([a].drop (HT.sIx 1 0 (some 1))).take _ = []
  rw [e1]; simp
theorem maxI_mem {ns : List Int} (h : ns ≠ []) : maxI ns ∈ ns ∧ ∀ x ∈ ns, x ≤ maxI ns := by
  cases ns with
  | nil => exact absurd rfl h
  | cons a r =>
    obtain ⟨h1, h2, h3⟩ := maxI_ge r a
    refine ⟨?_, fun x hx => ?_⟩
    · show r.foldl max a ∈ _
      rcases h3 with h3 | h3
      · rw [h3]; simp
      · exact List.mem_cons_of_mem _ h3
    · rcases List.mem_cons.mp hx with rfl | hx
      · exact h1
      · exact h2 x hx
theorem minI_mem {ns : List Int} (h : ns ≠ []) : minI ns ∈ ns ∧ ∀ x ∈ ns, minI ns ≤ x := by
  cases ns with
  | nil => exact absurd rfl h
  | cons a r =>
    obtain ⟨h1, h2, h3⟩ := minI_le r a
    refine ⟨?_, fun x hx => ?_⟩
    · show r.foldl min a ∈ _
      rcases h3 with h3 | h3
      · rw [h3]; simp
      · exact List.mem_cons_of_mem _ h3
    · rcases List.mem_cons.mp hx with rfl | hx
      · exact h1
      · exact h2 x hx
/-- what the law calls even -/
def isEv (s : Sta) : Bool := decide ((s.length : Int) < 4) || decide (maxI (cut s (some 1) (some (-1))) - minI (cut s (some 1) (some (-1))) < 2)
theorem evM_rep {m z : Nat} (hm : 0 < m) : evM m z = List.replicate (z % m) ((z / m : Nat) + 1 : Int) ++ List.replicate (m - z % m) ((z / m : Nat) : Int) := by
  have lt : z % m < m := Nat.mod_lt _ hm
  refine List.ext_getElem? fun i => ?_
  by_cases hi : i < m
  · have e1 : (evM m z)[i]? = some ((evM m z).getD i 0) := by rw [List.getD_eq_getElem?_getD, List.getElem?_eq_getElem (by rw [evM_len]; exact hi)]; rfl
    rw [e1, evM_get hi]
    by_cases w : i < z % m
    · rw [if_pos w, List.getElem?_append_left (by simpa using w), List.getElem?_replicate, if_pos w]; simp
    · rw [if_neg w, List.getElem?_append_right (by simpa using w), List.length_replicate, List.getElem?_replicate, if_pos (by omega)]; simp
  · rw [List.getElem?_eq_none (by rw [evM_len]; omega), List.getElem?_eq_none (by simp; omega)]
theorem rep_sum (n : Nat) (x : Int) : (List.replicate n x).sum = n * x := by
  induction n with
  | zero => simp
  | succ n ih => rw [List.replicate_succ, List.sum_cons, ih, Int.natCast_add, Int.add_mul]; omega
theorem evM_sum {m z : Nat} (hm : 0 < m) : (evM m z).sum = (z : Int) := by
  have lt : z % m < m := Nat.mod_lt _ hm
  have dz := Nat.div_add_mod z m
  rw [evM_rep hm, List.sum_append, rep_sum, rep_sum]
  have e : ((m - z % m : Nat) : Int) = (m : Int) - (z % m : Nat) := by omega
  rw [e, Int.mul_add, Int.sub_mul]
  have e2 : (m : Int) * ((z / m : Nat) : Int) = ((m * (z / m) : Nat) : Int) := by rw [Int.natCast_mul]
  omega
theorem evM_vals {m z : Nat} {x : Int} (h : x ∈ evM m z) : ((z / m : Nat) : Int) ≤ x ∧ x ≤ ((z / m : Nat) : Int) + 1 := by
  unfold evM at h
  obtain ⟨i, _, rfl⟩ := List.mem_map.mp h
  split <;> omega
/-- two neighbouring values in descending order -/
theorem two_vals (lo : Int) : ∀ (m : List Int), m.Pairwise (· ≥ ·) → (∀ x ∈ m, lo ≤ x ∧ x ≤ lo + 1) → ∃ r, r ≤ m.length ∧ m = List.replicate r (lo + 1) ++ List.replicate (m.length - r) lo
  | [], _, _ => ⟨0, Nat.le_refl _, rfl⟩
  | x :: m, hs, hv => by
    obtain ⟨r, hr, e⟩ := two_vals lo m hs.of_cons fun y hy => hv y (by simp [hy])
    have hx := hv x (by simp)
    by_cases z : x = lo
    · refine ⟨0, Nat.zero_le _, ?_⟩
      have hm : m = List.replicate m.length lo := by
        refine List.eq_replicate_iff.mpr ⟨rfl, fun y hy => ?_⟩
        have h1 := hv y (by simp [hy])
        have h2 : x ≥ y := (List.pairwise_cons.mp hs).1 y hy
        omega
      show x :: m = List.replicate (m.length + 1) lo
      rw [List.replicate_succ, ← hm, z]
    · have z : x = lo + 1 := by omega
      refine ⟨r + 1, by simpa using hr, ?_⟩
      show x :: m = List.replicate (r + 1) (lo + 1) ++ List.replicate (m.length + 1 - (r + 1)) lo
      rw [List.replicate_succ, List.cons_append, show m.length + 1 - (r + 1) = m.length - r by omega, ← e, z]
theorem even_mid {m : List Int} {z : Nat} (hm : m ≠ []) (hs : m.Pairwise (· ≥ ·)) (h0 : ∀ x ∈ m, 0 ≤ x) (hd : maxI m - minI m < 2) (hz : m.sum = (z : Int)) : m = evM m.length z := by
  have mx := maxI_mem hm
  have mi := minI_mem hm
  have hl : 0 < m.length := List.length_pos_iff.mpr hm
  obtain ⟨r, hr, e⟩ := two_vals (minI m) m hs fun x hx => by have := mx.2 x hx; have := mi.2 x hx; omega
  have lo0 := h0 _ mi.1
  obtain ⟨lo, hlo⟩ : ∃ lo : Nat, minI m = (lo : Int) := ⟨(minI m).toNat, by omega⟩
  rw [hlo] at e
  have hr2 : r < m.length := by
    by_cases w : r < m.length
    · exact w
    · have : r = m.length := by omega
      have h2 := mi.1
      rw [hlo, e, this] at h2
      simp at h2
      have := h2.2
      omega
  have es := congrArg List.sum e
  rw [hz, List.sum_append, rep_sum, rep_sum] at es
  have e3 : ((m.length - r : Nat) : Int) = (m.length : Int) - (r : Nat) := by omega
  rw [e3, Int.mul_add, Int.sub_mul] at es
  have e2 : (m.length : Int) * (lo : Int) = ((m.length * lo : Nat) : Int) := by rw [Int.natCast_mul]
  have zz : z = r + m.length * lo := by omega
  have d1 : z / m.length = lo := by rw [zz, Nat.add_mul_div_left _ _ hl, Nat.div_eq_of_lt hr2]; omega
  have d2 : z % m.length = r := by rw [zz, Nat.add_mul_mod_self_left, Nat.mod_eq_of_lt hr2]
  rw [evM_rep hl, d1, d2]
  exact e
def evT (R : Nat) (u z d : Int) : Sta := if R = 1 then [z] else if R = 2 then [u, d] else u :: (evM (R - 2) z.toNat ++ [d])
theorem evS_T (R : Nat) (cs : List Int) : evS R cs = evT R (cntC 1 cs) (cntC 0 cs) (cntC (-1) cs) := rfl
theorem evT_len {R : Nat} (hR : 1 ≤ R) (u z d : Int) : (evT R u z d).length = R := by
  unfold evT
  by_cases r1 : R = 1
  · rw [if_pos r1]; exact r1.symm
  · rw [if_neg r1]
    by_cases r2 : R = 2
    · rw [if_pos r2]; exact r2.symm
    · rw [if_neg r2]; simp [evM_len]; omega
theorem srt_pair {s : Sta} (h : ∀ k, k + 1 < s.length → s.getD (k + 1) 0 ≤ s.getD k 0) : s.Pairwise (· ≥ ·) := by
  rw [List.pairwise_iff_getElem]
  intro i j hi hj hij
  have := srt_le h (j - i) i (by omega)
  rw [show i + (j - i) = j by omega, List.getD_eq_getElem?_getD, List.getD_eq_getElem?_getD, List.getElem?_eq_getElem hi, List.getElem?_eq_getElem hj] at this
  exact this
theorem isEv_T {R : Nat} (hR : 1 ≤ R) (u z d : Int) : isEv (evT R u z d) = true := by
  unfold isEv
  rw [evT_len hR]
  by_cases h : R < 4
  · rw [decide_eq_true (by omega)]; rfl
  · have e : evT R u z d = u :: (evM (R - 2) z.toNat ++ [d]) := by unfold evT; rw [if_neg (by omega), if_neg (by omega)]
    rw [e, cut_mid]
    have ne : evM (R - 2) z.toNat ≠ [] := fun w => by have := congrArg List.length w; rw [evM_len] at this; simp at this; omega
    have a := evM_vals (maxI_mem ne).1
    have b := evM_vals (minI_mem ne).1
    rw [Bool.or_eq_true]
    exact .inr (decide_eq_true (by omega))
theorem even_uniq {R : Nat} {cs : List Int} {s : Sta} (hR : 1 ≤ R) (hc : ∀ c ∈ cs, -1 ≤ c ∧ c ≤ 1) (g : GoodS R cs s) (he : isEv s = true) : s = evS R cs := by
  have ct := cnt_sum hc
  have es := g.sum
  rw [evS_T]
  unfold evT
  by_cases r1 : R = 1
  · rw [if_pos r1]
    have o := g.one r1
    have l := g.len
    rw [r1] at l
    obtain ⟨a, rfl⟩ := List.length_eq_one_iff.mp l
    simp at es
    rw [show a = cntC 0 cs by omega]
  · rw [if_neg r1]
    have h2 : 2 ≤ R := by omega
    have srt := srt_pair (s := s) (by rw [g.len]; exact g.srt)
    have nn := good_nonneg g hR
    obtain ⟨a, m, b, rfl, hm⟩ := split3 g.len h2
    have ea : a = cntC 1 cs := g.fst h2
    have eb : b = cntC (-1) cs := by
      have := g.lst h2
      rw [show R - 1 = m.length + 1 by omega, show (a :: (m ++ [b])).getD (m.length + 1) 0 = (m ++ [b]).getD m.length 0 from rfl, List.getD_eq_getElem?_getD, List.getElem?_append_right (Nat.le_refl _)] at this
      simpa using this
    rw [List.sum_cons, List.sum_append] at es
    simp at es
    by_cases r2 : R = 2
    · rw [if_pos r2]
      have : m = [] := List.eq_nil_of_length_eq_zero (by omega)
      subst this
      rw [ea, eb]; rfl
    · rw [if_neg r2]
      obtain ⟨z, hz⟩ : ∃ z : Nat, cntC 0 cs = (z : Int) := ⟨(cntC 0 cs).toNat, by have := cntC_nonneg 0 cs; omega⟩
      have ms : m.sum = (z : Int) := by omega
      have ne : m ≠ [] := fun w => by rw [w] at hm; simp at hm; omega
      have sm : m.Pairwise (· ≥ ·) := (List.pairwise_append.mp (List.pairwise_cons.mp srt).2).1
      have n0 : ∀ x ∈ m, 0 ≤ x := fun x hx => by
        obtain ⟨i, hi, e⟩ := List.getElem_of_mem hx
        have := nn (i + 1)
        rw [show (a :: (m ++ [b])).getD (i + 1) 0 = (m ++ [b]).getD i 0 from rfl, List.getD_eq_getElem?_getD, List.getElem?_append_left hi, List.getElem?_eq_getElem hi, e] at this
        exact this
      have hd : maxI m - minI m < 2 := by
        unfold isEv at he
        rw [cut_mid, Bool.or_eq_true] at he
        rcases he with he | he
        · have he := of_decide_eq_true he
          have l1 : m.length = 1 := by simp at he; omega
          obtain ⟨y, rfl⟩ := List.length_eq_one_iff.mp l1
          show y - y < 2
          omega
        · exact of_decide_eq_true he
      have := even_mid ne sm n0 hd ms
      rw [hm] at this
      rw [ea, eb, hz, show ((z : Nat) : Int).toNat = z by omega, ← this]
theorem addNew_nodup : ∀ (xs l : List Sta), l.Nodup → (xs.foldl addNew l).Nodup
  | [], l, h => h
  | x :: xs, l, h => by
    rw [List.foldl_cons]
    refine addNew_nodup xs _ ?_
    unfold addNew
    by_cases z : x ∈ l
    · rw [if_pos z]; exact h
    · rw [if_neg z]
      rw [List.nodup_append]
      exact ⟨h, by simp, fun a ha b hb => by have := List.mem_singleton.mp hb; subst this; intro e; subst e; exact z ha⟩
theorem lay_nodup (R : Nat) (cs : List Int) : (layS R cs).Nodup := by
  by_cases z : cs = []
  · subst z; simp [layS]
  · rw [← List.dropLast_concat_getLast z, layS_snoc]
    exact addNew_nodup _ _ (by simp)
/-- only one state of the last layer is even -/
theorem even_only {R : Nat} (hR : 1 ≤ R) {cs : List Int} (hc : ∀ c ∈ cs, -1 ≤ c ∧ c ≤ 1) (h : layS R cs ≠ []) : (layS R cs).filter isEv = [evS R cs] := by
  have mem := ev_mem hR _ cs rfl hc ((lay_iff hR cs hc).mp h)
  have uq : ∀ s ∈ (layS R cs).filter isEv, s = evS R cs := fun s hs => even_uniq hR hc (good_lay hR cs s (List.mem_filter.mp hs).1) (List.mem_filter.mp hs).2
  have m2 : evS R cs ∈ (layS R cs).filter isEv := List.mem_filter.mpr ⟨mem, by rw [evS_T]; exact isEv_T hR _ _ _⟩
  have nd : ((layS R cs).filter isEv).Nodup := (lay_nodup R cs).filter _
  generalize (layS R cs).filter isEv = l at uq m2 nd
  cases l with
  | nil => simp at m2
  | cons a l =>
    have ha := uq a (by simp)
    cases l with
    | nil => rw [ha]
    | cons b l =>
      have hb := uq b (by simp)
      rw [ha, hb] at nd
      simp at nd
/-- the even state is in descending order, and stays above 0 -/
theorem evT_pair {R : Nat} (hR : 1 ≤ R) {u z d : Int} (hz : 0 ≤ z) (h : okZ R u z d) : (evT R u z d).Pairwise (· ≥ ·) := by
  unfold evT
  unfold okZ at h
  by_cases r1 : R = 1
  · rw [if_pos r1]; simp
  · rw [if_neg r1] at h ⊢
    by_cases r2 : R = 2
    · rw [if_pos r2] at h ⊢
      simp; exact h.2
    · rw [if_neg r2] at h ⊢
      obtain ⟨k, hk⟩ : ∃ k, R = k + 2 := ⟨R - 2, by omega⟩
      obtain ⟨n, rfl⟩ : ∃ n : Nat, z = (n : Int) := ⟨z.toNat, by omega⟩
      have k0 : 0 < k := by omega
      rw [show ((R : Nat) : Int) - 2 = (k : Int) by omega] at h
      rw [show R - 2 = k by omega, show ((n : Nat) : Int).toNat = n by omega]
      have lt : n % k < k := Nat.mod_lt _ k0
      have dz := Nat.div_add_mod n k
      have up : ∀ x ∈ evM k n, x ≤ u := fun x hx => by
        unfold evM at hx
        obtain ⟨i, hi, rfl⟩ := List.mem_map.mp hx
        have a : ((n / k + 1 : Nat) : Int) ≤ u ∨ (n % k = 0 ∧ ((n / k : Nat) : Int) ≤ u) := by
          by_cases w : ((n / k + 1 : Nat) : Int) ≤ u
          · exact .inl w
          · right
            have b : (k : Int) * u ≤ (k : Int) * ((n / k : Nat) : Int) := Int.mul_le_mul_of_nonneg_left (by omega) (by omega)
            have c : (k : Int) * ((n / k : Nat) : Int) = ((k * (n / k) : Nat) : Int) := by rw [Int.natCast_mul]
            have r0 : n % k = 0 := by omega
            refine ⟨r0, ?_⟩
            by_cases y : ((n / k : Nat) : Int) ≤ u
            · exact y
            · have b2 : (k : Int) * (u + 1) ≤ (k : Int) * ((n / k : Nat) : Int) := Int.mul_le_mul_of_nonneg_left (by omega) (by omega)
              rw [Int.mul_add] at b2
              omega
        split <;> omega
      have lo : ∀ x ∈ evM k n, d ≤ x := fun x hx => by
        have v := (evM_vals hx).1
        by_cases w : d ≤ ((n / k : Nat) : Int)
        · omega
        · have b : (k : Int) * (((n / k : Nat) : Int) + 1) ≤ (k : Int) * d := Int.mul_le_mul_of_nonneg_left (by omega) (by omega)
          have c : (k : Int) * ((n / k : Nat) : Int) = ((k * (n / k) : Nat) : Int) := by rw [Int.natCast_mul]
          rw [Int.mul_add] at b
          omega
      have sm : (evM k n).Pairwise (· ≥ ·) := by
        rw [evM_rep k0, List.pairwise_append]
        refine ⟨List.pairwise_replicate.mpr (.inr (by simp)), List.pairwise_replicate.mpr (.inr (by simp)), fun a ha b hb => ?_⟩
        rw [(List.mem_replicate.mp ha).2, (List.mem_replicate.mp hb).2]
        show _ ≥ _
        omega
      refine List.pairwise_cons.mpr ⟨fun x hx => ?_, List.pairwise_append.mpr ⟨sm, by simp, fun a ha b hb => ?_⟩⟩
      · rcases List.mem_append.mp hx with hx | hx
        · exact up x hx
        · have := List.mem_singleton.mp hx
          subst this
          have ne : evM k n ≠ [] := fun w => by have := congrArg List.length w; rw [evM_len] at this; simp at this; omega
          obtain ⟨y, hy⟩ := List.exists_mem_of_ne_nil _ ne
          have := up y hy
          have := lo y hy
          show u ≥ _
          omega
      · rw [List.mem_singleton.mp hb]
        exact lo a ha
theorem sort_rev {l m : List Int} (h : l.Pairwise (· ≥ ·)) (hp : m.Perm l) (hs : m.Pairwise (· ≤ ·)) : m.reverse = l := by
  refine List.Perm.eq_of_pairwise (le := (· ≥ ·)) (fun a b _ _ h1 h2 => by omega) ?_ h ((List.reverse_perm m).trans hp)
  rw [List.pairwise_reverse]
  exact hs
/-! ### tools of the walks -/
def TOPN : Int := 1000000000000000000000000000000000000000
theorem tot_bg {rs : List (Int × Int)} (h : Runs 400 1000000000000000000000000000000 rs) : 0 ≤ totR rs ∧ totR rs < 2 ^ 110 := by
  have h1 := totR_nonneg fun p hp => (h.cnt p hp).1
  have h2 := tot_le (fun p hp => (h.cnt p hp).2) h.len (by decide)
  omega
theorem sum_bg (c : Int) {rs : List (Int × Int)} (h : Runs 400 1000000000000000000000000000000 rs) : 0 ≤ sumC c rs ∧ sumC c rs < 2 ^ 110 := by
  have h1 := sumC_bd c fun p hp => (h.cnt p hp).1
  have h2 := tot_bg h
  omega
theorem Runs.tk {m : Nat} {L : Int} {rs : List (Int × Int)} (h : Runs m L rs) (j : Nat) : Runs m L (rs.take j) := by
  have e : rs = rs.take j ++ rs.drop j := (List.take_append_drop j rs).symm
  rw [e] at h
  exact h.pre
theorem okE_pre {R : Nat} {a b : List (Int × Int)} (h : okE R (a ++ b)) : okE R a := fun i hi => by
  have := h i (by simp; omega)
  rwa [List.take_append_of_le_length hi] at this
theorem rngT_rngI (a b : Int) : rngT a (b - a).toNat = (rngI a b).map fun R => T.dat (.int R) := by unfold rngT rngI; rw [List.map_map]; rfl
theorem rngI_bd {a b R : Int} (h : R ∈ rngI a b) : a ≤ R ∧ R < b := by
  unfold rngI at h
  obtain ⟨i, hi, rfl⟩ := List.mem_map.mp h
  rw [List.mem_range] at hi
  omega
theorem rngI_ln (a b : Int) : (rngI a b).length = (b - a).toNat := by simp [rngI]
theorem rtlL {ds : List D} {rs : List (Int × Int)} (k : RLk ds rs) (h : Runs 400 1000000000000000000000000000000 rs) : Tl 3 100000 (.list ds) ∧ Tl 3 100000 (.tuple ds) := ⟨(rlk_tlA k h (Int.le_refl _)).listM (by decide) (by decide), (rlk_tlA k h (Int.le_refl _)).tupleM (by decide) (by decide)⟩
theorem repr_iL {d : D} {k n : Nat} {P : Prop} (h : Tl k n d) (hk : k < 60) (hn : n ≤ 16777216) (p : P) : d.showable = true ∧ d.shown.length ≤ sizeLine ∧ d.depth < 60 ∧ P := ⟨h.sh, Nat.le_trans h.le hn, Nat.lt_of_le_of_lt h.dp hk, p⟩
theorem eqv_nilL {l : List Int} : PyData.eqv (.list (l.map .int)) (.list []) = decide (l = []) := by
  cases l with
  | nil => rw [List.map_nil, eqv_nil_nil]; rfl
  | cons s F => rw [List.map_cons, eqv_cons_nil]; simp
theorem ext_lc {i : Nat} {fi : DI} {g : DG} {tt : DTt} {fe : DE} {own : List Nat} {D : DEnds} {ρ : List T} {ds : List PyData} (its : List T) (e : ρ[i]? = some (.own ds)) (h : ∀ Q : List T → List T → Prop, Q its ρ → fi ρ Q)
    (h2 : dLcGo g tt fe own (fun es ρ2 => dNil ρ2 fun xs ρ3 => (match ρ3[i]? with | some (.own ds) => lmExtend ρ3 ds (.own es :: xs) fun ds' r => D.nx (ρ3.set i (.own ds')) | _ => False)) its [] (wipeT ρ own)) : dDrop (dLm i lmExtend (dCons (dLc fi g tt fe own) dNil)) D ρ := by
  unfold dDrop dLm
  rw [e]
  exact h _ h2
theorem prun_last : ∀ (cs : List Int) (F : List Sta), (prunS F cs).getLast? = some (cs.foldl stepF F)
  | [], F => rfl
  | c :: cs, F => by
    show (keepS _ c F :: prunS (stepF F c) cs).getLast? = _
    rw [List.getLast?_cons, prun_last cs]; rfl
theorem cut_mapI (f : Int → D) (s : List Int) (a b : Option Int) : cut (s.map f) a b = (cut s a b).map f := by
  unfold cut
  simp [List.map_take, List.map_drop]
theorem cnt_runs {cs : List Int} (hc : ∀ c ∈ cs, -1 ≤ c ∧ c ≤ 1) (c : Int) : cntC c cs = sumC c (runsOf cs) := by
  have r := runsOf_runs hc
  have e := cnt_expand c (runsOf cs) fun q hq => (r.cnt q hq).1
  rw [(runsOf_is cs).ex] at e
  exact e
def evD (R : Nat) (rs : List (Int × Int)) : Sta := evT R (sumC 1 rs) (sumC 0 rs) (sumC (-1) rs)
theorem evS_D (R : Nat) {cs : List Int} (hc : ∀ c ∈ cs, -1 ≤ c ∧ c ≤ 1) : evS R cs = evD R (runsOf cs) := by
  rw [evS_T]; unfold evD; rw [cnt_runs hc, cnt_runs hc, cnt_runs hc]
theorem evT_far {R : Nat} (hR : 3 ≤ R) {u z d : Int} (hz : 0 ≤ z) : ∃ m, evT R u z d = u :: (m ++ [d]) ∧ m.sum = z := by
  refine ⟨evM (R - 2) z.toNat, ?_, ?_⟩
  · unfold evT; rw [if_neg (by omega), if_neg (by omega)]
  · rw [evM_sum (by omega)]; omega
end Lw
namespace Lw
open PySem L2 Ds
def roomB (m : List Int) (L : Int) : Int := (m.map fun e => if L < e then L else e).sum
theorem room_cons (x : Int) (m : List Int) (L : Int) : roomB (x :: m) L = (if L < x then L else x) + roomB m L := rfl
theorem room_le : ∀ (m : List Int) (L : Int), roomB m L ≤ m.sum
  | [], L => Int.le_refl _
  | x :: m, L => by rw [room_cons, List.sum_cons]; have := room_le m L; split <;> omega
theorem room_all : ∀ {m : List Int} {L : Int}, (∀ x ∈ m, x ≤ L) → roomB m L = m.sum
  | [], L, _ => rfl
  | x :: m, L, h => by
    rw [room_cons, List.sum_cons, room_all fun y hy => h y (by simp [hy]), if_neg (by have := h x (by simp); omega)]
theorem room_top : ∀ {m : List Int} {L : Int}, m.sum ≤ roomB m L → ∀ x ∈ m, x ≤ L
  | [], L, _, x, hx => by simp at hx
  | y :: m, L, h, x, hx => by
    have := room_le m L
    rw [room_cons, List.sum_cons] at h
    rcases List.mem_cons.mp hx with rfl | hx
    · split at h <;> omega
    · exact room_top (by split at h <;> omega) x hx
theorem room_mono : ∀ (m : List Int) {L L' : Int}, L ≤ L' → roomB m L ≤ roomB m L'
  | [], _, _, _ => Int.le_refl _
  | x :: m, L, L', h => by
    rw [room_cons, room_cons]
    have := room_mono m h
    split <;> split <;> omega
theorem room_inc : ∀ {m : List Int} {k : Nat} (L : Int), k < m.length → roomB m L ≤ roomB (incS m k) L
  | x :: m, 0, L, _ => by
    show roomB (x :: m) L ≤ roomB ((x + 1) :: m) L
    rw [room_cons, room_cons]
    split <;> split <;> omega
  | x :: m, k + 1, L, h => by
    rw [inc_cons, room_cons, room_cons]
    have := room_inc (m := m) (k := k) L (by simpa using h)
    omega
theorem room_zero : ∀ {m : List Int}, (∀ x ∈ m, 0 ≤ x) → roomB m 0 = 0
  | [], _ => rfl
  | x :: m, h => by
    rw [room_cons, room_zero fun y hy => h y (by simp [hy])]
    have := h x (by simp)
    split <;> omega
theorem room_app (a b : List Int) (L : Int) : roomB (a ++ b) L = roomB a L + roomB b L := by unfold roomB; rw [List.map_append, List.sum_append]
/-- the law of the states at the end -/
structure Fit (R : Nat) (cs : List Int) (s : Sta) : Prop where
  one : R = 1 → s = [cntC 0 cs]
  two : 2 ≤ R → ∃ a m b, s = a :: (m ++ [b]) ∧ m.length = R - 2 ∧ s.Pairwise (· ≥ ·) ∧ a = cntC 1 cs ∧ m.sum = cntC 0 cs ∧ b = cntC (-1) cs ∧ ∀ j, j ≤ cs.length → cntC 0 (cs.take j) ≤ roomB m (cntC 1 (cs.take j))
theorem good_parts {R : Nat} {cs : List Int} {s : Sta} (hR : 2 ≤ R) (hc : ∀ c ∈ cs, -1 ≤ c ∧ c ≤ 1) (g : GoodS R cs s) : ∃ m, s = cntC 1 cs :: (m ++ [cntC (-1) cs]) ∧ m.length = R - 2 ∧ m.sum = cntC 0 cs ∧ s.Pairwise (· ≥ ·) := by
  have ct := cnt_sum hc
  have es := g.sum
  have srt := srt_pair (s := s) (by rw [g.len]; exact g.srt)
  obtain ⟨a, m, b, rfl, hm⟩ := split3 g.len hR
  have ea : a = cntC 1 cs := g.fst hR
  have eb : b = cntC (-1) cs := by
    have := g.lst hR
    rw [show R - 1 = m.length + 1 by omega, show (a :: (m ++ [b])).getD (m.length + 1) 0 = (m ++ [b]).getD m.length 0 from rfl, List.getD_eq_getElem?_getD, List.getElem?_append_right (Nat.le_refl _)] at this
    simpa using this
  rw [List.sum_cons, List.sum_append] at es
  simp at es
  exact ⟨m, by rw [← ea, ← eb], hm, by omega, srt⟩
theorem take_snoc {cs : List Int} {c : Int} {j : Nat} (h : j ≤ cs.length) : (cs ++ [c]).take j = cs.take j := List.take_append_of_le_length h
theorem take_full {cs : List Int} {c : Int} : (cs ++ [c]).take (cs.length + 1) = cs ++ [c] := List.take_of_length_le (by simp)
theorem cnt_take (c : Int) (cs : List Int) (j : Nat) : cntC c (cs.take j) ≤ cntC c cs := by
  have e : cntC c cs = cntC c (cs.take j) + cntC c (cs.drop j) := by
    unfold cntC
    rw [← Int.natCast_add, ← List.length_append, ← List.filter_append, List.take_append_drop]
  have := cntC_nonneg c (cs.drop j)
  omega
theorem all_le {a : Int} {t : List Int} (h : (a :: t).Pairwise (· ≥ ·)) : ∀ x ∈ t, x ≤ a := fun x hx => (List.pairwise_cons.mp h).1 x hx
/-- what stands at the end fits -/
theorem reach_fit {R : Nat} (hR : 1 ≤ R) : ∀ (n : Nat) (cs : List Int), cs.length = n → (∀ c ∈ cs, -1 ≤ c ∧ c ≤ 1) → ∀ s ∈ layS R cs, Fit R cs s := by
  intro n
  induction n with
  | zero =>
    intro cs hl hc s hs
    have g := good_lay hR cs s hs
    cases List.eq_nil_of_length_eq_zero hl
    refine ⟨fun e => ?_, fun h2 => ?_⟩
    · have h1 := g.len
      have h3 := g.sum
      rw [e] at h1
      obtain ⟨a, rfl⟩ := List.length_eq_one_iff.mp h1
      simp at h3
      rw [h3]; rfl
    · obtain ⟨m, hm, hl2, hz, hp⟩ := good_parts h2 (by simp) g
      refine ⟨_, m, _, hm, hl2, hp, rfl, hz, rfl, fun j hj => ?_⟩
      have : j = 0 := by simpa using hj
      subst this
      show (0 : Int) ≤ roomB m 0
      have nn : ∀ x ∈ m, (0 : Int) ≤ x := fun x hx => by
        rw [hm] at hp
        have := (List.pairwise_append.mp (List.pairwise_cons.mp hp).2).2.2 x hx (cntC (-1) []) (by simp)
        have := cntC_nonneg (-1) []
        omega
      rw [room_zero nn]; exact Int.le_refl _
  | succ n ih =>
    intro cs hl hc s hs
    have g := good_lay hR cs s hs
    refine ⟨fun e => ?_, fun h2 => ?_⟩
    · have h1 := g.len
      have h3 := g.sum
      have h4 := g.one e
      have h5 := cnt_sum hc
      rw [e] at h1
      obtain ⟨a, rfl⟩ := List.length_eq_one_iff.mp h1
      simp at h3
      rw [show a = cntC 0 cs by omega]
    · obtain ⟨m, hm, hl2, hz, hp⟩ := good_parts h2 hc g
      refine ⟨_, m, _, hm, hl2, hp, rfl, hz, rfl, fun j hj => ?_⟩
      obtain ⟨pre, c, rfl⟩ : ∃ pre c, cs = pre ++ [c] := ⟨cs.dropLast, cs.getLast (by intro z; rw [z] at hl; cases hl), (List.dropLast_concat_getLast _).symm⟩
      have hpl : pre.length = n := by simpa using hl
      by_cases hj2 : j ≤ pre.length
      · rw [take_snoc hj2]
        rw [layS_snoc] at hs
        obtain ⟨s0, hs0, k, hk⟩ := mem_stepF.mp hs
        obtain ⟨a0, m0, b0, e0, l0, _, _, _, _, r0⟩ := (ih pre hpl (fun x hx => hc x (by simp [hx])) s0 hs0).two h2
        have r0 := r0 j hj2
        obtain ⟨k1, k2, k3, k4⟩ := mem_nextS.mp hk
        have hmm : m = m0 ∨ ∃ i, i < m0.length ∧ m = incS m0 i := by
          rw [hm, e0] at k4
          cases k with
          | zero =>
            have k4 := (List.cons.inj k4).2
            exact .inl (List.append_inj k4 (by omega)).1
          | succ i =>
            rw [inc_cons] at k4
            have k4 := (List.cons.inj k4).2
            by_cases w : i < m0.length
            · rw [inc_app w] at k4
              exact .inr ⟨i, w, (List.append_inj k4 (by rw [len_inc]; omega)).1⟩
            · have : i = m0.length := by
                rw [e0] at k1
                simp at k1; omega
              subst this
              rw [inc_end] at k4
              exact .inl (List.append_inj k4 (by omega)).1
        rcases hmm with rfl | ⟨i, hi, rfl⟩
        · exact r0
        · exact Int.le_trans r0 (room_inc _ hi)
      · have hj3 : j = pre.length + 1 := by simp at hj; omega
        subst hj3
        rw [take_full, room_all, hz]
        · exact Int.le_refl _
        · intro x hx
          rw [hm] at hp
          exact all_le hp x (by simp [hx])
/-- the last of the greatest -/
theorem last_max : ∀ {x : Int} {t : List Int}, (x :: t).Pairwise (· ≥ ·) → ∃ (p : Nat) (t' : List Int), x :: t = List.replicate p x ++ x :: t' ∧ (∀ y ∈ t', y < x)
  | x, [], _ => ⟨0, [], rfl, by simp⟩
  | x, y :: t, h => by
    have hy : x ≥ y := (List.pairwise_cons.mp h).1 y (by simp)
    by_cases e : y = x
    · subst e
      obtain ⟨p, t', e1, e2⟩ := last_max (List.pairwise_cons.mp h).2
      exact ⟨p + 1, t', by rw [List.replicate_succ, List.cons_append, ← e1], e2⟩
    · refine ⟨0, y :: t, rfl, fun z hz => ?_⟩
      rcases List.mem_cons.mp hz with rfl | hz
      · omega
      · have := all_le (List.pairwise_cons.mp h).2 z hz
        omega
theorem getD_mid {a : Int} {m : List Int} {b : Int} {i : Nat} (h : i < m.length) : (a :: (m ++ [b])).getD (i + 1) 0 = m.getD i 0 := by
  show (m ++ [b]).getD i 0 = _
  rw [List.getD_eq_getElem?_getD, List.getD_eq_getElem?_getD, List.getElem?_append_left h]
theorem getD_end {a : Int} {m : List Int} {b : Int} : (a :: (m ++ [b])).getD (m.length + 1) 0 = b := by
  show (m ++ [b]).getD m.length 0 = _
  rw [List.getD_eq_getElem?_getD, List.getElem?_append_right (Nat.le_refl _)]; simp
theorem room_rep (p : Nat) (x L : Int) : roomB (List.replicate p x) L = p * (if L < x then L else x) := by
  unfold roomB; rw [List.map_replicate, rep_sum]
/-- one read back -/
theorem fit_back {R : Nat} (hR : 1 ≤ R) {pre : List Int} {c : Int} {s : Sta} (hc : ∀ x ∈ pre ++ [c], -1 ≤ x ∧ x ≤ 1) (ok0 : okC R pre) (ok1 : okC R (pre ++ [c])) (f : Fit R (pre ++ [c]) s) : ∃ s0 k, Fit R pre s0 ∧ (k, s) ∈ nextS s0 c := by
  have cc := hc c (by simp)
  have z1 := cntC_snoc 0 c pre
  have u1 := cntC_snoc 1 c pre
  have d1 := cntC_snoc (-1) c pre
  unfold okC okZ at ok0 ok1
  by_cases r1 : R = 1
  · rw [if_pos r1] at ok0 ok1
    have : c = 0 := by
      have n1 := cntC_nonneg 1 pre
      have n2 := cntC_nonneg (-1) pre
      rcases (by omega : c = 1 ∨ c = 0 ∨ c = -1) with rfl | rfl | rfl
      · simp at u1; omega
      · rfl
      · simp at d1; omega
    subst this
    refine ⟨[cntC 0 pre], 0, ⟨fun _ => rfl, fun h => by omega⟩, mem_nextS.mpr ⟨by simp, .inl rfl, rfl, ?_⟩⟩
    rw [f.one r1, z1]; rfl
  · rw [if_neg r1] at ok0 ok1
    have h2 : 2 ≤ R := by omega
    obtain ⟨a, m, b, rfl, hm, hp, ha, hz, hb, hr⟩ := f.two h2
    have hp2 := (List.pairwise_cons.mp hp).2
    have pa := List.pairwise_append.mp hp2
    have la : ∀ x ∈ m ++ [b], x ≤ a := all_le hp
    have lb : ∀ x ∈ m, b ≤ x := fun x hx => pa.2.2 x hx b (by simp)
    have hr' : ∀ j, j ≤ pre.length → cntC 0 (pre.take j) ≤ roomB m (cntC 1 (pre.take j)) := fun j hj => by
      have := hr j (by simp; omega)
      rwa [take_snoc hj] at this
    rcases (by omega : c = 1 ∨ c = 0 ∨ c = -1) with rfl | rfl | rfl
    · simp at z1 u1 d1
      have full := hr' pre.length (Nat.le_refl _)
      rw [List.take_length] at full
      have top := room_top (m := m) (L := cntC 1 pre) (by omega)
      refine ⟨(a - 1) :: (m ++ [b]), 0, ⟨fun h => absurd h r1, fun _ => ⟨a - 1, m, b, rfl, hm, ?_, by omega, by omega, by omega, hr'⟩⟩, mem_nextS.mpr ⟨by simp, .inl rfl, ?_, ?_⟩⟩
      · refine List.pairwise_cons.mpr ⟨fun x hx => ?_, hp2⟩
        rcases List.mem_append.mp hx with hx | hx
        · have := top x hx
          show a - 1 ≥ x
          omega
        · have := List.mem_singleton.mp hx
          subst this
          show a - 1 ≥ _
          by_cases r2 : R = 2
          · rw [if_pos r2] at ok0
            omega
          · cases m with
            | nil => simp at hm; omega
            | cons y m =>
              have h3 := top y (by simp)
              have h4 := lb y (by simp)
              omega
      · have : ((a - 1) :: (m ++ [b])).length = R := by simp; omega
        rw [this]
        unfold ownC
        rw [if_neg r1, if_pos rfl, if_neg (by omega)]; rfl
      · show a :: (m ++ [b]) = (a - 1 + 1) :: (m ++ [b])
        rw [show a - 1 + 1 = a by omega]
    · simp at z1 u1 d1
      by_cases r2 : R = 2
      · rw [if_pos r2] at ok1
        have := cntC_nonneg 0 pre
        omega
      · rw [if_neg r2] at ok0 ok1
        cases m with
        | nil => simp at hm; omega
        | cons x t =>
          obtain ⟨p, t', e1, e2⟩ := last_max pa.1
          rw [e1] at hm hz hr' pa lb la hp ⊢
          have hl : p + 1 + t'.length = R - 2 := by simp at hm; omega
          have mem : ∀ y ∈ List.replicate p x ++ x :: t', y ≤ x := fun y hy => by
            rcases List.mem_append.mp hy with hy | hy
            · rw [(List.mem_replicate.mp hy).2]; exact Int.le_refl _
            · rcases List.mem_cons.mp hy with rfl | hy
              · exact Int.le_refl _
              · have := e2 y hy; omega
          have xb : b < x := by
            by_cases w : b < x
            · exact w
            · have sb := sum_between (a := b) (b := b) (l := List.replicate p x ++ x :: t') fun y hy => by
                have h3 := lb y hy
                have h4 := mem y hy
                omega
              rw [hm, show ((R - 2 : Nat) : Int) = (R : Int) - 2 by omega] at sb
              have h5 := ok0.2
              rw [show cntC (-1) pre = b by omega] at h5
              omega
          have ax : x ≤ a := la x (by simp)
          refine ⟨a :: ((List.replicate p x ++ (x - 1) :: t') ++ [b]), p + 1, ⟨fun h => absurd h r1, fun _ => ⟨a, _, b, rfl, by simp; omega, ?_, by omega, ?_, by omega, fun j hj => ?_⟩⟩, mem_nextS.mpr ⟨?_, .inr ?_, ?_, ?_⟩⟩
          · have pt : t'.Pairwise (· ≥ ·) := (List.pairwise_cons.mp (List.pairwise_append.mp pa.1).2.1).2
            have bt : ∀ y ∈ t', b ≤ y := fun y hy => lb y (by simp [hy])
            refine List.pairwise_cons.mpr ⟨fun y hy => ?_, List.pairwise_append.mpr ⟨List.pairwise_append.mpr ⟨List.pairwise_replicate.mpr (.inr (by simp)), List.pairwise_cons.mpr ⟨fun y hy => ?_, pt⟩, fun y hy z hz => ?_⟩, by simp, fun y hy z hz => ?_⟩⟩
            · show a ≥ y
              rcases List.mem_append.mp hy with hy | hy
              · rcases List.mem_append.mp hy with hy | hy
                · rw [(List.mem_replicate.mp hy).2]; exact ax
                · rcases List.mem_cons.mp hy with rfl | hy
                  · omega
                  · have := e2 y hy; omega
              · rw [List.mem_singleton.mp hy]; exact la b (by simp)
            · have := e2 y hy
              show x - 1 ≥ y
              omega
            · rw [(List.mem_replicate.mp hy).2]
              show x ≥ z
              rcases List.mem_cons.mp hz with rfl | hz
              · omega
              · have := e2 z hz; omega
            · rw [List.mem_singleton.mp hz]
              show y ≥ b
              rcases List.mem_append.mp hy with hy | hy
              · rw [(List.mem_replicate.mp hy).2]; omega
              · rcases List.mem_cons.mp hy with rfl | hy
                · omega
                · exact bt y hy
          · rw [List.sum_append, List.sum_cons] at hz ⊢
            omega
          · have h6 := hr' j hj
            rw [room_app, room_cons] at h6 ⊢
            by_cases w : cntC 1 (pre.take j) < x
            · rw [if_pos w] at h6
              split <;> omega
            · have a1 := room_all (m := List.replicate p x) (L := cntC 1 (pre.take j)) fun y hy => by rw [(List.mem_replicate.mp hy).2]; omega
              have a2 := room_all (m := t') (L := cntC 1 (pre.take j)) fun y hy => by have := e2 y hy; omega
              rw [if_neg (by omega), a1, a2]
              rw [List.sum_append, List.sum_cons] at hz
              have := cnt_take 0 pre j
              omega
          · simp
          · have g1 : (a :: ((List.replicate p x ++ (x - 1) :: t') ++ [b])).getD (p + 1) 0 = x - 1 := by
              rw [getD_mid (by simp), List.getD_eq_getElem?_getD, List.getElem?_append_right (by simp)]; simp
            rw [g1]
            show _ < (a :: ((List.replicate p x ++ (x - 1) :: t') ++ [b])).getD p 0
            cases p with
            | zero => show x - 1 < a; omega
            | succ p =>
              rw [getD_mid (by simp; omega), List.getD_eq_getElem?_getD, List.getElem?_append_left (by simp), List.getElem?_replicate, if_pos (by omega)]
              show x - 1 < x
              omega
          · have : (a :: ((List.replicate p x ++ (x - 1) :: t') ++ [b])).length = R := by simp; omega
            rw [this]
            unfold ownC
            rw [if_neg r1, if_neg (by omega), if_neg (by omega)]; rfl
          · rw [inc_cons, inc_app (by simp)]
            congr 2
            unfold incS
            rw [List.set_append_right _ _ (by simp), List.getD_eq_getElem?_getD, List.getElem?_append_right (by simp)]
            simp
    · simp at z1 u1 d1
      refine ⟨a :: (m ++ [b - 1]), R - 1, ⟨fun h => absurd h r1, fun _ => ⟨a, m, b - 1, rfl, hm, ?_, by omega, by omega, by omega, hr'⟩⟩, mem_nextS.mpr ⟨by simp; omega, .inr ?_, ?_, ?_⟩⟩
      · refine List.pairwise_cons.mpr ⟨fun x hx => ?_, List.pairwise_append.mpr ⟨pa.1, by simp, fun x hx y hy => ?_⟩⟩
        · show a ≥ x
          rcases List.mem_append.mp hx with hx | hx
          · exact la x (by simp [hx])
          · rw [List.mem_singleton.mp hx]; have := la b (by simp); omega
        · rw [List.mem_singleton.mp hy]
          have := lb x hx
          show x ≥ b - 1
          omega
      · rw [show R - 1 = m.length + 1 by omega, getD_end]
        show _ < (a :: (m ++ [b - 1])).getD m.length 0
        cases hl : m.length with
        | zero => show b - 1 < a; have := la b (by simp); omega
        | succ i =>
          rw [getD_mid (by omega)]
          have : m.getD i 0 ∈ m := by
            rw [List.getD_eq_getElem?_getD, List.getElem?_eq_getElem (by omega)]
            exact List.getElem_mem _
          have := lb _ this
          omega
      · have : (a :: (m ++ [b - 1])).length = R := by simp; omega
        rw [this]
        unfold ownC
        rw [if_neg r1, if_neg (by omega), if_pos (by omega)]; rfl
      · rw [show R - 1 = m.length + 1 by omega, inc_cons, inc_end, show b - 1 + 1 = b by omega]
theorem fit_reach {R : Nat} (hR : 1 ≤ R) : ∀ (n : Nat) (cs : List Int), cs.length = n → (∀ c ∈ cs, -1 ≤ c ∧ c ≤ 1) → (∀ j, j ≤ n → okC R (cs.take j)) → ∀ s, Fit R cs s → s ∈ layS R cs := by
  intro n
  induction n with
  | zero =>
    intro cs hl hc hk s f
    cases List.eq_nil_of_length_eq_zero hl
    have : s = zeroS R := by
      by_cases r1 : R = 1
      · rw [f.one r1, r1]; rfl
      · obtain ⟨a, m, b, rfl, hm, hp, ha, hz, hb, hr⟩ := f.two (by omega)
        have ha : a = 0 := ha
        have hb : b = 0 := hb
        subst ha hb
        have la := all_le hp
        have lb : ∀ x ∈ m, (0 : Int) ≤ x := fun x hx => (List.pairwise_append.mp (List.pairwise_cons.mp hp).2).2.2 x hx 0 (by simp)
        have e : m = List.replicate (R - 2) 0 := List.eq_replicate_iff.mpr ⟨hm, fun x hx => by have := la x (by simp [hx]); have := lb x hx; omega⟩
        unfold zeroS
        rw [e, show R = (R - 2) + 1 + 1 by omega, List.replicate_succ, List.replicate_succ']; rfl
    rw [this]; simp [layS]
  | succ n ih =>
    intro cs hl hc hk s f
    obtain ⟨pre, c, rfl⟩ : ∃ pre c, cs = pre ++ [c] := ⟨cs.dropLast, cs.getLast (by intro z; rw [z] at hl; cases hl), (List.dropLast_concat_getLast _).symm⟩
    have hpl : pre.length = n := by simpa using hl
    have k0 := hk n (by omega)
    have k1 := hk (n + 1) (Nat.le_refl _)
    rw [← hpl, take_full] at k1
    rw [← hpl, take_snoc (Nat.le_refl _), List.take_length] at k0
    obtain ⟨s0, k, f0, hn⟩ := fit_back hR hc k0 k1 f
    rw [layS_snoc]
    exact mem_stepF.mpr ⟨s0, ih pre hpl (fun x hx => hc x (by simp [hx])) (fun j hj => by have := hk j (by omega); rwa [take_snoc (by omega)] at this) s0 f0, k, hn⟩
/-- THE LAW of the states at the end -/
theorem fit_iff {R : Nat} (hR : 1 ≤ R) {cs : List Int} (hc : ∀ c ∈ cs, -1 ≤ c ∧ c ≤ 1) (h : layS R cs ≠ []) (s : Sta) : s ∈ layS R cs ↔ Fit R cs s :=
  ⟨reach_fit hR _ cs rfl hc s, fit_reach hR _ cs rfl hc ((lay_iff hR cs hc).mp h) s⟩
end Lw
namespace Lw
open PySem L2 Ds
def okJ (cs m : List Int) (j : Nat) : Prop := cntC 0 (cs.take j) ≤ roomB m (cntC 1 (cs.take j))
def WhyM (cs m : List Int) : Option Int → Prop
  | none => ∀ j, 1 ≤ j → j ≤ cs.length → okJ cs m j
  | some n => ∃ j : Nat, n = (j : Int) ∧ 1 ≤ j ∧ j ≤ cs.length ∧ ¬ okJ cs m j ∧ ∀ i, 1 ≤ i → i < j → okJ cs m i
theorem whyM_uniq {cs m : List Int} {x y : Option Int} (h1 : WhyM cs m x) (h2 : WhyM cs m y) : x = y := by
  cases x with
  | none =>
    cases y with
    | none => rfl
    | some n => obtain ⟨j, _, a, b, c, _⟩ := h2; exact absurd (h1 j a b) c
  | some n =>
    obtain ⟨j, rfl, a, b, c, d⟩ := h1
    cases y with
    | none => exact absurd (h2 j a b) c
    | some n =>
      obtain ⟨i, rfl, a2, b2, c2, d2⟩ := h2
      rcases Nat.lt_trichotomy i j with h | h | h
      · exact absurd (d i a2 h) c2
      · rw [h]
      · exact absurd (d2 j a h) c
def endsD : D := .tuple [.str ("ends" : Str)]
def whyD : Option Int → D
  | none => .none
  | some n => .tuple [.str ("prefix" : Str), .int n]
structure WhyS (u z d : Int) (cs : List Int) (s : Sta) (t : D) : Prop where
  one : s.length = 1 → t = if s = [z] then .none else endsD
  more : ∀ a m b, s = a :: (m ++ [b]) → (a = u ∧ m.sum = z ∧ b = d → ∃ x, WhyM cs m x ∧ t = whyD x) ∧ (¬ (a = u ∧ m.sum = z ∧ b = d) → t = endsD)
theorem whyS_uniq {u z d : Int} {cs : List Int} {s : Sta} {t t' : D} (hs : 1 ≤ s.length) (h1 : WhyS u z d cs s t) (h2 : WhyS u z d cs s t') : t = t' := by
  by_cases e : s.length = 1
  · rw [h1.one e, h2.one e]
  · obtain ⟨a, m, b, hs2, _⟩ := split3 (s := s) rfl (by omega)
    have a1 := h1.more a m b hs2
    have a2 := h2.more a m b hs2
    by_cases w : a = u ∧ m.sum = z ∧ b = d
    · obtain ⟨x, x1, x2⟩ := a1.1 w
      obtain ⟨y, y1, y2⟩ := a2.1 w
      rw [x2, y2, whyM_uniq x1 y1]
    · rw [a1.2 w, a2.2 w]
theorem whyS_none {R : Nat} (hR : 1 ≤ R) {cs : List Int} (hc : ∀ c ∈ cs, -1 ≤ c ∧ c ≤ 1) (hne : layS R cs ≠ []) {s : Sta} (hl : s.length = R) (hp : s.Pairwise (· ≥ ·)) {t : D} (h : WhyS (cntC 1 cs) (cntC 0 cs) (cntC (-1) cs) cs s t) : t = .none ↔ s ∈ layS R cs := by
  rw [fit_iff hR hc hne]
  by_cases e : R = 1
  · have h1 := h.one (by omega)
    constructor
    · intro w
      refine ⟨fun _ => ?_, fun z => by omega⟩
      rw [h1] at w
      by_cases q : s = [cntC 0 cs]
      · exact q
      · rw [if_neg q] at w; cases w
    · intro f
      rw [h1, if_pos (f.one e)]
  · obtain ⟨a, m, b, hs, hm⟩ := split3 hl (by omega)
    have h2 := h.more a m b hs
    constructor
    · intro w
      refine ⟨fun z => absurd z e, fun _ => ⟨a, m, b, hs, hm, hp, ?_⟩⟩
      by_cases q : a = cntC 1 cs ∧ m.sum = cntC 0 cs ∧ b = cntC (-1) cs
      · refine ⟨q.1, q.2.1, q.2.2, fun j hj => ?_⟩
        obtain ⟨x, x1, x2⟩ := h2.1 q
        cases x with
        | some n => rw [w] at x2; cases x2
        | none =>
          by_cases j0 : j = 0
          · subst j0
            have nn : ∀ x ∈ m, (0 : Int) ≤ x := fun x hx => by
              rw [hs] at hp
              have := (List.pairwise_append.mp (List.pairwise_cons.mp hp).2).2.2 x hx b (by simp)
              have := cntC_nonneg (-1) cs
              omega
            show (0 : Int) ≤ roomB m 0
            rw [room_zero nn]; exact Int.le_refl _
          · exact x1 j (by omega) hj
      · rw [h2.2 q] at w; cases w
    · intro f
      obtain ⟨a', m', b', e1, _, _, e2, e3, e4, e5⟩ := f.two (by omega)
      have e6 := hs.symm.trans e1
      have e7 := (List.cons.inj e6)
      have e8 := List.append_inj' e7.2 rfl
      have e9 : b = b' := by simpa using e8.2
      obtain ⟨x, x1, x2⟩ := h2.1 ⟨e7.1.trans e2, by rw [e8.1]; exact e3, e9.trans e4⟩
      have : WhyM cs m none := fun j h1 h2 => by rw [e8.1]; exact e5 j h2
      rw [x2, whyM_uniq x1 this]; rfl
/-! ### along the runs -/
theorem expand_app (a b : List (Int × Int)) : expandR (a ++ b) = expandR a ++ expandR b := by
  induction a with
  | nil => rfl
  | cons x a ih => show List.replicate x.2.toNat x.1 ++ expandR (a ++ b) = _; rw [ih, ← List.append_assoc]; rfl
theorem take_run {pre post : List (Int × Int)} {p : Int × Int} {i : Nat} (hi : (i : Int) ≤ p.2) : (expandR (pre ++ p :: post)).take ((expandR pre).length + i) = expandR pre ++ List.replicate i p.1 := by
  rw [expand_app]
  show (expandR pre ++ (List.replicate p.2.toNat p.1 ++ expandR post)).take _ = _
  rw [List.take_length_add_append, List.take_append_of_le_length (by simp; omega), List.take_replicate, show min i p.2.toNat = i by omega]
theorem cnt_rep (c x : Int) (n : Nat) : cntC c (List.replicate n x) = if x = c then (n : Int) else 0 := by
  unfold cntC
  rw [List.filter_replicate]
  by_cases h : x = c
  · rw [if_pos (by simpa using h), if_pos h]; simp
  · rw [if_neg (by simpa using h), if_neg h]; rfl
theorem cnt_app (c : Int) (a b : List Int) : cntC c (a ++ b) = cntC c a + cntC c b := by unfold cntC; rw [List.filter_append, List.length_append]; omega
theorem okJ_run {pre post : List (Int × Int)} {p : Int × Int} {i : Nat} {m : List Int} (hp : ∀ q ∈ pre, 1 ≤ q.2) (hi : (i : Int) ≤ p.2) :
    okJ (expandR (pre ++ p :: post)) m ((expandR pre).length + i) ↔ sumC 0 pre + (if p.1 = 0 then (i : Int) else 0) ≤ roomB m (sumC 1 pre + if p.1 = 1 then (i : Int) else 0) := by
  unfold okJ
  rw [take_run hi, cnt_app, cnt_app, cnt_rep, cnt_rep, cnt_expand 0 _ hp, cnt_expand 1 _ hp]
theorem okJ_end {pre post : List (Int × Int)} {m : List Int} (hp : ∀ q ∈ pre, 1 ≤ q.2) : okJ (expandR (pre ++ post)) m (expandR pre).length ↔ sumC 0 pre ≤ roomB m (sumC 1 pre) := by
  unfold okJ
  rw [expand_app, List.take_append_of_le_length (Nat.le_refl _), List.take_length, cnt_expand 0 _ hp, cnt_expand 1 _ hp]
def OkTo (rs : List (Int × Int)) (m : List Int) (k : Nat) : Prop := ∀ j, 1 ≤ j → j ≤ k → okJ (expandR rs) m j
theorem len_one (p : Int × Int) : (expandR [p]).length = p.2.toNat := by simp [expandR]
/-- one run more -/
theorem run_ok {rs pre post : List (Int × Int)} {p : Int × Int} {m : List Int} (e : rs = pre ++ p :: post) (hp : ∀ q ∈ rs, 1 ≤ q.2) (h : OkTo rs m (expandR pre).length) (h0 : sumC 0 pre ≤ roomB m (sumC 1 pre)) (hw : p.1 = 0 → p.2 ≤ roomB m (sumC 1 pre) - sumC 0 pre) : OkTo rs m (expandR (pre ++ [p])).length ∧ sumC 0 (pre ++ [p]) ≤ roomB m (sumC 1 (pre ++ [p])) := by
  have hpp : ∀ q ∈ pre, 1 ≤ q.2 := fun q hq => hp q (by rw [e]; simp [hq])
  have h1 := hp p (by rw [e]; simp)
  have key : ∀ i : Int, 0 ≤ i → i ≤ p.2 → sumC 0 pre + (if p.1 = 0 then i else 0) ≤ roomB m (sumC 1 pre + if p.1 = 1 then i else 0) := fun i i0 i1 => by
    by_cases z : p.1 = 0
    · rw [if_pos z, if_neg (by omega), Int.add_zero]
      have := hw z
      omega
    · rw [if_neg z]
      have := room_mono m (L := sumC 1 pre) (L' := sumC 1 pre + if p.1 = 1 then i else 0) (by split <;> omega)
      omega
  refine ⟨fun j j1 j2 => ?_, ?_⟩
  · by_cases w : j ≤ (expandR pre).length
    · exact h j j1 w
    · obtain ⟨i, rfl⟩ : ∃ i, j = (expandR pre).length + i := ⟨j - (expandR pre).length, by omega⟩
      rw [expand_app, List.length_append, len_one] at j2
      rw [e]
      exact (okJ_run hpp (by omega)).mpr (key i (by omega) (by omega))
  · rw [sum_snoc, sum_snoc]
    exact key p.2 (by omega) (Int.le_refl _)
/-- where it fails -/
theorem run_bad {rs pre post : List (Int × Int)} {p : Int × Int} {m : List Int} (e : rs = pre ++ p :: post) (hp : ∀ q ∈ rs, 1 ≤ q.2) (h : OkTo rs m (expandR pre).length) (h0 : sumC 0 pre ≤ roomB m (sumC 1 pre)) (z : p.1 = 0) (hw : roomB m (sumC 1 pre) - sumC 0 pre < p.2) (ht : ((expandR pre).length : Int) = totR pre) : WhyM (expandR rs) m (some (totR pre + (roomB m (sumC 1 pre) - sumC 0 pre) + 1)) := by
  have hpp : ∀ q ∈ pre, 1 ≤ q.2 := fun q hq => hp q (by rw [e]; simp [hq])
  obtain ⟨i, hi⟩ : ∃ i : Nat, roomB m (sumC 1 pre) - sumC 0 pre = (i : Int) := ⟨(roomB m (sumC 1 pre) - sumC 0 pre).toNat, by omega⟩
  have it : ∀ k : Nat, (k : Int) ≤ p.2 → (okJ (expandR rs) m ((expandR pre).length + k) ↔ k ≤ i) := fun k hk => by
    rw [e, okJ_run hpp hk, if_pos z, if_neg (by omega), Int.add_zero]; omega
  refine ⟨(expandR pre).length + (i + 1), by omega, by omega, ?_, ?_, fun j j1 j2 => ?_⟩
  · rw [e, expand_app]
    show _ ≤ (expandR pre ++ (List.replicate p.2.toNat p.1 ++ expandR post)).length
    rw [List.length_append, List.length_append, List.length_replicate]; omega
  · rw [it _ (by omega)]; omega
  · by_cases w : j ≤ (expandR pre).length
    · exact h j j1 w
    · obtain ⟨k, rfl⟩ : ∃ k, j = (expandR pre).length + k := ⟨j - (expandR pre).length, by omega⟩
      exact (it k (by omega)).mpr (by omega)
/-! ### states as data -/
def staD (s : Sta) : D := .list (s.map .int)
def nxD (p : Nat × Sta) : D := .tuple [.int (p.1 : Nat), staD p.2]
theorem gI_sta {s : Sta} {n : Int} (h0 : 0 ≤ n) (h1 : n < s.length) : gI (s.map PyData.int) n = some (.int (s.getD n.toNat 0)) := by
  rw [gI_nat (k := n.toNat) (by omega), List.getElem?_map, List.getElem?_eq_getElem (by omega), List.getD_eq_getElem?_getD, List.getElem?_eq_getElem (by omega)]; rfl
theorem inc_cut {s : Sta} {i : Nat} (h : i < s.length) : s.take i ++ [s.getD i 0 + 1] ++ s.drop (i + 1) = incS s i := by
  unfold incS
  rw [List.set_eq_take_append_cons_drop, if_pos h]; simp
def layD (F : List Sta) : D := .list (F.map staD)
theorem eqvAll_ints : ∀ a b : List Int, PyData.eqvAll (a.map PyData.int) (b.map PyData.int) = decide (a = b)
  | [], [] => by rw [List.map_nil, PyData.eqvAll]; rfl
  | [], y :: b => by rw [List.map_nil, List.map_cons, PyData.eqvAll]; simp
  | x :: a, [] => by rw [List.map_nil, List.map_cons, PyData.eqvAll]; simp
  | x :: a, y :: b => by
    rw [List.map_cons, List.map_cons, PyData.eqvAll, eqvAll_ints a b, eqv_int]
    by_cases h : x = y
    · subst h; simp
    · simp [h]
theorem eqv_sta (a b : Sta) : PyData.eqv (staD a) (staD b) = decide (a = b) := by
  unfold staD
  rw [PyData.eqv, eqvAll_ints]
theorem any_sta (F : List Sta) (o : Sta) : ((F.map staD).any fun z => PyData.eqv z (staD o)) = decide (o ∈ F) := by
  rw [List.any_map, Bool.eq_iff_iff, List.any_eq_true, decide_eq_true_eq]
  constructor
  · rintro ⟨x, hx, e⟩
    have e : PyData.eqv (staD x) (staD o) = true := e
    rw [eqv_sta] at e
    rw [← of_decide_eq_true e]; exact hx
  · intro h
    exact ⟨o, h, by show PyData.eqv (staD o) (staD o) = true; rw [eqv_sta]; simp⟩
theorem lay_sta (s : Sta) : Lay 1 (staD s) := Lay.intL
theorem lay_stas (F : List Sta) : Lay 2 (.list (F.map staD)) := .list fun x hx => by obtain ⟨s, _, rfl⟩ := List.mem_map.mp hx; exact lay_sta s
theorem sh_sta (s : Sta) : SeqAt.shaped (staD s) = true := (lay_sta s).shaped (by decide)
theorem sh_stas (F : List Sta) : SeqAt.shaped (.list (F.map staD)) = true := (lay_stas F).shaped (by decide)
theorem eqv_stas_nil (F : List Sta) : PyData.eqv (.list (F.map staD)) (.list []) = decide (F = []) := by
  cases F with
  | nil => rw [List.map_nil, eqv_nil_nil]; rfl
  | cons s F => rw [List.map_cons, eqv_cons_nil]; simp
theorem rep_zero (n : Nat) : (List.replicate n [PyData.int 0]).flatten = (zeroS n).map .int := by
  unfold zeroS
  rw [List.map_replicate]
  induction n with
  | zero => rfl
  | succ n ih => rw [List.replicate_succ, List.flatten_cons, ih, List.replicate_succ]; rfl
theorem zero_len {n : Nat} : (zeroS n).length = n := by simp [zeroS]
theorem fact10 {n : Nat} (h : n ≤ 10) : factS n ≤ 3628800 := Nat.le_trans (fact_mono h) (by decide)
theorem three_ofL {v : Int} (h0 : 0 ≤ v) (h1 : v < 3) : ∃ c : Int, gI [PyData.int 1, .int 0, .int (-1)] v = some (.int c) ∧ (c = 1 ∨ c = 0 ∨ c = -1) := by
  rcases (by omega : v = 0 ∨ v = 1 ∨ v = 2) with rfl | rfl | rfl
  · exact ⟨1, rfl, .inl rfl⟩
  · exact ⟨0, rfl, .inr (.inl rfl)⟩
  · exact ⟨-1, rfl, .inr (.inr rfl)⟩
end Lw
namespace Lw
open PySem L2 Ds
theorem cntF_take (c : Int) : ∀ (rs : List (Int × Int)) (n : Int), (∀ q ∈ rs, 1 ≤ q.2) → cntF c rs n = cntC c ((expandR rs).take n.toNat)
  | [], n, _ => by simp [cntF, expandR, cntC]
  | p :: rs, n, h => by
    have h1 := h p (by simp)
    have ih := cntF_take c rs (n - p.2) fun q hq => h q (by simp [hq])
    show (if p.1 = c then cutN p.2 n else 0) + cntF c rs (n - p.2) = cntC c ((List.replicate p.2.toNat p.1 ++ expandR rs).take n.toNat)
    rw [List.take_append, cnt_app, List.take_replicate, cnt_rep, List.length_replicate, ih, show n.toNat - p.2.toNat = (n - p.2).toNat by omega]
    congr 1
    split
    · unfold cutN mx0 mn
      split <;> split <;> omega
    · rfl
def okN (rs : List (Int × Int)) (m : List Int) (n : Int) : Bool := decide (cntF 0 rs n ≤ roomB m (cntF 1 rs n))
theorem okN_J {rs : List (Int × Int)} (hp : ∀ q ∈ rs, 1 ≤ q.2) (m : List Int) (j : Nat) : okN rs m j = true ↔ okJ (expandR rs) m j := by
  unfold okN okJ
  rw [decide_eq_true_iff, cntF_take 0 rs _ hp, cntF_take 1 rs _ hp, Int.toNat_natCast]
theorem okN_zero {rs : List (Int × Int)} (hp : ∀ q ∈ rs, 1 ≤ q.2) {m : List Int} (hm : ∀ x ∈ m, 0 ≤ x) : okN rs m 0 = true := by
  have := okN_J hp m 0
  rw [show ((0 : Nat) : Int) = 0 from rfl] at this
  rw [this]
  show (0 : Int) ≤ roomB m 0
  rw [room_zero hm]; exact Int.le_refl _
def brokenL (rs : List (Int × Int)) (m : List Int) : List Int := (endsR rs).filter fun n => !okN rs m n
theorem ends_mem {rs : List (Int × Int)} (hp : ∀ q ∈ rs, 1 ≤ q.2) {n : Int} (h : n ∈ endsR rs) : ∃ i, i ≤ rs.length ∧ n = totR (rs.take i) ∧ 0 ≤ n ∧ n ≤ totR rs := by
  unfold endsR at h
  obtain ⟨i, hi, rfl⟩ := List.mem_map.mp h
  rw [List.mem_range] at hi
  have h1 := (totR_nonneg (rs := rs.take i) fun q hq => hp q (List.mem_of_mem_take hq)).1
  have h2 := (totR_nonneg (rs := rs.drop i) fun q hq => hp q (List.mem_of_mem_drop hq)).1
  have e := totR_append (rs.take i) (rs.drop i)
  rw [List.take_append_drop] at e
  exact ⟨i, by omega, rfl, h1, by omega⟩
theorem broken_none {rs : List (Int × Int)} (hp : ∀ q ∈ rs, 1 ≤ q.2) {m : List Int} (hm : ∀ x ∈ m, 0 ≤ x) (h : WhyM (expandR rs) m none) : brokenL rs m = [] := by
  refine List.filter_eq_nil_iff.mpr fun n hn => ?_
  obtain ⟨i, _, _, h0, h1⟩ := ends_mem hp hn
  have tn := totR_nonneg hp
  obtain ⟨j, rfl⟩ : ∃ j : Nat, n = (j : Int) := ⟨n.toNat, by omega⟩
  by_cases z : j = 0
  · subst z
    have := okN_zero hp hm
    rw [show ((0 : Nat) : Int) = 0 from rfl, this]; simp
  · have := (okN_J hp m j).mpr (h j (by omega) (by omega))
    rw [this]; simp
theorem in_run {n : Int} : ∀ {rs : List (Int × Int)}, (∀ q ∈ rs, 1 ≤ q.2) → 1 ≤ n → n ≤ totR rs → ∃ pre p post, rs = pre ++ p :: post ∧ totR pre < n ∧ n ≤ totR (pre ++ [p])
  | [], _, h1, h2 => by rw [totR_nil] at h2; omega
  | p :: rs, hp, h1, h2 => by
    by_cases w : n ≤ p.2
    · exact ⟨[], p, rs, rfl, by rw [totR_nil]; omega, by rw [List.nil_append, totR_one]; exact w⟩
    · rw [totR_cons] at h2
      have := hp p (by simp)
      have go : ∀ {k : Int}, 1 ≤ k → k ≤ totR rs → ∃ pre p post, rs = pre ++ p :: post ∧ totR pre < k ∧ k ≤ totR (pre ++ [p]) := fun {k} a b => in_run (n := k) (fun q hq => hp q (by simp [hq])) a b
      obtain ⟨pre, p', post, e, a, b⟩ := go (k := n - p.2) (by omega) (by omega)
      refine ⟨p :: pre, p', post, by rw [e]; rfl, by rw [totR_cons]; omega, ?_⟩
      rw [List.cons_append, totR_cons]; omega
theorem ends_at {pre : List (Int × Int)} {p : Int × Int} {post : List (Int × Int)} : totR (pre ++ [p]) ∈ endsR (pre ++ p :: post) := by
  unfold endsR
  refine List.mem_map.mpr ⟨pre.length + 1, List.mem_range.mpr (by simp), ?_⟩
  congr 1
  rw [show pre ++ p :: post = (pre ++ [p]) ++ post by simp, List.take_append_of_le_length (by simp), List.take_of_length_le (by simp)]
theorem broken_some {rs : List (Int × Int)} (hp : ∀ q ∈ rs, 1 ≤ q.2) {m : List Int} (hm : ∀ x ∈ m, 0 ≤ x) {n : Int} (h : WhyM (expandR rs) m (some n)) :
    ∃ b0 bs, brokenL rs m = b0 :: bs ∧ n ≤ b0 ∧ okN rs m n = false ∧ okN rs m (n - 1) = true ∧ 1 ≤ n ∧ n ≤ totR rs := by
  obtain ⟨j, rfl, j1, j2, hj, hb⟩ := h
  have tn := totR_nonneg hp
  have bad : okN rs m j = false := by
    cases e : okN rs m (j : Int) with
    | false => rfl
    | true => exact absurd ((okN_J hp m j).mp e) hj
  have prev : okN rs m ((j : Int) - 1) = true := by
    by_cases z : j = 1
    · subst z
      exact okN_zero hp hm
    · rw [show (j : Int) - 1 = ((j - 1 : Nat) : Int) by omega]
      exact (okN_J hp m _).mpr (hb _ (by omega) (by omega))
  have all : ∀ b ∈ brokenL rs m, (j : Int) ≤ b := fun b hbm => by
    obtain ⟨hb1, hb2⟩ := List.mem_filter.mp hbm
    obtain ⟨i, _, _, h0, h1⟩ := ends_mem hp hb1
    obtain ⟨k, rfl⟩ : ∃ k : Nat, b = (k : Int) := ⟨b.toNat, by omega⟩
    by_cases w : (j : Int) ≤ (k : Int)
    · exact w
    · exfalso
      by_cases z : k = 0
      · subst z
        rw [show ((0 : Nat) : Int) = 0 from rfl, okN_zero hp hm] at hb2
        cases hb2
      · rw [(okN_J hp m k).mpr (hb k (by omega) (by omega))] at hb2
        cases hb2
  have ne : brokenL rs m ≠ [] := by
    obtain ⟨pre, p, post, e, a, b⟩ := in_run hp (n := (j : Int)) (by omega) (by omega)
    have hpp : ∀ q ∈ pre, 1 ≤ q.2 := fun q hq => hp q (by rw [e]; simp [hq])
    have tp := totR_nonneg hpp
    have p1 := hp p (by rw [e]; simp)
    rw [totR_append, totR_one] at b
    obtain ⟨i, hi⟩ : ∃ i : Nat, j = (expandR pre).length + i := ⟨j - (expandR pre).length, by omega⟩
    have e1 := okJ_run (pre := pre) (post := post) (p := p) (i := i) (m := m) hpp (by omega)
    rw [← e, ← hi] at e1
    have pre0 : sumC 0 pre ≤ roomB m (sumC 1 pre) := by
      have := okJ_end (pre := pre) (post := p :: post) (m := m) hpp
      rw [← e] at this
      by_cases z : (expandR pre).length = 0
      · rw [← this, z]
        have := (okN_J hp m 0).mp (okN_zero hp hm)
        exact this
      · exact this.mp (hb _ (by omega) (by omega))
    have z0 : p.1 = 0 := by
      by_cases z : p.1 = 0
      · exact z
      · exfalso
        apply hj
        rw [e1, if_neg z]
        have := room_mono m (L := sumC 1 pre) (L' := sumC 1 pre + if p.1 = 1 then (i : Int) else 0) (by split <;> omega)
        omega
    have e2 := okJ_run (pre := pre) (post := post) (p := p) (i := p.2.toNat) (m := m) hpp (by omega)
    rw [← e] at e2
    rw [e1, if_pos z0, if_neg (by omega)] at hj
    rw [if_pos z0, if_neg (by omega)] at e2
    have mem : totR (pre ++ [p]) ∈ brokenL rs m := by
      refine List.mem_filter.mpr ⟨by rw [e]; exact ends_at, ?_⟩
      have ee : totR (pre ++ [p]) = (((expandR pre).length + p.2.toNat : Nat) : Int) := by rw [totR_append, totR_one]; omega
      rw [ee]
      cases w : okN rs m (((expandR pre).length + p.2.toNat : Nat) : Int) with
      | false => rfl
      | true =>
        have := e2.mp ((okN_J hp m _).mp w)
        omega
    intro w
    rw [w] at mem; simp at mem
  cases hB : brokenL rs m with
  | nil => exact absurd hB ne
  | cons b0 bs => exact ⟨b0, bs, rfl, all b0 (by rw [hB]; simp), bad, prev, by omega, by omega⟩
end Lw
namespace Lw
open PySem L2 Ds
def wordO (R c : Int) : Str := if R = 1 then ("single" : Str) else if R = 2 then ("two" : Str) else if c = 0 then ("few" : Str) else ("many" : Str)
def ObsOk (R : Int) (cs : List Int) : Option (Str × Int) → Prop
  | none => ∀ j, j ≤ cs.length → okC R.toNat (cs.take j)
  | some p => ∃ k : Nat, p.2 = (k : Int) + 1 ∧ k < cs.length ∧ (∀ j, j ≤ k → okC R.toNat (cs.take j)) ∧ ¬ okC R.toNat (cs.take (k + 1)) ∧ p.1 = wordO R (cs.getD k 0)
theorem obs_uniq {R : Int} {cs : List Int} {x y : Option (Str × Int)} (h1 : ObsOk R cs x) (h2 : ObsOk R cs y) : x = y := by
  match x, y, h1, h2 with
  | none, none, _, _ => rfl
  | none, some p, h1, ⟨k, _, a, _, b, _⟩ => exact absurd (h1 (k + 1) (by omega)) b
  | some p, none, ⟨k, _, a, _, b, _⟩, h2 => exact absurd (h2 (k + 1) (by omega)) b
  | some (w, n), some (w', n'), ⟨k, e1, a1, b1, c1, d1⟩, ⟨j, e2, a2, b2, c2, d2⟩ =>
    have : k = j := by
      rcases Nat.lt_trichotomy k j with h | h | h
      · exact absurd (b2 (k + 1) (by omega)) c1
      · exact h
      · exact absurd (b1 (j + 1) (by omega)) c2
    subst this
    have e1 : n = (k : Int) + 1 := e1
    have e2 : n' = (k : Int) + 1 := e2
    have d1 : w = _ := d1
    have d2 : w' = _ := d2
    rw [e1, e2, d1, d2]
theorem okC_run {R : Nat} {pre post : List (Int × Int)} {p : Int × Int} {i : Nat} (hp : ∀ q ∈ pre, 1 ≤ q.2) (hi : (i : Int) ≤ p.2) :
    okC R ((expandR (pre ++ p :: post)).take ((expandR pre).length + i)) ↔ okZ R (sumC 1 pre + if p.1 = 1 then (i : Int) else 0) (sumC 0 pre + if p.1 = 0 then (i : Int) else 0) (sumC (-1) pre + if p.1 = -1 then (i : Int) else 0) := by
  unfold okC
  rw [take_run hi, cnt_app, cnt_app, cnt_app, cnt_rep, cnt_rep, cnt_rep, cnt_expand 0 _ hp, cnt_expand 1 _ hp, cnt_expand (-1) _ hp]
theorem wrD_pos {R u z d c : Int} (R1 : 1 ≤ R) (hz : 0 ≤ z) (h : okZ R.toNat u z d) {w : Str} {m : Int} (e : wrD R u z d c = some (w, m)) : 1 ≤ m ∧ w = wordO R c := by
  unfold wrD at e
  unfold okZ at h
  unfold wordO
  by_cases r1 : R = 1
  · rw [if_pos r1] at e ⊢
    split at e
    · cases e
    · cases e; exact ⟨by omega, rfl⟩
  · rw [if_neg r1] at e ⊢
    rw [if_neg (show ¬ R.toNat = 1 by omega)] at h
    by_cases r2 : R = 2
    · rw [if_pos r2] at e ⊢
      rw [if_pos (show R.toNat = 2 by omega)] at h
      split at e
      · cases e; exact ⟨by omega, rfl⟩
      · split at e
        · cases e; exact ⟨by omega, rfl⟩
        · cases e
    · rw [if_neg r2] at e ⊢
      rw [if_neg (show ¬ R.toNat = 2 by omega)] at h
      have er : ((R.toNat : Nat) : Int) - 2 = R - 2 := by omega
      rw [er] at h
      by_cases z0 : c = 0
      · rw [if_pos z0] at e ⊢
        cases e; exact ⟨by omega, rfl⟩
      · rw [if_neg z0] at e ⊢
        by_cases z1 : c = -1
        · rw [if_pos z1] at e
          cases e
          have e2 : d ≤ z / (R - 2) ↔ d * (R - 2) ≤ z := Int.le_ediv_iff_mul_le (by omega)
          rw [Int.mul_comm d] at e2
          have := e2.mpr h.2
          exact ⟨by omega, rfl⟩
        · rw [if_neg z1] at e; cases e
theorem obs_none {R : Int} (R1 : 1 ≤ R) {rs : List (Int × Int)} (hp : ∀ q ∈ rs, 1 ≤ q.2) (hc : ∀ q ∈ rs, -1 ≤ q.1 ∧ q.1 ≤ 1) (h : okE R.toNat rs) : ObsOk R (expandR rs) none := (ends_iff R1 _ rs rfl hp hc).mpr h
theorem obs_run {R : Int} (R1 : 1 ≤ R) {rs pre post : List (Int × Int)} {p : Int × Int} (e : rs = pre ++ p :: post) (hp : ∀ q ∈ rs, 1 ≤ q.2) (hc : ∀ q ∈ rs, -1 ≤ q.1 ∧ q.1 ≤ 1) (h : okE R.toNat pre) {w : Str} {m : Int}
    (hw : wrD R (sumC 1 pre) (sumC 0 pre) (sumC (-1) pre) p.1 = some (w, m)) (hm : m ≤ p.2) : ObsOk R (expandR rs) (some (w, totR pre + m)) := by
  have hpp : ∀ q ∈ pre, 1 ≤ q.2 := fun q hq => hp q (by rw [e]; simp [hq])
  have hcp : ∀ q ∈ pre, -1 ≤ q.1 ∧ q.1 ≤ 1 := fun q hq => hc q (by rw [e]; simp [hq])
  have hc1 := hc p (by rw [e]; simp)
  have b1 := sumC_bd 1 hpp
  have b0 := sumC_bd 0 hpp
  have bm := sumC_bd (-1) hpp
  have hl := okE_last h
  have hl' : okZ R.toNat (sumC 1 pre) (sumC 0 pre) (sumC (-1) pre) := hl
  obtain ⟨m1, ew⟩ := wrD_pos R1 b0.1 hl' hw
  have tn := totR_nonneg hpp
  have all := (ends_iff R1 _ pre rfl hpp hcp).mpr h
  have step : ∀ i : Nat, 1 ≤ i → (i : Int) ≤ p.2 → (okC R.toNat ((expandR rs).take ((expandR pre).length + i)) ↔ (i : Int) < m) := fun i i1 i2 => by
    rw [e, okC_run hpp i2, wr_ok R1 b1.1 b0.1 bm.1 hc1 (by omega) hl', hw]
    exact Iff.rfl
  obtain ⟨k, hk⟩ : ∃ k : Nat, m = (k : Int) + 1 := ⟨(m - 1).toNat, by omega⟩
  have hlen : (expandR rs).length = (expandR pre).length + (p.2.toNat + (expandR post).length) := by
    rw [e, expand_app, List.length_append, show p :: post = [p] ++ post from rfl, expand_app, List.length_append, len_one]
  refine ⟨(expandR pre).length + k, ?_, ?_, fun j hj => ?_, fun z => ?_, ?_⟩
  · show totR pre + m = _
    rw [hk]; have := tn.2.1; omega
  · rw [hlen]; omega
  · by_cases w1 : j ≤ (expandR pre).length
    · have : (expandR rs).take j = (expandR pre).take j := by rw [e, expand_app, List.take_append_of_le_length w1]
      rw [this]; exact all j w1
    · obtain ⟨i, rfl⟩ : ∃ i, j = (expandR pre).length + i := ⟨j - (expandR pre).length, by omega⟩
      exact (step i (by omega) (by omega)).mpr (by omega)
  · have := (step (k + 1) (by omega) (by omega)).mp (by rw [← Nat.add_assoc]; exact z)
    omega
  · show w = _
    rw [ew]
    congr 1
    rw [e, expand_app, List.getD_eq_getElem?_getD, List.getElem?_append_right (by omega), show p :: post = [p] ++ post from rfl, expand_app, List.getElem?_append_left (by rw [len_one]; omega), expandR_one, List.getElem?_replicate]
    rw [if_pos (by omega)]; rfl
theorem obs_ok {R : Int} (R1 : 1 ≤ R) {rs : List (Int × Int)} (hp : ∀ q ∈ rs, 1 ≤ q.2) (hc : ∀ q ∈ rs, -1 ≤ q.1 ∧ q.1 ≤ 1) {x : Option (Str × Int)} (h : ObsOk R (expandR rs) x) : okE R.toNat rs ↔ x = none := by
  rw [← ends_iff R1 _ rs rfl hp hc]
  cases x with
  | none => exact iff_of_true h rfl
  | some p =>
    obtain ⟨k, _, a, _, b, _⟩ := h
    exact iff_of_false (fun z => b (z (k + 1) (by omega))) (by simp)
/-- read by read -/
theorem obs_step {R : Int} (R1 : 1 ≤ R) {cs : List Int} (hc : ∀ c ∈ cs, -1 ≤ c ∧ c ≤ 1) {k : Nat} (hk : k < cs.length) (h : ∀ j, j ≤ k → layS R.toNat (cs.take j) ≠ []) (h2 : layS R.toNat (cs.take (k + 1)) = []) : ObsOk R cs (some (wordO R (cs.getD k 0), (k : Int) + 1)) := by
  have sub : ∀ j, ∀ c ∈ cs.take j, -1 ≤ c ∧ c ≤ 1 := fun j c hc' => hc c (List.mem_of_mem_take hc')
  have ok : ∀ j, j ≤ k → okC R.toNat (cs.take j) := fun j hj => by
    have := (lay_iff (by omega) _ (sub j)).mp (h j hj) (cs.take j).length (Nat.le_refl _)
    rwa [List.take_length] at this
  refine ⟨k, rfl, hk, ok, fun z => ?_, rfl⟩
  refine (lay_iff (R := R.toNat) (by omega) _ (sub (k + 1))).mpr (fun j hj => ?_) h2
  rw [List.take_take]
  rw [List.length_take] at hj
  by_cases w : j ≤ k
  · rw [show min j (k + 1) = j by omega]; exact ok j w
  · rw [show min j (k + 1) = k + 1 by omega]; exact z
theorem obs_all {R : Int} (R1 : 1 ≤ R) {cs : List Int} (hc : ∀ c ∈ cs, -1 ≤ c ∧ c ≤ 1) (h : ∀ j, j ≤ cs.length → layS R.toNat (cs.take j) ≠ []) : ObsOk R cs none := fun j hj => by
  have := (lay_iff (R := R.toNat) (by omega) _ fun c hc' => hc c (List.mem_of_mem_take hc')).mp (h j hj) (cs.take j).length (Nat.le_refl _)
  rwa [List.take_length] at this
end Lw
set_option maxRecDepth 100000
set_option maxHeartbeats 1000000
namespace Lw
open PySem L2 Ds

def sp_is_integer : DSp := fun ts Q _ => ∃ d lo hi, ts = [.bor d, .dat (.int lo), .dat hi] ∧ (hi = .none ∨ ∃ h, hi = .int h) ∧ Q (.dat (.bool (isIntB d lo hi))) .emp

def ms_is_integer : List Md := [.bor, .dat, .dat]
def dn_is_integer (Wd : Exn → List T → Prop) : DS := (dSeq (dIfS ((dOrT (dNotT (tVal (dIsi ["int"] (dVar 0)))) (tVal (dIsi ["bool"] (dVar 0))))) (dRet (dC (.bool false))) dNext)
    (dRet ((dAndV (dOp dLe (dVar 1) (dVar 0)) ((dOrV (dOp dIsN (dVar 2) (dC .none)) (dOp dLe (dVar 0) (dVar 2))))))))
abbrev st_is_integer : Stmt := PySem.Challenge.pw_teesizes_k14_first_obstructions.main.body.getD 7 (.Pass ⟨0, 0, 0, 0⟩)
abbrev N_is_integer : List Str := ["value", "low", "high"]
theorem sc_is_integer : FnScope N_is_integer ["value", "low", "high"] (defScope st_is_integer) := ⟨rfl, rfl, rfl, by decide +kernel, rfl, by decide +kernel, by decide +kernel⟩
theorem dp_is_integer {P : Program} {w : World} {K : PySem.W.Frag} {mg : Str → Option Value} {base : Heap} {f : Addr} {cdv : Value} {A : Around} {os : List Env} {s : Shared} {H : Hp} {E : XK} {Wd : Exn → List T → Prop} {B0 : Addr → Prop} {o : List Addr} {vs : List V} (n_bool : mg "bool" = none) (n_int : mg "int" = none) (n_isinstance : mg "isinstance" = none)
    (hr : RoomG 0 (A.deeper (PyProof.Rows.envOfC "is_integer" (defScope st_is_integer) s.heap.objs.size f cdv))) (tk : DTk (ctxOf P w K mg base N_is_integer "is_integer" (defScope st_is_integer) f cdv A os s H E Wd B0 o none vs [])) :
    DPSs (ctxOf P w K mg base N_is_integer "is_integer" (defScope st_is_integer) f cdv A os s H E Wd B0 o none vs []) (defBody st_is_integer) (dn_is_integer Wd) :=
  have S := sc_is_integer
  (dss_cons (ds_if (DPW.t (dw_or (dt_not (dt_val (de_isi rfl n_isinstance (de_var 0 (nin_of rfl)) rfl n_int (by decide) PyProof.Rows.boot_int))) (dw_or1 (dt_val (de_isi rfl n_isinstance (de_var 0 (nin_of rfl)) rfl n_bool (by decide) PyProof.Rows.boot_bool))))) (dss_one (ds_ret de_bl)) dss_nil)
    (dss_one (ds_ret ((de_and (de_cmpD dc_le (de_var 1 (nin_of rfl)) (de_var 0 (nin_of rfl))) (de_one ((de_or (de_cmpD dc_isN (de_var 2 (nin_of rfl)) de_non) (de_one (de_cmpD dc_le (de_var 0 (nin_of rfl)) (de_var 2 (nin_of rfl))))))))))))
theorem law_is_integer (ts : List T) (Q : T → T → Prop) (W : Exn → T → Prop) (h : sp_is_integer ts Q W) : dn_is_integer (finX none W) (fin0 none Q) (slots0 3 ts) := by
  obtain ⟨d, lo, hi, rfl, hh, q⟩ := h
  cases d with
  | int i =>
    refine dSeq.mk (br_f rfl (br_f rfl ?_))
    rcases hh with rfl | ⟨h, rfl⟩
    · refine br_split (b := decide (lo ≤ i)) (fun e => br_t rfl ?_) (fun e => ?_)
      · simp only [isIntB, e] at q; exact q
      · simp only [isIntB, e] at q; exact q
    · refine br_split (b := decide (lo ≤ i)) (fun e => br_f rfl ?_) (fun e => ?_)
      · simp only [isIntB, e, Bool.true_and] at q; exact q
      · simp only [isIntB, e, Bool.false_and] at q; exact q
  | bool b => exact dSeq.mk (br_f rfl (br_t rfl (by rcases hh with rfl | ⟨h, rfl⟩ <;> exact q)))
  | _ => exact dSeq.mk (br_t rfl (br_t rfl (by rcases hh with rfl | ⟨h, rfl⟩ <;> exact q)))
theorem mono_is_integer : Mono sp_is_integer := fun ts R R' W W' hr _ ⟨d, lo, hi, e, h, q⟩ => ⟨d, lo, hi, e, h, hr _ _ q⟩

def sp_is_listed : DSp := fun ts Q _ => ∃ d, ts = [.bor d] ∧ Q (.dat (.bool (isLstB d))) .emp
theorem mono_is_listed : Mono sp_is_listed := fun ts R R' W W' hr _ ⟨d, e, q⟩ => ⟨d, e, hr _ _ q⟩

def ms_is_listed : List Md := [.bor]
def dn_is_listed (Wd : Exn → List T → Prop) : DS := (dRet (dIsi ["list", "tuple"] (dVar 0)))
abbrev st_is_listed : Stmt := PySem.Challenge.pw_teesizes_k14_first_obstructions.main.body.getD 8 (.Pass ⟨0, 0, 0, 0⟩)
abbrev N_is_listed : List Str := ["value"]
theorem sc_is_listed : FnScope N_is_listed ["value"] (defScope st_is_listed) := ⟨rfl, rfl, rfl, by decide +kernel, rfl, by decide +kernel, by decide +kernel⟩
theorem dp_is_listed {P : Program} {w : World} {K : PySem.W.Frag} {mg : Str → Option Value} {base : Heap} {f : Addr} {cdv : Value} {A : Around} {os : List Env} {s : Shared} {H : Hp} {E : XK} {Wd : Exn → List T → Prop} {B0 : Addr → Prop} {o : List Addr} {vs : List V} (n_isinstance : mg "isinstance" = none) (n_list : mg "list" = none) (n_tuple : mg "tuple" = none)
    (hr : RoomG 0 (A.deeper (PyProof.Rows.envOfC "is_listed" (defScope st_is_listed) s.heap.objs.size f cdv))) (tk : DTk (ctxOf P w K mg base N_is_listed "is_listed" (defScope st_is_listed) f cdv A os s H E Wd B0 o none vs [])) :
    DPSs (ctxOf P w K mg base N_is_listed "is_listed" (defScope st_is_listed) f cdv A os s H E Wd B0 o none vs []) (defBody st_is_listed) (dn_is_listed Wd) :=
  have S := sc_is_listed
  (dss_one (ds_ret (de_isi2 rfl n_isinstance (de_var 0 (nin_of rfl)) rfl n_list (by decide) PyProof.Rows.boot_list rfl n_tuple (by decide) PyProof.Rows.boot_tuple)))
theorem law_is_listed (ts : List T) (Q : T → T → Prop) (W : Exn → T → Prop) (h : sp_is_listed ts Q W) : dn_is_listed (finX none W) (fin0 none Q) (slots0 1 ts) := by
  obtain ⟨d, rfl, q⟩ := h
  cases d <;> exact q

def sp_is_change : DSp := fun ts Q _ => ∃ d, ts = [.bor d] ∧ Q (.dat (.bool (isIntB d (-1) (.int 1)))) .emp
theorem mono_is_change : Mono sp_is_change := fun ts R R' W W' hr _ ⟨d, e, q⟩ => ⟨d, e, hr _ _ q⟩

def ms_is_change : List Md := [.bor]
def dn_is_change (Wd : Exn → List T → Prop) : DS := (dRet (dCall ms_is_integer sp_is_integer Wd (dCons (dVar 0) (dCons (dUn dNeg (dC (.int 1))) (dCons (dC (.int 1)) dNil)))))
abbrev st_is_change : Stmt := PySem.Challenge.pw_teesizes_k14_first_obstructions.main.body.getD 9 (.Pass ⟨0, 0, 0, 0⟩)
abbrev N_is_change : List Str := ["value"]
theorem sc_is_change : FnScope N_is_change ["value"] (defScope st_is_change) := ⟨rfl, rfl, rfl, by decide +kernel, rfl, by decide +kernel, by decide +kernel⟩
theorem dp_is_change {P : Program} {w : World} {K : PySem.W.Frag} {mg : Str → Option Value} {base : Heap} {f : Addr} {cdv : Value} {A : Around} {os : List Env} {s : Shared} {H : Hp} {E : XK} {Wd : Exn → List T → Prop} {B0 : Addr → Prop} {o : List Addr} {vs : List V} (h_is_integer : Has P w K mg base "is_integer" 1 ["value", "low", "high"] ms_is_integer sp_is_integer)
    (hr : RoomG 1 (A.deeper (PyProof.Rows.envOfC "is_change" (defScope st_is_change) s.heap.objs.size f cdv))) (tk : DTk (ctxOf P w K mg base N_is_change "is_change" (defScope st_is_change) f cdv A os s H E Wd B0 o none vs [])) :
    DPSs (ctxOf P w K mg base N_is_change "is_change" (defScope st_is_change) f cdv A os s H E Wd B0 o none vs []) (defBody st_is_change) (dn_is_change Wd) :=
  have S := sc_is_change
  (dss_one (ds_ret (de_fn h_is_integer hr (by decide) tk rfl (da_cons (de_var 0 (nin_of rfl)) (da_cons (de_neg de_int) (da_cons de_int da_nil))))))
theorem law_is_change (ts : List T) (Q : T → T → Prop) (W : Exn → T → Prop) (h : sp_is_change ts Q W) : dn_is_change (finX none W) (fin0 none Q) (slots0 1 ts) := by
  obtain ⟨d, rfl, q⟩ := h
  exact ⟨⟨d, -1, .int 1, rfl, .inr ⟨_, rfl⟩, q⟩⟩

def sp_is_run : DSp := fun ts Q _ => ∃ d, ts = [.bor d] ∧ Q (.dat (.bool (isRunB d))) .emp
theorem mono_is_run : Mono sp_is_run := fun ts R R' W W' hr _ ⟨d, e, q⟩ => ⟨d, e, hr _ _ q⟩

def ms_is_run : List Md := [.bor]
def dn_is_run (Wd : Exn → List T → Prop) : DS := (dRet ((dAndV (dCall ms_is_listed sp_is_listed Wd (dCons (dVar 0) dNil)) (dAndV (dOp dEq (dCB dLen (dCons (dVar 0) dNil)) (dC (.int 2))) (dAndV (dCall ms_is_change sp_is_change Wd (dCons (dOp dIx (dVar 0) (dC (.int 0))) dNil)) (dCall ms_is_integer sp_is_integer Wd (dCons (dOp dIx (dVar 0) (dC (.int 1))) (dCons (dC (.int 1)) (dCons (dC (.int 1000000000000000000000000000000)) dNil)))))))))
abbrev st_is_run : Stmt := PySem.Challenge.pw_teesizes_k14_first_obstructions.main.body.getD 10 (.Pass ⟨0, 0, 0, 0⟩)
abbrev N_is_run : List Str := ["value"]
theorem sc_is_run : FnScope N_is_run ["value"] (defScope st_is_run) := ⟨rfl, rfl, rfl, by decide +kernel, rfl, by decide +kernel, by decide +kernel⟩
theorem dp_is_run {P : Program} {w : World} {K : PySem.W.Frag} {mg : Str → Option Value} {base : Heap} {f : Addr} {cdv : Value} {A : Around} {os : List Env} {s : Shared} {H : Hp} {E : XK} {Wd : Exn → List T → Prop} {B0 : Addr → Prop} {o : List Addr} {vs : List V} (n_len : mg "len" = none) (c_MAX_COUNT : HasC mg "MAX_COUNT" (.int 1000000000000000000000000000000)) (h_is_change : Has P w K mg base "is_change" 2 ["value"] ms_is_change sp_is_change) (h_is_integer : Has P w K mg base "is_integer" 1 ["value", "low", "high"] ms_is_integer sp_is_integer) (h_is_listed : Has P w K mg base "is_listed" 1 ["value"] ms_is_listed sp_is_listed)
    (hr : RoomG 2 (A.deeper (PyProof.Rows.envOfC "is_run" (defScope st_is_run) s.heap.objs.size f cdv))) (tk : DTk (ctxOf P w K mg base N_is_run "is_run" (defScope st_is_run) f cdv A os s H E Wd B0 o none vs [])) :
    DPSs (ctxOf P w K mg base N_is_run "is_run" (defScope st_is_run) f cdv A os s H E Wd B0 o none vs []) (defBody st_is_run) (dn_is_run Wd) :=
  have S := sc_is_run
  (dss_one (ds_ret ((de_and (de_fn h_is_listed hr (by decide) tk rfl (da_cons (de_var 0 (nin_of rfl)) da_nil)) (de_and (de_cmpD (dc_eq hr.units) (de_len rfl n_len (da_cons (de_var 0 (nin_of rfl)) da_nil)) de_int) (de_and (de_fn h_is_change hr (by decide) tk rfl (da_cons (de_ix (de_var 0 (nin_of rfl)) de_int) da_nil)) (de_one (de_fn h_is_integer hr (by decide) tk rfl (da_cons (de_ix (de_var 0 (nin_of rfl)) de_int) (da_cons de_int (da_cons (de_const c_MAX_COUNT rfl rfl) da_nil)))))))))))
theorem law_is_run (ts : List T) (Q : T → T → Prop) (W : Exn → T → Prop) (h : sp_is_run ts Q W) : dn_is_run (finX none W) (fin0 none Q) (slots0 1 ts) := by
  obtain ⟨d, rfl, q⟩ := h
  refine ⟨⟨d, rfl, ?_⟩⟩
  cases d with
  | list ds =>
    refine br_t rfl (And.intro rfl (And.intro rfl ?_))
    rcases ds with _ | ⟨c, _ | ⟨n, _ | ⟨x, ds⟩⟩⟩
    · exact br_f (b := PyData.eqv (.int _) (.int 2)) (by rw [eqv_int]; rfl) q
    · exact br_f (b := PyData.eqv (.int _) (.int 2)) (by rw [eqv_int]; rfl) q
    · refine br_t (b := PyData.eqv (.int _) (.int 2)) (by rw [eqv_int]; rfl) ⟨⟨c, rfl, br_split (b := isIntB c (-1) (.int 1)) (fun e => ?_) fun e => ?_⟩⟩
      · exact ⟨⟨n, 1, .int (1000000000000000000000000000000 : Int), rfl, .inr ⟨_, rfl⟩, by simp only [isRunB, e, Bool.true_and] at q; exact q⟩⟩
      · simp only [isRunB, e, Bool.false_and] at q; exact q
    · refine br_f (b := PyData.eqv (.int _) (.int 2)) ?_ q
      rw [eqv_int]; exact beq_false_of_ne (by simp only [List.length_cons]; omega)
  | tuple ds =>
    refine br_t rfl (And.intro rfl (And.intro rfl ?_))
    rcases ds with _ | ⟨c, _ | ⟨n, _ | ⟨x, ds⟩⟩⟩
    · exact br_f (b := PyData.eqv (.int _) (.int 2)) (by rw [eqv_int]; rfl) q
    · exact br_f (b := PyData.eqv (.int _) (.int 2)) (by rw [eqv_int]; rfl) q
    · refine br_t (b := PyData.eqv (.int _) (.int 2)) (by rw [eqv_int]; rfl) ⟨⟨c, rfl, br_split (b := isIntB c (-1) (.int 1)) (fun e => ?_) fun e => ?_⟩⟩
      · exact ⟨⟨n, 1, .int (1000000000000000000000000000000 : Int), rfl, .inr ⟨_, rfl⟩, by simp only [isRunB, e, Bool.true_and] at q; exact q⟩⟩
      · simp only [isRunB, e, Bool.false_and] at q; exact q
    · refine br_f (b := PyData.eqv (.int _) (.int 2)) ?_ q
      rw [eqv_int]; exact beq_false_of_ne (by simp only [List.length_cons]; omega)
  | _ => exact br_f rfl q

def sp_is_record : DSp := fun ts Q _ => ∃ d, ts = [.bor d] ∧ Q (.dat (.bool (isRecB d))) .emp
theorem mono_is_record : Mono sp_is_record := fun ts R R' W W' hr _ ⟨d, e, q⟩ => ⟨d, e, hr _ _ q⟩

def ms_is_record : List Md := [.bor]
def dn_is_record (Wd : Exn → List T → Prop) : DS := (dSeq (dIfS ((dOrT (dNotT (tVal (dCall ms_is_listed sp_is_listed Wd (dCons (dVar 0) dNil)))) (dOrT (tVal (dOp dGt (dCB dLen (dCons (dVar 0) dNil)) (dC (.int 400)))) (dNotT (tVal (dCB dAll (dCons (dLc (dSeqI (dVarF 0)) (Tgt.one 1).d dYes (dCall ms_is_run sp_is_run noW (dCons (dVarF 1) dNil)) [1]) dNil))))))) (dRet (dC (.bool false))) dNext)
    (dRet (dCB dAll (dCons (dLc (dZipI (dCons (dVarF 0) (dCons (dSl (dVar 0) (dPart (dC (.int 1))) dNoPart) dNil))) (Tgt.many [2, 3]).d dYes (dOp dNe (dOp dIx (dVarF 2) (dC (.int 0))) (dOp dIx (dVarF 3) (dC (.int 0)))) [2, 3]) dNil))))
abbrev st_is_record : Stmt := PySem.Challenge.pw_teesizes_k14_first_obstructions.main.body.getD 11 (.Pass ⟨0, 0, 0, 0⟩)
abbrev N_is_record : List Str := ["value", "run", "one", "other"]
theorem sc_is_record : FnScope N_is_record ["value"] (defScope st_is_record) := ⟨rfl, rfl, rfl, by decide +kernel, rfl, by decide +kernel, by decide +kernel⟩
theorem dp_is_record {P : Program} {w : World} {K : PySem.W.Frag} {mg : Str → Option Value} {base : Heap} {f : Addr} {cdv : Value} {A : Around} {os : List Env} {s : Shared} {H : Hp} {E : XK} {Wd : Exn → List T → Prop} {B0 : Addr → Prop} {o : List Addr} {vs : List V} (n_all : mg "all" = none) (n_len : mg "len" = none) (n_zip : mg "zip" = none) (c_MAX_RUNS : HasC mg "MAX_RUNS" (.int 400)) (h_is_listed : Has P w K mg base "is_listed" 1 ["value"] ms_is_listed sp_is_listed) (h_is_run : Has P w K mg base "is_run" 3 ["value"] ms_is_run sp_is_run)
    (hr : RoomG 3 (A.deeper (PyProof.Rows.envOfC "is_record" (defScope st_is_record) s.heap.objs.size f cdv))) (tk : DTk (ctxOf P w K mg base N_is_record "is_record" (defScope st_is_record) f cdv A os s H E Wd B0 o none vs [1, 2, 3])) :
    DPSs (ctxOf P w K mg base N_is_record "is_record" (defScope st_is_record) f cdv A os s H E Wd B0 o none vs [1, 2, 3]) (defBody st_is_record) (dn_is_record Wd) :=
  have S := sc_is_record
  (dss_cons (ds_if (DPW.t (dw_or (dt_not (dt_val (de_fn h_is_listed hr (by decide) tk rfl (da_cons (de_var 0 (nin_of rfl)) da_nil)))) (dw_or (dt_cmpD dc_gt (de_len rfl n_len (da_cons (de_var 0 (nin_of rfl)) da_nil)) (de_const c_MAX_RUNS rfl rfl)) (dw_or1 (dt_not (dt_val (de_all rfl n_all rfl (da_cons (de_lc rfl S.nd (own := [(("run" : Str), 1)]) (tg := (Tgt.one 1)) (di_seq (de_varF 0)) (blk_of (N := N_is_record) (sc := defScope st_is_record) (by decide +kernel)) (tgt_one S.nd rfl (Or.inl rfl) rfl) (fun _ _ _ _ _ => dts_nil) (fun _ _ _ _ _ => (de_fn h_is_run hr (by decide) tk_blk rfl (da_cons (de_varF 1) da_nil))) (by decide) (own_of rfl)) da_nil)))))))) (dss_one (ds_ret de_bl)) dss_nil)
    (dss_one (ds_ret (de_all rfl n_all rfl (da_cons (de_lc rfl S.nd (own := [(("one" : Str), 2), (("other" : Str), 3)]) (tg := (Tgt.many [2, 3])) (di_zip rfl n_zip (da_cons (de_varF 0) (da_cons (de_slice (de_var 0 (nin_of rfl)) (do_some de_int) do_none) da_nil))) (blk_of (N := N_is_record) (sc := defScope st_is_record) (by decide +kernel)) (tgt_many rfl S.nd (.cons rfl (Or.inl rfl) rfl (.cons rfl (Or.inl rfl) rfl .nil))) (fun _ _ _ _ _ => dts_nil) (fun _ _ _ _ _ => (de_cmpD (dc_ne hr.units) (de_ix (de_varF 2) de_int) (de_ix (de_varF 3) de_int))) (by decide) (own_of rfl)) da_nil)))))
theorem rec_items (ds : List D) (d : D) {K : List D → List T → Prop} (hl : ds.length ≤ 400) (h : K (ds.map fun x => .bool (isRunB x)) [.bor d, .emp, .emp, .emp]) :
    dLcGo (dgName 1) dYes (dCall ms_is_run sp_is_run noW (dCons (dVarF 1) dNil)) [1] K (ds.map .bor) [] [.bor d, .emp, .emp, .emp] := by
  refine lc_mp ds .bor (fun x => .bool (isRunB x)) rfl (Nat.le_trans hl (by decide)) (fun _ _ => rfl) (fun x hx P hp => ?_) h
  exact ⟨⟨x, rfl, hp _ rfl⟩⟩
theorem rec_pairs (ds : List D) (d : D) {K : List D → List T → Prop} (hl : ds.length ≤ 400) (ha : ds.all isRunB = true) (h : K ((ds.zip (ds.drop 1)).map fun p => .bool (!PyData.eqv (runFst p.1) (runFst p.2))) [.bor d, .emp, .emp, .emp]) :
    dLcGo (Tgt.many [2, 3]).d dYes (dOp dNe (dOp dIx (dVarF 2) (dC (.int 0))) (dOp dIx (dVarF 3) (dC (.int 0)))) [2, 3] K (zipT (ds.map .bor) ((cut ds (some 1) none).map .bor)) [] [.bor d, .emp, .emp, .emp] := by
  have e : zipT (ds.map .bor) ((cut ds (some 1) none).map .bor) = (ds.zip (ds.drop 1)).map fun p => T.tup [.bor p.1, .bor p.2] := by
    rw [show cut ds (some 1) none = _ from cut_from ds 1]
    unfold zipT
    rw [List.zip_map, List.map_map]
    rfl
  rw [e]
  refine lc_mp2 _ _ (fun p => .bor p.1) (fun p => .bor p.2) _ rfl (by decide) ?_ (fun _ _ => ⟨rfl, rfl, rfl, rfl⟩) (fun p hp P hP => ?_) h
  · refine Nat.le_trans ?_ (show 400 ≤ sizeLine by decide)
    rw [List.length_zip]; omega
  · obtain ⟨a, b⟩ := p
    have h1 := List.of_mem_zip hp
    rw [List.all_eq_true] at ha
    obtain ⟨c1, n1, z1, _⟩ := isRun_inv (ha a h1.1)
    obtain ⟨c2, n2, z2, _⟩ := isRun_inv (ha b (List.mem_of_mem_drop h1.2))
    rcases z1 with rfl | rfl <;> rcases z2 with rfl | rfl <;> exact And.intro rfl (And.intro rfl (hP _ rfl))
theorem law_is_record (ts : List T) (Q : T → T → Prop) (W : Exn → T → Prop) (h : sp_is_record ts Q W) : dn_is_record (finX none W) (fin0 none Q) (slots0 4 ts) := by
  obtain ⟨d, rfl, q⟩ := h
  refine dSeq.mk ⟨⟨d, rfl, ?_⟩⟩
  have go : ∀ ds : List D, (isRecB d = recL ds) → ds.length ≤ 400 → ∀ (c : Bool), c = ds.all isRunB → (c = true → Q (.dat (.bool (chainB ds))) .emp) ∧ (c = false → Q (.dat (.bool false)) .emp) := by
    intro ds e hl c hc
    rw [e] at q
    simp only [recL, decide_eq_true hl, Bool.true_and, ← hc] at q
    exact ⟨fun z => by rw [z, Bool.true_and] at q; exact q, fun z => by rw [z, Bool.false_and] at q; exact q⟩
  have bs : ∀ ds : List D, (ds.map fun x => PyData.bool (isRunB x)) = (ds.map isRunB).map .bool := fun ds => by rw [List.map_map]; rfl
  have bs2 : ∀ l : List (D × D), (l.map fun p => PyData.bool (!PyData.eqv (runFst p.1) (runFst p.2))) = (l.map fun p => !PyData.eqv (runFst p.1) (runFst p.2)).map .bool := fun ds => by rw [List.map_map]; rfl
  have long : ∀ ds : List D, isRecB d = recL ds → decide ((400 : Int) < (ds.length : Int)) = true → Q (.dat (.bool false)) .emp := fun ds e z => by
    rw [e] at q
    simp only [recL, decide_eq_false (show ¬ ds.length ≤ 400 by have := of_decide_eq_true z; omega), Bool.false_and] at q
    exact q
  cases d with
  | list ds =>
    refine br_f rfl (br_split (b := decide ((400 : Int) < (ds.length : Int))) (fun z => br_t rfl (long ds rfl z)) fun z => ?_)
    have hl : ds.length ≤ 400 := by have := of_decide_eq_false z; omega
    obtain ⟨g1, g2⟩ := go ds rfl hl _ rfl
    refine rec_items ds _ hl ⟨ds.map isRunB, by rw [bs]; rfl, br_split (b := !(ds.map isRunB).all id) (fun z => ?_) fun z => ?_⟩
    · exact g2 (by rw [List.all_map] at z; simpa using z)
    · have ha : ds.all isRunB = true := by rw [List.all_map] at z; simpa using z
      refine And.intro rfl (rec_pairs ds _ hl ha ⟨_, by rw [bs2]; rfl, ?_⟩)
      have w := g1 ha; rw [← chain_zip] at w; exact w
  | tuple ds =>
    refine br_f rfl (br_split (b := decide ((400 : Int) < (ds.length : Int))) (fun z => br_t rfl (long ds rfl z)) fun z => ?_)
    have hl : ds.length ≤ 400 := by have := of_decide_eq_false z; omega
    obtain ⟨g1, g2⟩ := go ds rfl hl _ rfl
    refine rec_items ds _ hl ⟨ds.map isRunB, by rw [bs]; rfl, br_split (b := !(ds.map isRunB).all id) (fun z => ?_) fun z => ?_⟩
    · exact g2 (by rw [List.all_map] at z; simpa using z)
    · have ha : ds.all isRunB = true := by rw [List.all_map] at z; simpa using z
      refine And.intro rfl (rec_pairs ds _ hl ha ⟨_, by rw [bs2]; rfl, ?_⟩)
      have w := g1 ha; rw [← chain_zip] at w; exact w
  | _ => exact br_t rfl (br_t rfl q)

def sp_checked_record : DSp := fun ts Q _ => ∃ (d : D) (ds : List D) (rs : List (Int × Int)), ts = [.bor d] ∧ (d = .list ds ∨ d = .tuple ds) ∧ RLk ds rs ∧ Runs 400 (1000000000000000000000000000000 : Int) rs ∧ Q (.own (rs.map drun)) .emp
theorem mono_checked_record : Mono sp_checked_record := fun ts R R' W W' hr _ ⟨d, ds, rs, e, h1, h2, h3, q⟩ => ⟨d, ds, rs, e, h1, h2, h3, hr _ _ q⟩
def toTup : D → D
  | .list ds => .tuple ds
  | d => d
theorem rlk_tup : ∀ {ds : List D} {rs : List (Int × Int)}, RLk ds rs → ds.map toTup = rs.map drun
  | [], [], _ => rfl
  | d :: ds, p :: rs, h => by
    rw [List.map_cons, List.map_cons, rlk_tup h.2]
    rcases h.1 with rfl | rfl <;> rfl
  | [], _ :: _, h => h.elim
  | _ :: _, [], h => h.elim
theorem rlk_each : ∀ {ds : List D} {rs : List (Int × Int)}, RLk ds rs → ∀ d ∈ ds, ∃ p : Int × Int, d = .list [.int p.1, .int p.2] ∨ d = .tuple [.int p.1, .int p.2]
  | [], [], _, d, hd => by simp at hd
  | d :: ds, p :: rs, h, x, hx => by
    rcases List.mem_cons.mp hx with rfl | hx
    · exact ⟨p, h.1⟩
    · exact rlk_each h.2 x hx
  | [], _ :: _, h, _, _ => h.elim
  | _ :: _, [], h, _, _ => h.elim
theorem use_checked {d : D} {ds : List D} {rs : List (Int × Int)} {Q : T → T → Prop} {W : Exn → T → Prop} (h1 : d = .list ds ∨ d = .tuple ds) (h2 : RLk ds rs) (h3 : Runs 400 (1000000000000000000000000000000 : Int) rs) (q : Q (.own (rs.map drun)) .emp) : Spc sp_checked_record [.bor d] Q W := ⟨⟨d, ds, rs, rfl, h1, h2, h3, q⟩⟩

def ms_checked_record : List Md := [.bor]
def dn_checked_record (Wd : Exn → List T → Prop) : DS := (dSeq (dIfS (dNotT (tVal (dCall ms_is_record sp_is_record Wd (dCons (dVar 0) dNil)))) dNever dNext)
    (dRet (dLc (dSeqI (dVarF 0)) (Tgt.one 1).d dYes (dCB dTupOf (dCons (dVarF 1) dNil)) [1])))
abbrev st_checked_record : Stmt := PySem.Challenge.pw_teesizes_k14_first_obstructions.main.body.getD 12 (.Pass ⟨0, 0, 0, 0⟩)
abbrev N_checked_record : List Str := ["value", "run"]
theorem sc_checked_record : FnScope N_checked_record ["value"] (defScope st_checked_record) := ⟨rfl, rfl, rfl, by decide +kernel, rfl, by decide +kernel, by decide +kernel⟩
theorem dp_checked_record {P : Program} {w : World} {K : PySem.W.Frag} {mg : Str → Option Value} {base : Heap} {f : Addr} {cdv : Value} {A : Around} {os : List Env} {s : Shared} {H : Hp} {E : XK} {Wd : Exn → List T → Prop} {B0 : Addr → Prop} {o : List Addr} {vs : List V} (n_tuple : mg "tuple" = none) (h_is_record : Has P w K mg base "is_record" 4 ["value"] ms_is_record sp_is_record)
    (hr : RoomG 4 (A.deeper (PyProof.Rows.envOfC "checked_record" (defScope st_checked_record) s.heap.objs.size f cdv))) (tk : DTk (ctxOf P w K mg base N_checked_record "checked_record" (defScope st_checked_record) f cdv A os s H E Wd B0 o none vs [1])) :
    DPSs (ctxOf P w K mg base N_checked_record "checked_record" (defScope st_checked_record) f cdv A os s H E Wd B0 o none vs [1]) (defBody st_checked_record) (dn_checked_record Wd) :=
  have S := sc_checked_record
  (dss_cons (ds_if (dt_not (dt_val (de_fn h_is_record hr (by decide) tk rfl (da_cons (de_var 0 (nin_of rfl)) da_nil)))) (dss_one ds_never) dss_nil)
    (dss_one (ds_ret (de_lc rfl S.nd (own := [(("run" : Str), 1)]) (tg := (Tgt.one 1)) (di_seq (de_varF 0)) (blk_of (N := N_checked_record) (sc := defScope st_checked_record) (by decide +kernel)) (tgt_one S.nd rfl (Or.inl rfl) rfl) (fun _ _ _ _ _ => dts_nil) (fun _ _ _ _ _ => (de_tupOf rfl n_tuple (da_cons (de_varF 1) da_nil))) (by decide) (own_of rfl)))))
theorem law_checked_record (ts : List T) (Q : T → T → Prop) (W : Exn → T → Prop) (h : sp_checked_record ts Q W) : dn_checked_record (finX none W) (fin0 none Q) (slots0 2 ts) := by
  obtain ⟨d, ds, rs, rfl, hd, hk, hr, q⟩ := h
  have e0 := rlk_rec hk hr (Nat.le_refl _) (Int.le_refl _)
  have e1 : isRecB d = true := by rcases hd with rfl | rfl <;> exact e0
  refine dSeq.mk ⟨⟨d, rfl, ?_⟩⟩
  rw [e1]
  refine br_f rfl ?_
  have hl : ds.length ≤ 400 := by have := rlk_len hk; have := hr.len; omega
  have go : dLcGo (dgName 1) dYes (dCB dTupOf (dCons (dVarF 1) dNil)) [1] (fun ds ρ2 => retT (fin0 none Q).rt (.own ds) ρ2) (ds.map .bor) [] [.bor d, .emp] := by
    refine lc_mp ds _ toTup rfl (Nat.le_trans hl (by decide)) (fun _ _ => rfl) (fun x hx P hP => ?_) ?_
    · obtain ⟨p, hp⟩ := rlk_each hk x hx
      rcases hp with rfl | rfl <;> exact hP _ rfl
    · rw [rlk_tup hk]; exact q
  rcases hd with rfl | rfl <;> exact go

def aftD (a b c d x n : Int) : D := .tuple [.int (a + n), .int (if x = 1 then b + n else b), .int (if x = 0 then c + n else c), .int (if x = -1 then d + n else d)]
def sp_after_run : DSp := fun ts Q _ => ∃ a b c d x n : Int, ts = [.bor (.tuple [.int a, .int b, .int c, .int d]), .dat (.int x), .dat (.int n)] ∧ (-1 ≤ x ∧ x ≤ 1) ∧ Q (.dat (aftD a b c d x n)) .emp
theorem mono_after_run : Mono sp_after_run := fun ts R R' W W' hr _ ⟨a, b, c, d, x, n, e, h, q⟩ => ⟨a, b, c, d, x, n, e, h, hr _ _ q⟩
theorem use_after {a b c d x n : Int} {Q : T → T → Prop} {W : Exn → T → Prop} (h : -1 ≤ x ∧ x ≤ 1) (q : Q (.dat (aftD a b c d x n)) .emp) : Spc sp_after_run [.bor (.tuple [.int a, .int b, .int c, .int d]), .dat (.int x), .dat (.int n)] Q W := ⟨⟨a, b, c, d, x, n, rfl, h, q⟩⟩

def ms_after_run : List Md := [.bor, .dat, .dat]
def dn_after_run (Wd : Exn → List T → Prop) : DS := (dSeq (dAsg (dVarF 0) (dgTup 4 (dgCons (dgName 3) (dgCons (dgName 4) (dgCons (dgName 5) (dgCons (dgName 6) dgNil))))))
    (dSeq (dIfS (tVal (dOp dEq (dVar 1) (dC (.int 1)))) (dRet (dTup (dCons (dOp dAdd (dVar 3) (dVar 2)) (dCons (dOp dAdd (dVar 4) (dVar 2)) (dCons (dVarF 5) (dCons (dVarF 6) dNil)))))) dNext)
    (dSeq (dIfS (tVal (dOp dEq (dVar 1) (dC (.int 0)))) (dRet (dTup (dCons (dOp dAdd (dVar 3) (dVar 2)) (dCons (dVarF 4) (dCons (dOp dAdd (dVar 5) (dVar 2)) (dCons (dVarF 6) dNil)))))) dNext)
    (dRet (dTup (dCons (dOp dAdd (dVar 3) (dVar 2)) (dCons (dVarF 4) (dCons (dVarF 5) (dCons (dOp dAdd (dVar 6) (dVar 2)) dNil)))))))))
abbrev st_after_run : Stmt := PySem.Challenge.pw_teesizes_k14_first_obstructions.main.body.getD 19 (.Pass ⟨0, 0, 0, 0⟩)
abbrev N_after_run : List Str := ["totals", "change", "count", "reads", "increases", "zeros", "decreases"]
theorem sc_after_run : FnScope N_after_run ["totals", "change", "count"] (defScope st_after_run) := ⟨rfl, rfl, rfl, by decide +kernel, rfl, by decide +kernel, by decide +kernel⟩
theorem dp_after_run {P : Program} {w : World} {K : PySem.W.Frag} {mg : Str → Option Value} {base : Heap} {f : Addr} {cdv : Value} {A : Around} {os : List Env} {s : Shared} {H : Hp} {E : XK} {Wd : Exn → List T → Prop} {B0 : Addr → Prop} {o : List Addr} {vs : List V} 
    (hr : RoomG 0 (A.deeper (PyProof.Rows.envOfC "after_run" (defScope st_after_run) s.heap.objs.size f cdv))) (tk : DTk (ctxOf P w K mg base N_after_run "after_run" (defScope st_after_run) f cdv A os s H E Wd B0 o none vs [])) :
    DPSs (ctxOf P w K mg base N_after_run "after_run" (defScope st_after_run) f cdv A os s H E Wd B0 o none vs []) (defBody st_after_run) (dn_after_run Wd) :=
  have S := sc_after_run
  (dss_cons (ds_asg (de_varF 0) (dg_tup rfl (dgs_cons (dg_name S.nd (i := 3) rfl (Or.inl rfl) (nin_of rfl)) (dgs_cons (dg_name S.nd (i := 4) rfl (Or.inl rfl) (nin_of rfl)) (dgs_cons (dg_name S.nd (i := 5) rfl (Or.inl rfl) (nin_of rfl)) (dgs_cons (dg_name S.nd (i := 6) rfl (Or.inl rfl) (nin_of rfl)) dgs_nil))))))
    (dss_cons (ds_if (dt_cmpD (dc_eq hr.units) (de_var 1 (nin_of rfl)) de_int) (dss_one (ds_ret (de_tup (da_cons (de_add (de_var 3 (nin_of rfl)) (de_var 2 (nin_of rfl))) (da_cons (de_add (de_var 4 (nin_of rfl)) (de_var 2 (nin_of rfl))) (da_cons (de_varF 5) (da_cons (de_varF 6) da_nil))))))) dss_nil)
    (dss_cons (ds_if (dt_cmpD (dc_eq hr.units) (de_var 1 (nin_of rfl)) de_int) (dss_one (ds_ret (de_tup (da_cons (de_add (de_var 3 (nin_of rfl)) (de_var 2 (nin_of rfl))) (da_cons (de_varF 4) (da_cons (de_add (de_var 5 (nin_of rfl)) (de_var 2 (nin_of rfl))) (da_cons (de_varF 6) da_nil))))))) dss_nil)
    (dss_one (ds_ret (de_tup (da_cons (de_add (de_var 3 (nin_of rfl)) (de_var 2 (nin_of rfl))) (da_cons (de_varF 4) (da_cons (de_varF 5) (da_cons (de_add (de_var 6 (nin_of rfl)) (de_var 2 (nin_of rfl))) da_nil))))))))))
theorem law_after_run (ts : List T) (Q : T → T → Prop) (W : Exn → T → Prop) (h : sp_after_run ts Q W) : dn_after_run (finX none W) (fin0 none Q) (slots0 7 ts) := by
  obtain ⟨a, b, c, d, x, n, rfl, hx, q⟩ := h
  refine dSeq.mk (And.intro rfl (dSeq.mk (And.intro rfl (And.intro rfl ?_))))
  rcases (by omega : x = 1 ∨ x = 0 ∨ x = -1) with rfl | rfl | rfl
  · exact br_t (by rw [eqv_int]; rfl) q
  · exact br_f (by rw [eqv_int]; rfl) (dSeq.mk (And.intro rfl (And.intro rfl (br_t (by rw [eqv_int]; rfl) q))))
  · exact br_f (by rw [eqv_int]; rfl) (dSeq.mk (And.intro rfl (And.intro rfl (br_f (by rw [eqv_int]; rfl) q))))

def sp_check_many_readers : DSp := fun ts Q _ => ∃ R : Int, ts = [.bor (.int R)] ∧ 1 ≤ R ∧ R ≤ TOPN ∧ Q (.dat .none) .emp
theorem mono_check_many_readers : Mono sp_check_many_readers := fun ts R R' W W' hr _ ⟨r, e, h1, h2, q⟩ => ⟨r, e, h1, h2, hr _ _ q⟩
theorem use_many {R : Int} {Q : T → T → Prop} {W : Exn → T → Prop} (h1 : 1 ≤ R) (h2 : R ≤ TOPN) (q : Q (.dat .none) .emp) : Spc sp_check_many_readers [.bor (.int R)] Q W := ⟨⟨R, rfl, h1, h2, q⟩⟩

def ms_check_many_readers : List Md := [.bor]
def dn_check_many_readers (Wd : Exn → List T → Prop) : DS := (dIfS (dNotT (tVal (dCall ms_is_integer sp_is_integer Wd (dCons (dVar 0) (dCons (dC (.int 1)) (dCons (dC (.int 1000000000000000000000000000000000000000)) dNil)))))) dNever dNext)
abbrev st_check_many_readers : Stmt := PySem.Challenge.pw_teesizes_k14_first_obstructions.main.body.getD 20 (.Pass ⟨0, 0, 0, 0⟩)
abbrev N_check_many_readers : List Str := ["readers"]
theorem sc_check_many_readers : FnScope N_check_many_readers ["readers"] (defScope st_check_many_readers) := ⟨rfl, rfl, rfl, by decide +kernel, rfl, by decide +kernel, by decide +kernel⟩
theorem dp_check_many_readers {P : Program} {w : World} {K : PySem.W.Frag} {mg : Str → Option Value} {base : Heap} {f : Addr} {cdv : Value} {A : Around} {os : List Env} {s : Shared} {H : Hp} {E : XK} {Wd : Exn → List T → Prop} {B0 : Addr → Prop} {o : List Addr} {vs : List V} (c_MOST_NUMBER : HasC mg "MOST_NUMBER" (.int 1000000000000000000000000000000000000000)) (h_is_integer : Has P w K mg base "is_integer" 1 ["value", "low", "high"] ms_is_integer sp_is_integer)
    (hr : RoomG 1 (A.deeper (PyProof.Rows.envOfC "check_many_readers" (defScope st_check_many_readers) s.heap.objs.size f cdv))) (tk : DTk (ctxOf P w K mg base N_check_many_readers "check_many_readers" (defScope st_check_many_readers) f cdv A os s H E Wd B0 o none vs [])) :
    DPSs (ctxOf P w K mg base N_check_many_readers "check_many_readers" (defScope st_check_many_readers) f cdv A os s H E Wd B0 o none vs []) (defBody st_check_many_readers) (dn_check_many_readers Wd) :=
  have S := sc_check_many_readers
  (dss_one (ds_if (dt_not (dt_val (de_fn h_is_integer hr (by decide) tk rfl (da_cons (de_var 0 (nin_of rfl)) (da_cons de_int (da_cons (de_const c_MOST_NUMBER rfl rfl) da_nil)))))) (dss_one ds_never) dss_nil))
theorem law_check_many_readers (ts : List T) (Q : T → T → Prop) (W : Exn → T → Prop) (h : sp_check_many_readers ts Q W) : dn_check_many_readers (finX none W) (fin0 none Q) (slots0 1 ts) := by
  obtain ⟨R, rfl, h1, h2, q⟩ := h
  refine ⟨⟨.int R, 1, .int 1000000000000000000000000000000000000000, rfl, .inr ⟨_, rfl⟩, ?_⟩⟩
  have e : isIntB (.int R) 1 (.int 1000000000000000000000000000000000000000) = true := by simp only [isIntB, decide_eq_true h1]; exact decide_eq_true h2
  rw [e]
  exact br_f rfl q

def wrT : Option (Str × Int) → D
  | none => .none
  | some p => .tuple [.str p.1, .int p.2]
def sp_wrong_read : DSp := fun ts Q _ => ∃ (R x a u z d : Int), ts = [.bor (.int R), .bor (.tuple [.int a, .int u, .int z, .int d]), .bor (.int x)] ∧ (1 ≤ R ∧ R ≤ TOPN) ∧ (0 ≤ u ∧ u < 2 ^ 110) ∧ (-1 ≤ x ∧ x ≤ 1) ∧ Q (.dat (wrT (wrD R u z d x))) .emp
theorem mono_wrong_read : Mono sp_wrong_read := fun ts R R' W W' hr _ ⟨R0, x, a, u, z, d, e, h1, h2, h3, q⟩ => ⟨R0, x, a, u, z, d, e, h1, h2, h3, hr _ _ q⟩

def ms_wrong_read : List Md := [.bor, .bor, .bor]
def dn_wrong_read (Wd : Exn → List T → Prop) : DS := (dSeq (dAsg (dVarF 1) (dgTup 4 (dgCons (dgName 3) (dgCons (dgName 4) (dgCons (dgName 5) (dgCons (dgName 6) dgNil))))))
    (dSeq (dAsg (dOp dSub (dVar 0) (dC (.int 2))) (dgName 7))
    (dSeq (dIfS (tVal (dOp dEq (dVar 0) (dC (.int 1)))) (dRet (dIf (tVal (dOp dNe (dVar 2) (dC (.int 0)))) (dTup (dCons (dC (.str ("single" : Str))) (dCons (dC (.int 1)) dNil))) (dC .none))) dNext)
    (dSeq (dIfS ((dAndT (tVal (dOp dEq (dVar 0) (dC (.int 2)))) (tVal (dOp dEq (dVar 2) (dC (.int 0)))))) (dRet (dTup (dCons (dC (.str ("two" : Str))) (dCons (dC (.int 1)) dNil)))) dNext)
    (dSeq (dIfS ((dAndT (tVal (dOp dEq (dVar 0) (dC (.int 2)))) (tVal (dOp dEq (dVar 2) (dUn dNeg (dC (.int 1))))))) (dRet (dTup (dCons (dC (.str ("two" : Str))) (dCons (dOp dAdd (dOp dSub (dVar 4) (dVar 6)) (dC (.int 1))) dNil)))) dNext)
    (dSeq (dIfS ((dAndT (tVal (dOp dGt (dVar 0) (dC (.int 2)))) (tVal (dOp dEq (dVar 2) (dC (.int 0)))))) (dRet (dTup (dCons (dC (.str ("few" : Str))) (dCons (dOp dAdd (dOp dSub (dOp dMul (dVar 7) (dVar 4)) (dVar 5)) (dC (.int 1))) dNil)))) dNext)
    (dSeq (dIfS ((dAndT (tVal (dOp dGt (dVar 0) (dC (.int 2)))) (tVal (dOp dEq (dVar 2) (dUn dNeg (dC (.int 1))))))) (dRet (dTup (dCons (dC (.str ("many" : Str))) (dCons (dOp dAdd (dOp dSub (dOp dFdiv (dVar 5) (dVar 7)) (dVar 6)) (dC (.int 1))) dNil)))) dNext)
    (dRet (dC .none)))))))))
abbrev st_wrong_read : Stmt := PySem.Challenge.pw_teesizes_k14_first_obstructions.main.body.getD 21 (.Pass ⟨0, 0, 0, 0⟩)
abbrev N_wrong_read : List Str := ["readers", "totals", "change", "reads", "increases", "zeros", "decreases", "middle"]
theorem sc_wrong_read : FnScope N_wrong_read ["readers", "totals", "change"] (defScope st_wrong_read) := ⟨rfl, rfl, rfl, by decide +kernel, rfl, by decide +kernel, by decide +kernel⟩
theorem dp_wrong_read {P : Program} {w : World} {K : PySem.W.Frag} {mg : Str → Option Value} {base : Heap} {f : Addr} {cdv : Value} {A : Around} {os : List Env} {s : Shared} {H : Hp} {E : XK} {Wd : Exn → List T → Prop} {B0 : Addr → Prop} {o : List Addr} {vs : List V} (c_FEW : HasC mg "FEW" (.str ("few" : Str))) (c_MANY : HasC mg "MANY" (.str ("many" : Str))) (c_SINGLE : HasC mg "SINGLE" (.str ("single" : Str))) (c_TWO : HasC mg "TWO" (.str ("two" : Str)))
    (hr : RoomG 0 (A.deeper (PyProof.Rows.envOfC "wrong_read" (defScope st_wrong_read) s.heap.objs.size f cdv))) (tk : DTk (ctxOf P w K mg base N_wrong_read "wrong_read" (defScope st_wrong_read) f cdv A os s H E Wd B0 o none vs [])) :
    DPSs (ctxOf P w K mg base N_wrong_read "wrong_read" (defScope st_wrong_read) f cdv A os s H E Wd B0 o none vs []) (defBody st_wrong_read) (dn_wrong_read Wd) :=
  have S := sc_wrong_read
  (dss_cons (ds_asg (de_varF 1) (dg_tup rfl (dgs_cons (dg_name S.nd (i := 3) rfl (Or.inl rfl) (nin_of rfl)) (dgs_cons (dg_name S.nd (i := 4) rfl (Or.inl rfl) (nin_of rfl)) (dgs_cons (dg_name S.nd (i := 5) rfl (Or.inl rfl) (nin_of rfl)) (dgs_cons (dg_name S.nd (i := 6) rfl (Or.inl rfl) (nin_of rfl)) dgs_nil))))))
    (dss_cons (ds_set S.nd (i := 7) rfl (Or.inl rfl) (nin_of rfl) (de_sub (de_var 0 (nin_of rfl)) de_int))
    (dss_cons (ds_if (dt_cmpD (dc_eq hr.units) (de_var 0 (nin_of rfl)) de_int) (dss_one (ds_ret (de_if (dt_cmpD (dc_ne hr.units) (de_var 2 (nin_of rfl)) de_int) (de_tup (da_cons (de_const c_SINGLE rfl rfl) (da_cons de_int da_nil))) de_non))) dss_nil)
    (dss_cons (ds_if (DPW.t (dw_and (dt_cmpD (dc_eq hr.units) (de_var 0 (nin_of rfl)) de_int) (dw_and1 (dt_cmpD (dc_eq hr.units) (de_var 2 (nin_of rfl)) de_int)))) (dss_one (ds_ret (de_tup (da_cons (de_const c_TWO rfl rfl) (da_cons de_int da_nil))))) dss_nil)
    (dss_cons (ds_if (DPW.t (dw_and (dt_cmpD (dc_eq hr.units) (de_var 0 (nin_of rfl)) de_int) (dw_and1 (dt_cmpD (dc_eq hr.units) (de_var 2 (nin_of rfl)) (de_neg de_int))))) (dss_one (ds_ret (de_tup (da_cons (de_const c_TWO rfl rfl) (da_cons (de_add (de_sub (de_var 4 (nin_of rfl)) (de_var 6 (nin_of rfl))) de_int) da_nil))))) dss_nil)
    (dss_cons (ds_if (DPW.t (dw_and (dt_cmpD dc_gt (de_var 0 (nin_of rfl)) de_int) (dw_and1 (dt_cmpD (dc_eq hr.units) (de_var 2 (nin_of rfl)) de_int)))) (dss_one (ds_ret (de_tup (da_cons (de_const c_FEW rfl rfl) (da_cons (de_add (de_sub (de_mul (de_var 7 (nin_of rfl)) (de_var 4 (nin_of rfl))) (de_var 5 (nin_of rfl))) de_int) da_nil))))) dss_nil)
    (dss_cons (ds_if (DPW.t (dw_and (dt_cmpD dc_gt (de_var 0 (nin_of rfl)) de_int) (dw_and1 (dt_cmpD (dc_eq hr.units) (de_var 2 (nin_of rfl)) (de_neg de_int))))) (dss_one (ds_ret (de_tup (da_cons (de_const c_MANY rfl rfl) (da_cons (de_add (de_sub (de_fdiv (de_var 5 (nin_of rfl)) (de_var 7 (nin_of rfl))) (de_var 6 (nin_of rfl))) de_int) da_nil))))) dss_nil)
    (dss_one (ds_ret de_non)))))))))
theorem law_wrong_read (ts : List T) (Q : T → T → Prop) (W : Exn → T → Prop) (h : sp_wrong_read ts Q W) : dn_wrong_read (finX none W) (fin0 none Q) (slots0 8 ts) := by
  obtain ⟨R, x, a, u, z, d, rfl, ⟨R1, R2⟩, hu, hx, q⟩ := h
  have R3 : R ≤ 1000000000000000000000000000000000000000 := R2
  have i0 : ∀ {a b : Int}, PyData.eqv (.int a) (.int b) = true → a = b := fun e => by rw [eqv_int] at e; simpa using e
  have i1 : ∀ {a b : Int}, PyData.eqv (.int a) (.int b) = false → a ≠ b := fun e => by rw [eqv_int] at e; simpa using e
  have i2 : ∀ {a b : Int}, (!PyData.eqv (.int a) (.int b)) = true → a ≠ b := fun e => by rw [eqv_int] at e; simpa using e
  have i3 : ∀ {a b : Int}, (!PyData.eqv (.int a) (.int b)) = false → a = b := fun e => by rw [eqv_int] at e; simpa using e
  unfold wrD at q
  refine dSeq.mk (And.intro rfl (dSeq.mk (dSeq.mk ?_)))
  refine And.intro rfl (And.intro rfl (br_split (b := PyData.eqv (.int R) (.int 1)) (fun e => ?_) fun e => ?_))
  · rw [if_pos (i0 e)] at q
    refine And.intro rfl (And.intro rfl (br_split (b := !PyData.eqv (.int x) (.int 0)) (fun e2 => ?_) fun e2 => ?_))
    · rw [if_neg (i2 e2)] at q; exact q
    · rw [if_pos (i3 e2)] at q; exact q
  rw [if_neg (i1 e)] at q
  have r1 := i1 e
  refine (show dSeq _ _ _ [.bor (.int R), .bor (.tuple [.int a, .int u, .int z, .int d]), .bor (.int x), .bor (.int a), .bor (.int u), .bor (.int z), .bor (.int d), .dat (.int (R - 2))] from ?_)
  refine dSeq_cut (fun ρ => ρ = [.bor (.int R), .bor (.tuple [.int a, .int u, .int z, .int d]), .bor (.int x), .bor (.int a), .bor (.int u), .bor (.int z), .bor (.int d), .dat (.int (R - 2))] ∧ (R = 2 → x ≠ 0)) (fun K k => ?_) fun ρ p => ?_
  · refine And.intro rfl (And.intro rfl (br_split (b := PyData.eqv (.int R) (.int 2)) (fun e2 => And.intro rfl (And.intro rfl (br_split (b := PyData.eqv (.int x) (.int 0)) (fun e3 => ?_) fun e3 => k _ ⟨rfl, fun _ => i1 e3⟩))) fun e2 => br_f rfl (k _ ⟨rfl, fun h => absurd h (i1 e2)⟩)))
    rw [if_pos (i0 e2), if_pos (i0 e3)] at q; exact q
  obtain ⟨p, h2⟩ := p
  subst p
  refine dSeq_cut (fun ρ => ρ = [.bor (.int R), .bor (.tuple [.int a, .int u, .int z, .int d]), .bor (.int x), .bor (.int a), .bor (.int u), .bor (.int z), .bor (.int d), .dat (.int (R - 2))] ∧ (R = 2 → x ≠ -1)) (fun K k => ?_) fun ρ p => ?_
  · refine And.intro rfl (And.intro rfl (br_split (b := PyData.eqv (.int R) (.int 2)) (fun e2 => And.intro rfl (And.intro rfl (br_split (b := PyData.eqv (.int x) (.int (-1))) (fun e3 => ?_) fun e3 => k _ ⟨rfl, fun _ => i1 e3⟩))) fun e2 => br_f rfl (k _ ⟨rfl, fun h => absurd h (i1 e2)⟩)))
    rw [if_pos (i0 e2), if_neg (h2 (i0 e2)), if_pos (i0 e3)] at q; exact q
  obtain ⟨p, h3⟩ := p
  subst p
  refine dSeq_cut (fun ρ => ρ = [.bor (.int R), .bor (.tuple [.int a, .int u, .int z, .int d]), .bor (.int x), .bor (.int a), .bor (.int u), .bor (.int z), .bor (.int d), .dat (.int (R - 2))] ∧ (2 < R → x ≠ 0)) (fun K k => ?_) fun ρ p => ?_
  · refine br_dec (c := 2 < R) (fun h2 => And.intro rfl (And.intro rfl (br_split (b := PyData.eqv (.int x) (.int 0)) (fun e3 => ?_) fun e3 => k _ ⟨rfl, fun _ => i1 e3⟩))) fun h => br_f rfl (k _ ⟨rfl, fun w => absurd w h⟩)
    rw [if_neg (by omega), if_pos (i0 e3)] at q
    exact And.intro (a := CMulW (R - 2) u) (mul_ok (a := 135) (b := 110) (log2_lt (by omega) (by omega) (by decide)) (log2_lt hu.1 hu.2 (by decide)) (by decide)) q
  obtain ⟨p, h4⟩ := p
  subst p
  refine dSeq_cut (fun ρ => ρ = [.bor (.int R), .bor (.tuple [.int a, .int u, .int z, .int d]), .bor (.int x), .bor (.int a), .bor (.int u), .bor (.int z), .bor (.int d), .dat (.int (R - 2))] ∧ (2 < R → x ≠ -1)) (fun K k => ?_) fun ρ p => ?_
  · refine br_dec (c := 2 < R) (fun h2 => And.intro rfl (And.intro rfl (br_split (b := PyData.eqv (.int x) (.int (-1))) (fun e3 => ?_) fun e3 => k _ ⟨rfl, fun _ => i1 e3⟩))) fun h => br_f rfl (k _ ⟨rfl, fun w => absurd w h⟩)
    rw [if_neg (by omega), if_neg (h4 h2), if_pos (i0 e3)] at q
    exact And.intro (a := CDivW z (R - 2)) ⟨by omega, Nat.lt_trans (log2_lt (k := 140) (by omega) (by omega) (by decide)) (by decide)⟩ q
  obtain ⟨p, h5⟩ := p
  subst p
  by_cases r2 : R = 2
  · rw [if_pos r2, if_neg (h2 r2), if_neg (h3 r2)] at q; exact q
  · rw [if_neg r2, if_neg (h4 (by omega)), if_neg (h5 (by omega))] at q; exact q

theorem aft_tup2 (pre : List (Int × Int)) (p : Int × Int) : aftD (totR pre) (sumC 1 pre) (sumC 0 pre) (sumC (-1) pre) p.1 p.2 = tupR (pre ++ [p]) := by
  have e : ∀ c : Int, (if p.1 = c then sumC c pre + p.2 else sumC c pre) = sumC c (pre ++ [p]) := fun c => by rw [sumC_append, sumC_one]; split <;> omega
  unfold aftD tupR
  rw [e, e, e, totR_append, totR_one]
def sp_obstruction_of : DSp := fun ts Q _ => ∃ (rs : List (Int × Int)) (R : Int), ts = [.bor (.list (rs.map drun)), .bor (.int R)] ∧ Runs 400 (1000000000000000000000000000000 : Int) rs ∧ (1 ≤ R ∧ R ≤ TOPN) ∧ ∀ x, ObsOk R (expandR rs) x → Q (.dat (wrT x)) .emp
theorem mono_obstruction_of : Mono sp_obstruction_of := fun ts R R' W W' hr _ ⟨rs, R0, e, h1, h2, q⟩ => ⟨rs, R0, e, h1, h2, fun x h => hr _ _ (q x h)⟩
theorem use_obsOf {rs : List (Int × Int)} {R : Int} {Q : T → T → Prop} {W : Exn → T → Prop} (h1 : Runs 400 (1000000000000000000000000000000 : Int) rs) (h2 : 1 ≤ R ∧ R ≤ TOPN) (q : ∀ x, ObsOk R (expandR rs) x → Q (.dat (wrT x)) .emp) : Spc sp_obstruction_of [.bor (.list (rs.map drun)), .bor (.int R)] Q W := ⟨⟨rs, R, rfl, h1, h2, q⟩⟩

def ms_obstruction_of : List Md := [.bor, .bor]
def dn_obstruction_of (Wd : Exn → List T → Prop) : DS := (dSeq (dAsg (dTup (dCons (dC (.int 0)) (dCons (dC (.int 0)) (dCons (dC (.int 0)) (dCons (dC (.int 0)) dNil))))) (dgName 2))
    (dSeq (dForS (dSeqI (dVarF 0)) (dgTup 2 (dgCons (dgName 3) (dgCons (dgName 4) dgNil))) (dSeq (dAsg (dCall ms_wrong_read sp_wrong_read Wd (dCons (dVar 1) (dCons (dVar 2) (dCons (dVar 3) dNil)))) (dgName 5))
    (dSeq (dIfS ((dAndT (tVal (dOp dIsNotN (dVar 5) (dC .none))) (tVal (dOp dLe (dOp dIx (dVar 5) (dC (.int 1))) (dVar 4))))) (dRet (dTup (dCons (dOp dIx (dVar 5) (dC (.int 0))) (dCons (dOp dAdd (dOp dIx (dVar 2) (dC (.int 0))) (dOp dIx (dVar 5) (dC (.int 1)))) dNil)))) dNext)
    (dAsg (dCall ms_after_run sp_after_run Wd (dCons (dVar 2) (dCons (dVarF 3) (dCons (dVarF 4) dNil)))) (dgName 2)))))
    (dRet (dC .none))))
abbrev st_obstruction_of : Stmt := PySem.Challenge.pw_teesizes_k14_first_obstructions.main.body.getD 22 (.Pass ⟨0, 0, 0, 0⟩)
abbrev N_obstruction_of : List Str := ["runs", "readers", "totals", "change", "count", "found"]
theorem sc_obstruction_of : FnScope N_obstruction_of ["runs", "readers"] (defScope st_obstruction_of) := ⟨rfl, rfl, rfl, by decide +kernel, rfl, by decide +kernel, by decide +kernel⟩
theorem dp_obstruction_of {P : Program} {w : World} {K : PySem.W.Frag} {mg : Str → Option Value} {base : Heap} {f : Addr} {cdv : Value} {A : Around} {os : List Env} {s : Shared} {H : Hp} {E : XK} {Wd : Exn → List T → Prop} {B0 : Addr → Prop} {o : List Addr} {vs : List V} (h_after_run : Has P w K mg base "after_run" 1 ["totals", "change", "count"] ms_after_run sp_after_run) (h_wrong_read : Has P w K mg base "wrong_read" 1 ["readers", "totals", "change"] ms_wrong_read sp_wrong_read)
    (hr : RoomG 1 (A.deeper (PyProof.Rows.envOfC "obstruction_of" (defScope st_obstruction_of) s.heap.objs.size f cdv))) (tk : DTk (ctxOf P w K mg base N_obstruction_of "obstruction_of" (defScope st_obstruction_of) f cdv A os s H E Wd B0 o none vs [])) :
    DPSs (ctxOf P w K mg base N_obstruction_of "obstruction_of" (defScope st_obstruction_of) f cdv A os s H E Wd B0 o none vs []) (defBody st_obstruction_of) (dn_obstruction_of Wd) :=
  have S := sc_obstruction_of
  (dss_cons (ds_set S.nd (i := 2) rfl (Or.inl rfl) (nin_of rfl) (de_tup (da_cons de_int (da_cons de_int (da_cons de_int (da_cons de_int da_nil))))))
    (dss_cons (ds_for (passes_of rfl) rfl (di_seq (de_varF 0)) (dg_tup rfl (dgs_cons (dg_name S.nd (i := 3) rfl (Or.inl rfl) (nin_of rfl)) (dgs_cons (dg_name S.nd (i := 4) rfl (Or.inl rfl) (nin_of rfl)) dgs_nil))) (dss_cons (ds_set S.nd (i := 5) rfl (Or.inl rfl) (nin_of rfl) (de_fn h_wrong_read hr (by decide) tk rfl (da_cons (de_var 1 (nin_of rfl)) (da_cons (de_var 2 (nin_of rfl)) (da_cons (de_var 3 (nin_of rfl)) da_nil)))))
    (dss_cons (ds_if (DPW.t (dw_and (dt_cmpD dc_isNotN (de_var 5 (nin_of rfl)) de_non) (dw_and1 (dt_cmpD dc_le (de_ix (de_var 5 (nin_of rfl)) de_int) (de_var 4 (nin_of rfl)))))) (dss_one (ds_ret (de_tup (da_cons (de_ix (de_var 5 (nin_of rfl)) de_int) (da_cons (de_add (de_ix (de_var 2 (nin_of rfl)) de_int) (de_ix (de_var 5 (nin_of rfl)) de_int)) da_nil))))) dss_nil)
    (dss_one (ds_set S.nd (i := 2) rfl (Or.inl rfl) (nin_of rfl) (de_fn h_after_run hr (by decide) tk rfl (da_cons (de_var 2 (nin_of rfl)) (da_cons (de_varF 3) (da_cons (de_varF 4) da_nil)))))))))
    (dss_one (ds_ret de_non))))
theorem law_obstruction_of (ts : List T) (Q : T → T → Prop) (W : Exn → T → Prop) (h : sp_obstruction_of ts Q W) : dn_obstruction_of (finX none W) (fin0 none Q) (slots0 6 ts) := by
  obtain ⟨rs, R, rfl, hr, hR, q⟩ := h
  have hp1 : ∀ q ∈ rs, 1 ≤ q.2 := fun q hq => (hr.cnt q hq).1
  refine dSeq.mk (dSeq.mk ?_)
  show dFor _ _ _ ((rs.map drun).map T.bor) _
  rw [List.map_map]
  refine for_pre rs _ (fun pre ρ => ∃  (x_change x_count x_found : T), ρ = [.bor (.list (rs.map drun)), .bor (.int R), .dat (tupR pre), x_change, x_count, x_found] ∧ okE R.toNat pre) ⟨_, _, _, rfl, ?_⟩ (fun pre p post ρ K e hp k => ?_) (fun ρ p => ?_)
  · intro i hi
    rw [show i = 0 by simpa using hi]
    exact okR_nil (by omega)
  · obtain ⟨x_change, x_count, x_found, rfl, hok⟩ := hp
    have hpre : Runs 400 (1000000000000000000000000000000 : Int) pre := by rw [e] at hr; exact hr.pre
    have hc := hr.chg p (by rw [e]; simp)
    have hn := (hr.cnt p (by rw [e]; simp)).1
    have hu := sum_bg 1 hpre
    have stp := okR_step (p := p) hR.1 (fun q hq => (hpre.cnt q hq).1) hc hn (okE_last hok)
    have nxt : lessW p.2 (wrD R (sumC 1 pre) (sumC 0 pre) (sumC (-1) pre) p.1) → ∀ ρ, (∃  (x_found : T), ρ = [.bor (.list (rs.map drun)), .bor (.int R), .dat (tupR pre), .bor (.int p.1), .bor (.int p.2), x_found]) → dAsg (dCall ms_after_run sp_after_run (finX none W) (dCons (dVar 2) (dCons (dVarF 3) (dCons (dVarF 4) dNil)))) (dgName 2) { nx := K, rt := (fin0 none Q).rt, bk := fun ρ1 => dRet (dC .none) (fin0 none Q) ρ1, ct := K } ρ := fun hw ρ z => by
      obtain ⟨x_found, rfl⟩ := z
      refine use_after (x := p.1) (n := p.2) hc (k _ ?_)
      rw [aft_tup2]
      exact ⟨_, _, _, rfl, okE_snoc.mpr ⟨hok, stp.mpr hw⟩⟩
    have bad := fun {w : Str} {m : Int} => obs_run (rs := rs) hR.1 e hp1 hr.chg hok (w := w) (m := m)
    refine And.intro rfl (dSeq.mk ⟨⟨R, p.1, totR pre, sumC 1 pre, sumC 0 pre, sumC (-1) pre, rfl, hR, hu, hc, ?_⟩⟩)
    cases hw : wrD R (sumC 1 pre) (sumC 0 pre) (sumC (-1) pre) p.1 with
    | none =>
      rw [hw] at nxt
      exact dSeq.mk (br_f rfl (br_f rfl (nxt trivial _ ⟨_, rfl⟩)))
    | some w =>
      rw [hw] at nxt
      refine dSeq.mk (br_t rfl (wO_i rfl (br_dec (c := w.2 ≤ p.2) (fun h => wO_i rfl (wO_i rfl (wO_i rfl (q (some (w.1, totR pre + w.2)) (bad hw h))))) fun h => nxt (show p.2 < w.2 by omega) _ ⟨_, rfl⟩)))
  · obtain ⟨x_change, x_count, x_found, rfl, hok⟩ := p
    exact q none (obs_none hR.1 hp1 hr.chg hok)

def sp_obstruction : DSp := fun ts Q _ => ∃ (d : D) (ds : List D) (rs : List (Int × Int)) (R : Int), ts = [.bor d, .bor (.int R)] ∧ (d = .list ds ∨ d = .tuple ds) ∧ RLk ds rs ∧ Runs 400 (1000000000000000000000000000000 : Int) rs ∧ (1 ≤ R ∧ R ≤ TOPN) ∧ ∀ x, ObsOk R (expandR rs) x → Q (.dat (wrT x)) .emp
theorem mono_obstruction : Mono sp_obstruction := fun ts R R' W W' hr _ ⟨d, ds, rs, R0, e, a, b, c, f, q⟩ => ⟨d, ds, rs, R0, e, a, b, c, f, fun x h => hr _ _ (q x h)⟩
theorem use_obs {d : D} {ds : List D} {rs : List (Int × Int)} {R : Int} {Q : T → T → Prop} {W : Exn → T → Prop} (h1 : d = .list ds ∨ d = .tuple ds) (h2 : RLk ds rs) (h3 : Runs 400 (1000000000000000000000000000000 : Int) rs) (h4 : 1 ≤ R ∧ R ≤ TOPN) (q : ∀ x, ObsOk R (expandR rs) x → Q (.dat (wrT x)) .emp) : Spc sp_obstruction [.bor d, .bor (.int R)] Q W := ⟨⟨d, ds, rs, R, rfl, h1, h2, h3, h4, q⟩⟩

def ms_obstruction : List Md := [.bor, .bor]
def dn_obstruction (Wd : Exn → List T → Prop) : DS := (dSeq (dAsg (dCall ms_checked_record sp_checked_record Wd (dCons (dVar 0) dNil)) (dgName 2))
    (dSeq (dDrop (dCall ms_check_many_readers sp_check_many_readers Wd (dCons (dVar 1) dNil)))
    (dRet (dCall ms_obstruction_of sp_obstruction_of Wd (dCons (dVar 2) (dCons (dVar 1) dNil))))))
abbrev st_obstruction : Stmt := PySem.Challenge.pw_teesizes_k14_first_obstructions.main.body.getD 23 (.Pass ⟨0, 0, 0, 0⟩)
abbrev N_obstruction : List Str := ["record", "readers", "runs"]
theorem sc_obstruction : FnScope N_obstruction ["record", "readers"] (defScope st_obstruction) := ⟨rfl, rfl, rfl, by decide +kernel, rfl, by decide +kernel, by decide +kernel⟩
theorem dp_obstruction {P : Program} {w : World} {K : PySem.W.Frag} {mg : Str → Option Value} {base : Heap} {f : Addr} {cdv : Value} {A : Around} {os : List Env} {s : Shared} {H : Hp} {E : XK} {Wd : Exn → List T → Prop} {B0 : Addr → Prop} {o : List Addr} {vs : List V} (h_check_many_readers : Has P w K mg base "check_many_readers" 2 ["readers"] ms_check_many_readers sp_check_many_readers) (h_checked_record : Has P w K mg base "checked_record" 5 ["value"] ms_checked_record sp_checked_record) (h_obstruction_of : Has P w K mg base "obstruction_of" 2 ["runs", "readers"] ms_obstruction_of sp_obstruction_of)
    (hr : RoomG 5 (A.deeper (PyProof.Rows.envOfC "obstruction" (defScope st_obstruction) s.heap.objs.size f cdv))) (tk : DTk (ctxOf P w K mg base N_obstruction "obstruction" (defScope st_obstruction) f cdv A os s H E Wd B0 o none vs [])) :
    DPSs (ctxOf P w K mg base N_obstruction "obstruction" (defScope st_obstruction) f cdv A os s H E Wd B0 o none vs []) (defBody st_obstruction) (dn_obstruction Wd) :=
  have S := sc_obstruction
  (dss_cons (ds_set S.nd (i := 2) rfl (Or.inl rfl) (nin_of rfl) (de_fn h_checked_record hr (by decide) tk rfl (da_cons (de_var 0 (nin_of rfl)) da_nil)))
    (dss_cons (ds_expr (de_fn h_check_many_readers hr (by decide) tk rfl (da_cons (de_var 1 (nin_of rfl)) da_nil)))
    (dss_one (ds_ret (de_fn h_obstruction_of hr (by decide) tk rfl (da_cons (de_var 2 (nin_of rfl)) (da_cons (de_var 1 (nin_of rfl)) da_nil)))))))
theorem law_obstruction (ts : List T) (Q : T → T → Prop) (W : Exn → T → Prop) (h : sp_obstruction ts Q W) : dn_obstruction (finX none W) (fin0 none Q) (slots0 3 ts) := by
  obtain ⟨d, ds, rs, R, rfl, hd, hk, hr, hR, q⟩ := h
  exact dSeq.mk (use_checked hd hk hr (dSeq.mk (use_many hR.1 hR.2 (use_obsOf hr hR q))))

def sp__law_spring : DSp := fun ts Q _ => ∃ ns : List Int, ts = [.scr ns] ∧ ns.length ≤ 63 ∧ ∀ r : Spr, r.Ok 0 → Q (.own r.d) (.scr ns)
theorem mono__law_spring : Mono sp__law_spring := fun ts R R' W W' hr _ ⟨ns, e, h, q⟩ => ⟨ns, e, h, fun r o => hr _ _ (q r o)⟩

def ms__law_spring : List Md := [.lend]
def dn__law_spring (Wd : Exn → List T → Prop) : DS := (dSeq (dAsg (dC (.int 0)) (dgName 1))
    (dSeq (dAsg (dC (.int 88651)) (dgName 2))
    (dSeq (dForS (dSeqI (dSl (dVar 0) dNoPart (dPart (dC (.int 63))))) (dgName 3) (dSeq (dIfS (tVal (dOp dGe (dCB dAbs (dCons (dVar 3) dNil)) (dOp dPow (dC (.int 10)) (dC (.int 18))))) (dAsg (dOp dAdd (dOp dMul (dVar 1) (dOp dPow (dC (.int 10)) (dC (.int 60)))) (dOp dMod (dCB dAbs (dCons (dVar 3) dNil)) (dOp dPow (dC (.int 10)) (dC (.int 60))))) (dgName 1)) dNext)
    (dAsg (dOp dMod (dOp dAdd (dOp dAdd (dOp dMul (dVar 2) (dC (.int 69069))) (dOp dMod (dVar 3) (dC (.int 2305843009213693921)))) (dC (.int 7))) (dC (.int 2305843009213693951))) (dgName 2))))
    (dRet (dLst (dCons (dVarF 1) (dCons (dVarF 2) (dCons (dC (.int 0)) dNil))))))))
abbrev st__law_spring : Stmt := PySem.Challenge.pw_teesizes_k14_first_obstructions.main.body.getD 25 (.Pass ⟨0, 0, 0, 0⟩)
abbrev N__law_spring : List Str := ["script", "digits", "seed", "cell"]
theorem sc__law_spring : FnScope N__law_spring ["script"] (defScope st__law_spring) := ⟨rfl, rfl, rfl, by decide +kernel, rfl, by decide +kernel, by decide +kernel⟩
theorem dp__law_spring {P : Program} {w : World} {K : PySem.W.Frag} {mg : Str → Option Value} {base : Heap} {f : Addr} {cdv : Value} {A : Around} {os : List Env} {s : Shared} {H : Hp} {E : XK} {Wd : Exn → List T → Prop} {B0 : Addr → Prop} {o : List Addr} {vs : List V} (n_abs : mg "abs" = none)
    (hr : RoomG 0 (A.deeper (PyProof.Rows.envOfC "_law_spring" (defScope st__law_spring) s.heap.objs.size f cdv))) (tk : DTk (ctxOf P w K mg base N__law_spring "_law_spring" (defScope st__law_spring) f cdv A os s H E Wd B0 o (some 0) vs [])) :
    DPSs (ctxOf P w K mg base N__law_spring "_law_spring" (defScope st__law_spring) f cdv A os s H E Wd B0 o (some 0) vs []) (defBody st__law_spring) (dn__law_spring Wd) :=
  have S := sc__law_spring
  (dss_cons (ds_set S.nd (i := 1) rfl (Or.inl rfl) (nin_of rfl) de_int)
    (dss_cons (ds_set S.nd (i := 2) rfl (Or.inl rfl) (nin_of rfl) de_int)
    (dss_cons (ds_for (passes_of rfl) rfl (di_seq (de_slice (de_var 0 (nin_of rfl)) do_none (do_some de_int))) (dg_name S.nd (i := 3) rfl (Or.inl rfl) (nin_of rfl)) (dss_cons (ds_if (dt_cmpD dc_ge (de_abs rfl n_abs (da_cons (de_var 3 (nin_of rfl)) da_nil)) (de_pow de_int de_int)) (dss_one (ds_set S.nd (i := 1) rfl (Or.inl rfl) (nin_of rfl) (de_add (de_mul (de_var 1 (nin_of rfl)) (de_pow de_int de_int)) (de_mod (de_abs rfl n_abs (da_cons (de_var 3 (nin_of rfl)) da_nil)) (de_pow de_int de_int))))) dss_nil)
    (dss_one (ds_set S.nd (i := 2) rfl (Or.inl rfl) (nin_of rfl) (de_mod (de_add (de_add (de_mul (de_var 2 (nin_of rfl)) de_int) (de_mod (de_var 3 (nin_of rfl)) de_int)) de_int) de_int)))))
    (dss_one (ds_ret (de_lst (da_cons (de_varF 1) (da_cons (de_varF 2) (da_cons de_int da_nil)))))))))
theorem law__law_spring (ts : List T) (Q : T → T → Prop) (W : Exn → T → Prop) (h : sp__law_spring ts Q W) : dn__law_spring (finX (some 0) W) (fin0 (some 0) Q) (slots0 4 ts) := by
  obtain ⟨ns, rfl, hl, q⟩ := h
  have ct : cut ns none (some 63) = ns := by rw [show cut ns none (some 63) = _ from cut_to ns 63, List.take_of_length_le hl]
  refine dSeq.mk (dSeq.mk (dSeq.mk ?_))
  show dFor _ _ _ (((cut ns none (some 63)).map PyData.int).map T.dat) _
  rw [ct]
  have p200 : ∀ i : Nat, i ≤ 63 → (2 : Int) ^ (200 * i) ≤ 2 ^ 12600 := fun i hi => by
    have : (2 : Nat) ^ (200 * i) ≤ 2 ^ 12600 := Nat.pow_le_pow_right (by decide) (by omega)
    exact_mod_cast this
  have p201 : (2 : Int) ^ 12600 < 2 ^ 13000 := by
    have : (2 : Nat) ^ 12600 < 2 ^ 13000 := Nat.pow_lt_pow_right (by decide) (by decide)
    exact_mod_cast this
  refine dFor_inv (fun i ρ => ∃ (g s : Int) (x_cell : T), ρ = [.scr ns, .dat (.int g), .dat (.int s), x_cell] ∧ 0 ≤ g ∧ g < 2 ^ (200 * i) ∧ 0 ≤ s ∧ s < 2 ^ 61) ⟨0, 88651, _, rfl, ⟨by decide, by decide, by decide, by decide⟩⟩ (fun i t ρ K et p k => ?_) (fun ρ p => ?_)
  · obtain ⟨g, s, x_cell, rfl, ⟨g0, g1, s0, s1⟩⟩ := p
    rw [List.getElem?_map, List.getElem?_map] at et
    obtain ⟨d, ed, rfl⟩ := Option.map_eq_some_iff.mp et
    obtain ⟨c, ec, rfl⟩ := Option.map_eq_some_iff.mp ed
    have hi : i < 63 := by have := (List.getElem?_eq_some_iff.mp ec).1; omega
    have g2 := p200 i (by omega)
    have fin : ∀ g' : Int, 0 ≤ g' → g' < 2 ^ (200 * (i + 1)) → ∀ (D : DEnds), D.nx = K → dAsg (dOp dMod (dOp dAdd (dOp dAdd (dOp dMul (dVar 2) (dC (.int 69069))) (dOp dMod (dVar 3) (dC (.int 2305843009213693921)))) (dC (.int 7))) (dC (.int 2305843009213693951))) (dgName 2) D [.scr ns, .dat (.int g'), .dat (.int s), .dat (.int c)] := by
      intro g' h0 h1 D hD
      refine And.intro (a := CMulW s 69069) (mul_ok (a := 61) (b := 64) (log2_lt s0 s1 (by decide)) (by decide) (by decide)) ?_
      refine And.intro (a := (0 : Int) < 2305843009213693921) (by decide) (And.intro (a := (0 : Int) < 2305843009213693951) (by decide) ?_)
      show D.nx _
      rw [hD]
      exact k _ ⟨g', _, _, rfl, ⟨h0, h1, Int.emod_nonneg _ (by decide), Int.lt_trans (Int.emod_lt_of_pos _ (by decide)) (by decide)⟩⟩
    have gs : (2 : Int) ^ (200 * i) ≤ 2 ^ (200 * (i + 1)) := by
      have : (2 : Nat) ^ (200 * i) ≤ 2 ^ (200 * (i + 1)) := Nat.pow_le_pow_right (by decide) (by omega)
      exact_mod_cast this
    refine dg_i rfl (dSeq.mk (And.intro (a := CPow 10 18) (by unfold CPow; decide) (br_split (fun _ => ?_) fun _ => ?_)))
    · refine And.intro (a := CPow 10 60) (by unfold CPow; decide) (And.intro (a := CMulW g (10 ^ 60)) (mul_ok (a := 13000) (b := 300) (log2_lt g0 (by omega) (by decide)) (by decide +kernel) (by decide)) ?_)
      refine And.intro (a := CPow 10 60) (by unfold CPow; decide) (And.intro (a := (0 : Int) < 10 ^ 60) (by decide) ?_)
      generalize (if c < 0 then -c else c) = a
      have a0 : 0 ≤ a % 10 ^ 60 := Int.emod_nonneg _ (by decide)
      have a1 : a % 10 ^ 60 < 10 ^ 60 := Int.emod_lt_of_pos _ (by decide)
      refine fin (g * 10 ^ 60 + a % 10 ^ 60) (by omega) ?_ _ rfl
      have e : (2 : Int) ^ (200 * (i + 1)) = 2 ^ (200 * i) * 2 ^ 200 := by rw [Nat.mul_succ, Int.pow_add]
      rw [e]
      have h1 : (g + 1) * 10 ^ 60 ≤ 2 ^ (200 * i) * 10 ^ 60 := Int.mul_le_mul_of_nonneg_right (by omega) (by decide)
      have h2 : (2 : Int) ^ (200 * i) * 10 ^ 60 ≤ 2 ^ (200 * i) * 2 ^ 200 := Int.mul_le_mul_of_nonneg_left (by decide) (by omega)
      omega
    · exact fin g g0 (by omega) _ rfl
  · obtain ⟨g, s, x_cell, rfl, ⟨g0, g1, s0, s1⟩⟩ := p
    have gl : g < 2 ^ 13000 := by
      have := p200 _ (show (List.map T.dat (List.map PyData.int ns)).length ≤ 63 by simpa using hl)
      omega
    exact q ⟨g, s, 0⟩ ⟨g0, gl, s0, s1, Int.le_refl _, Int.le_refl _⟩

def sp__law_draw : DSp := fun ts Q _ => ∃ (r : Spr) (m : Int) (b : Nat), ts = [.own r.d, .dat (.int m)] ∧ r.Ok b ∧ b < 2 ^ 60 ∧ 0 < m ∧ m < 2 ^ 200 ∧ ∀ (v : Int) (r' : Spr), 0 ≤ v → v < m → r'.Ok (b + 1) → Q (.dat (.int v)) (.own r'.d)
theorem use_draw {r : Spr} {m : Int} {b : Nat} {Q : T → T → Prop} {W : Exn → T → Prop} (o : r.Ok b) (hb : b < 2 ^ 60) (m0 : 0 < m) (m1 : m < 2 ^ 200) (q : ∀ (v : Int) (r' : Spr), 0 ≤ v → v < m → r'.Ok (b + 1) → Q (.dat (.int v)) (.own r'.d)) : Spc sp__law_draw [.own r.d, .dat (.int m)] Q W :=
  ⟨⟨r, m, b, rfl, o, hb, m0, m1, q⟩⟩
theorem mono__law_draw : Mono sp__law_draw := fun ts R R' W W' hr _ ⟨r, m, b, e, h1, h2, h3, h4, q⟩ => ⟨r, m, b, e, h1, h2, h3, h4, fun v r' a c d => hr _ _ (q v r' a c d)⟩

def ms__law_draw : List Md := [.lend, .dat]
def dn__law_draw (Wd : Exn → List T → Prop) : DS := (dSeq (dIfS (tVal (dOp dGt (dOp dIx (dVar 0) (dC (.int 0))) (dC (.int 0)))) (dSeq (dAsg (dOp dMod (dOp dIx (dVar 0) (dC (.int 0))) (dVar 1)) (dgName 2))
    (dSeq (dAsg (dOp dFdiv (dOp dIx (dVar 0) (dC (.int 0))) (dVar 1)) (dSetIx 0 (dC (.int 0))))
    (dRet (dVarM 2)))) dNext)
    (dSeq (dAsg (dOp dAdd (dOp dIx (dVar 0) (dC (.int 2))) (dC (.int 1))) (dSetIx 0 (dC (.int 2))))
    (dSeq (dAsg (dOp dMod (dOp dMul (dOp dIx (dVar 0) (dC (.int 1))) (dOp dIx (dVar 0) (dC (.int 1)))) (dC (.int 2305843009213693951))) (dgName 3))
    (dSeq (dAsg (dOp dMod (dOp dAdd (dOp dAdd (dVar 3) (dOp dMul (dOp dMul (dC (.int 7919)) (dOp dIx (dVar 0) (dC (.int 2)))) (dOp dIx (dVar 0) (dC (.int 1))))) (dC (.int 104729))) (dC (.int 2305843009213693951))) (dSetIx 0 (dC (.int 1))))
    (dRet (dOp dMod (dOp dFdiv (dOp dIx (dVar 0) (dC (.int 1))) (dC (.int 65537))) (dVar 1)))))))
abbrev st__law_draw : Stmt := PySem.Challenge.pw_teesizes_k14_first_obstructions.main.body.getD 26 (.Pass ⟨0, 0, 0, 0⟩)
abbrev N__law_draw : List Str := ["spring", "many", "found", "mix"]
theorem sc__law_draw : FnScope N__law_draw ["spring", "many"] (defScope st__law_draw) := ⟨rfl, rfl, rfl, by decide +kernel, rfl, by decide +kernel, by decide +kernel⟩
theorem dp__law_draw {P : Program} {w : World} {K : PySem.W.Frag} {mg : Str → Option Value} {base : Heap} {f : Addr} {cdv : Value} {A : Around} {os : List Env} {s : Shared} {H : Hp} {E : XK} {Wd : Exn → List T → Prop} {B0 : Addr → Prop} {o : List Addr} {vs : List V} 
    (hr : RoomG 0 (A.deeper (PyProof.Rows.envOfC "_law_draw" (defScope st__law_draw) s.heap.objs.size f cdv))) (tk : DTk (ctxOf P w K mg base N__law_draw "_law_draw" (defScope st__law_draw) f cdv A os s H E Wd B0 o (some 0) vs [])) :
    DPSs (ctxOf P w K mg base N__law_draw "_law_draw" (defScope st__law_draw) f cdv A os s H E Wd B0 o (some 0) vs []) (defBody st__law_draw) (dn__law_draw Wd) :=
  have S := sc__law_draw
  (dss_cons (ds_if (dt_cmpD dc_gt (de_ix (de_var 0 (nin_of rfl)) de_int) de_int) (dss_cons (ds_set S.nd (i := 2) rfl (Or.inl rfl) (nin_of rfl) (de_mod (de_ix (de_var 0 (nin_of rfl)) de_int) (de_var 1 (nin_of rfl))))
    (dss_cons (ds_asg (de_fdiv (de_ix (de_var 0 (nin_of rfl)) de_int) (de_var 1 (nin_of rfl))) (dg_setIx 0 rfl (Or.inl rfl) de_int))
    (dss_one (ds_ret (de_varM 2))))) dss_nil)
    (dss_cons (ds_asg (de_add (de_ix (de_var 0 (nin_of rfl)) de_int) de_int) (dg_setIx 0 rfl (Or.inl rfl) de_int))
    (dss_cons (ds_set S.nd (i := 3) rfl (Or.inl rfl) (nin_of rfl) (de_mod (de_mul (de_ix (de_var 0 (nin_of rfl)) de_int) (de_ix (de_var 0 (nin_of rfl)) de_int)) de_int))
    (dss_cons (ds_asg (de_mod (de_add (de_add (de_var 3 (nin_of rfl)) (de_mul (de_mul de_int (de_ix (de_var 0 (nin_of rfl)) de_int)) (de_ix (de_var 0 (nin_of rfl)) de_int))) de_int) de_int) (dg_setIx 0 rfl (Or.inl rfl) de_int))
    (dss_one (ds_ret (de_mod (de_fdiv (de_ix (de_var 0 (nin_of rfl)) de_int) de_int) (de_var 1 (nin_of rfl)))))))))
theorem law__law_draw (ts : List T) (Q : T → T → Prop) (W : Exn → T → Prop) (h : sp__law_draw ts Q W) :
    dn__law_draw (finX (some 0) W) (fin0 (some 0) Q) (slots0 4 ts) := by
  obtain ⟨⟨g, s, n⟩, m, b, rfl, ok, hb, m0, mb, q⟩ := h
  have hm : m.natAbs.log2 < 9000 := Nat.lt_trans (log2_lt (by omega) mb (by decide)) (by decide)
  have g0 := ok.g0
  have gb := ok.gb
  have s0 := ok.s0
  have sb := ok.sb
  have n0 := ok.n0
  have nb := ok.nb
  dsimp only at g0 gb s0 sb n0 nb
  refine dSeq.mk (br_split (b := decide (0 < g)) (fun _ => ?_) fun _ => ?_)
  · refine dSeq.mk (And.intro m0 (dSeq.mk (And.intro (a := CDivW g m) ⟨m0, hm⟩ ?_)))
    refine q (g % m) ⟨g / m, s, n⟩ (Int.emod_nonneg _ (by omega)) (Int.emod_lt_of_pos _ m0) ⟨Int.ediv_nonneg g0 (by omega), ?_, s0, sb, n0, by dsimp only; omega⟩
    exact Int.lt_of_le_of_lt (Int.ediv_le_self _ g0) gb
  · refine dSeq.mk (dSeq.mk ?_)
    refine And.intro (a := CMulW s s) (mul_ok (a := 61) (b := 61) (log2_lt s0 sb (by decide)) (log2_lt s0 sb (by decide)) (by decide)) ?_
    refine And.intro (a := (0 : Int) < 2305843009213693951) (by decide) (dSeq.mk ?_)
    refine And.intro (a := CMulW 7919 (n + 1)) (mul_ok (a := 64) (b := 64) (by decide) (log2_lt (by omega) (by omega) (by decide)) (by decide)) ?_
    refine And.intro (a := CMulW (7919 * (n + 1)) s) (mul_ok (a := 80) (b := 61) (log2_lt (by omega) (by omega) (by decide)) (log2_lt s0 sb (by decide)) (by decide)) ?_
    refine And.intro (a := (0 : Int) < 2305843009213693951) (by decide) ?_
    generalize hz : (s * s % 2305843009213693951 + 7919 * (n + 1) * s + 104729) % 2305843009213693951 = z
    have z0 : 0 ≤ z := by rw [← hz]; exact Int.emod_nonneg _ (by decide)
    have z1 : z < 2305843009213693951 := by rw [← hz]; exact Int.emod_lt_of_pos _ (by decide)
    refine And.intro (a := CDivW z 65537) (by unfold CDivW; decide) (And.intro m0 ?_)
    exact q (z / 65537 % m) ⟨g, z, n + 1⟩ (Int.emod_nonneg _ (by omega)) (Int.emod_lt_of_pos _ m0) ⟨g0, gb, z0, by dsimp only; omega, by dsimp only; omega, by dsimp only; omega⟩

theorem lay_get {k j : Nat} {ds : List D} {d : D} (h : Lay (k + 1) (.list ds) ∨ Lay (k + 1) (.tuple ds)) (e : ds[j]? = some d) : Lay k d := by
  have hc : PyData.canLayAll0 ds = true ∧ PyData.depthAll ds ≤ k := by
    rcases h with h | h
    · have h1 := h.cl; have h2 := h.dp; simp only [PyData.canLay0] at h1; simp only [PyData.depth] at h2; exact ⟨h1, by omega⟩
    · have h1 := h.cl; have h2 := h.dp; simp only [PyData.canLay0] at h1; simp only [PyData.depth] at h2; exact ⟨h1, by omega⟩
  refine ⟨?_, Nat.le_trans (depth_get e) hc.2⟩
  have go : ∀ (ds : List D) (j : Nat), PyData.canLayAll0 ds = true → ds[j]? = some d → d.canLay0 = true := by
    intro ds
    induction ds with
    | nil => intro j _ e; simp at e
    | cons x ds ih =>
      intro j h e
      simp only [PyData.canLayAll0, Bool.and_eq_true] at h
      cases j with
      | zero => simp at e; subst e; exact h.1
      | succ j => exact ih j h.2 (by simpa using e)
  exact go ds j hc.1 e
def spn__law_same : Nat → DSp
  | 0 => fun _ _ _ => False
  | n + 1 => fun ts Q _ => ∃ d : D, ts = [.bor d, .bor d] ∧ Lay n d ∧ n ≤ 60 ∧ ndD d ≤ 1000000 ∧ Q (.dat (.bool true)) .emp
def sp__law_same : DSp := spn__law_same 4
theorem mono__law_same : ∀ n, Mono (spn__law_same n)
  | 0 => fun _ _ _ _ _ _ _ h => h
  | n + 1 => fun ts R R' W W' hr _ ⟨d, e, h1, h2, h3, q⟩ => ⟨d, e, h1, h2, h3, hr _ _ q⟩
theorem never__law_same : ∀ ts Q W, ¬ spn__law_same 0 ts Q W := fun _ _ _ h => h
theorem use_same {d : D} {Q : T → T → Prop} {W : Exn → T → Prop} (h1 : Lay 3 d) (h2 : ndD d ≤ 1000000) (q : Q (.dat (.bool true)) .emp) : Spc sp__law_same [.bor d, .bor d] Q W := ⟨⟨d, rfl, h1, by decide, h2, q⟩⟩
theorem eqv_bool (a : Bool) : PyData.eqv (.bool a) (.bool a) = true := eqv_self _ rfl

def ms__law_same : List Md := [.bor, .bor]
def dn__law_same (spr__law_same : DSp) (Wd : Exn → List T → Prop) : DS := (dSeq (dIfS (tVal (dIsi ["list", "tuple"] (dVar 1))) (dSeq (dIfS ((dOrT (tVal (dOp dNe (dIsi ["list"] (dVar 0)) (dIsi ["list"] (dVar 1)))) (tVal (dOp dNe (dIsi ["tuple"] (dVar 0)) (dIsi ["tuple"] (dVar 1)))))) (dRet (dC (.bool false))) dNext)
    (dRet ((dAndV (dOp dEq (dCB dLen (dCons (dVar 0) dNil)) (dCB dLen (dCons (dVar 1) dNil))) (dCB dAll (dCons (dLc (dRange1 (dCons (dCB dLen (dCons (dVar 1) dNil)) dNil)) (Tgt.one 2).d dYes (dCall ms__law_same spr__law_same noW (dCons (dOp dIx (dVar 0) (dVarF 2)) (dCons (dOp dIx (dVar 1) (dVarF 2)) dNil))) [2]) dNil)))))) dNext)
    (dSeq (dIfS ((dOrT (tVal (dOp dIsN (dVar 1) (dC .none))) (tVal (dOp dIsN (dVar 0) (dC .none))))) (dRet ((dAndV (dOp dIsN (dVar 1) (dC .none)) (dOp dIsN (dVar 0) (dC .none))))) dNext)
    (dSeq (dIfS ((dOrT (tVal (dOp dNe (dIsi ["bool"] (dVar 1)) (dIsi ["bool"] (dVar 0)))) (tVal (dOp dNe (dIsi ["str"] (dVar 1)) (dIsi ["str"] (dVar 0)))))) (dRet (dC (.bool false))) dNext)
    (dRet (dOp dEq (dVar 0) (dVar 1))))))
abbrev st__law_same : Stmt := PySem.Challenge.pw_teesizes_k14_first_obstructions.main.body.getD 27 (.Pass ⟨0, 0, 0, 0⟩)
abbrev N__law_same : List Str := ["found", "due", "k"]
theorem sc__law_same : FnScope N__law_same ["found", "due"] (defScope st__law_same) := ⟨rfl, rfl, rfl, by decide +kernel, rfl, by decide +kernel, by decide +kernel⟩
theorem dp__law_same {P : Program} {w : World} {K : PySem.W.Frag} {mg : Str → Option Value} {base : Heap} {f : Addr} {cdv : Value} {A : Around} {os : List Env} {s : Shared} {H : Hp} {E : XK} {Wd : Exn → List T → Prop} {B0 : Addr → Prop} {o : List Addr} {vs : List V} (n_all : mg "all" = none) (n_bool : mg "bool" = none) (n_isinstance : mg "isinstance" = none) (n_len : mg "len" = none) (n_list : mg "list" = none) (n_range : mg "range" = none) (n_str : mg "str" = none) (n_tuple : mg "tuple" = none) {nr : Nat} {spr__law_same : DSp} (h__law_same : Has P w K mg base "_law_same" (0 + nr) ["found", "due"] ms__law_same spr__law_same)
    (hr : RoomG (0 + nr) (A.deeper (PyProof.Rows.envOfC "_law_same" (defScope st__law_same) s.heap.objs.size f cdv))) (tk : DTk (ctxOf P w K mg base N__law_same "_law_same" (defScope st__law_same) f cdv A os s H E Wd B0 o none vs [2])) :
    DPSs (ctxOf P w K mg base N__law_same "_law_same" (defScope st__law_same) f cdv A os s H E Wd B0 o none vs [2]) (defBody st__law_same) (dn__law_same spr__law_same Wd) :=
  have S := sc__law_same
  (dss_cons (ds_if (dt_val (de_isi2 rfl n_isinstance (de_var 1 (nin_of rfl)) rfl n_list (by decide) PyProof.Rows.boot_list rfl n_tuple (by decide) PyProof.Rows.boot_tuple)) (dss_cons (ds_if (DPW.t (dw_or (dt_cmpD (dc_ne hr.units) (de_isi rfl n_isinstance (de_var 0 (nin_of rfl)) rfl n_list (by decide) PyProof.Rows.boot_list) (de_isi rfl n_isinstance (de_var 1 (nin_of rfl)) rfl n_list (by decide) PyProof.Rows.boot_list)) (dw_or1 (dt_cmpD (dc_ne hr.units) (de_isi rfl n_isinstance (de_var 0 (nin_of rfl)) rfl n_tuple (by decide) PyProof.Rows.boot_tuple) (de_isi rfl n_isinstance (de_var 1 (nin_of rfl)) rfl n_tuple (by decide) PyProof.Rows.boot_tuple))))) (dss_one (ds_ret de_bl)) dss_nil)
    (dss_one (ds_ret ((de_and (de_cmpD (dc_eq hr.units) (de_len rfl n_len (da_cons (de_var 0 (nin_of rfl)) da_nil)) (de_len rfl n_len (da_cons (de_var 1 (nin_of rfl)) da_nil))) (de_one (de_all rfl n_all rfl (da_cons (de_lc rfl S.nd (own := [(("k" : Str), 2)]) (tg := (Tgt.one 2)) (di_range1 rfl n_range (da_cons (de_len rfl n_len (da_cons (de_var 1 (nin_of rfl)) da_nil)) da_nil)) (blk_of (N := N__law_same) (sc := defScope st__law_same) (by decide +kernel)) (tgt_one S.nd rfl (Or.inl rfl) rfl) (fun _ _ _ _ _ => dts_nil) (fun _ _ _ _ _ => (de_fn h__law_same hr (by omega) tk_blk rfl (da_cons (de_ix (de_var 0 (nin_of rfl)) (de_varF 2)) (da_cons (de_ix (de_var 1 (nin_of rfl)) (de_varF 2)) da_nil)))) (by decide) (own_of rfl)) da_nil)))))))) dss_nil)
    (dss_cons (ds_if (DPW.t (dw_or (dt_cmpD dc_isN (de_var 1 (nin_of rfl)) de_non) (dw_or1 (dt_cmpD dc_isN (de_var 0 (nin_of rfl)) de_non)))) (dss_one (ds_ret ((de_and (de_cmpD dc_isN (de_var 1 (nin_of rfl)) de_non) (de_one (de_cmpD dc_isN (de_var 0 (nin_of rfl)) de_non)))))) dss_nil)
    (dss_cons (ds_if (DPW.t (dw_or (dt_cmpD (dc_ne hr.units) (de_isi rfl n_isinstance (de_var 1 (nin_of rfl)) rfl n_bool (by decide) PyProof.Rows.boot_bool) (de_isi rfl n_isinstance (de_var 0 (nin_of rfl)) rfl n_bool (by decide) PyProof.Rows.boot_bool)) (dw_or1 (dt_cmpD (dc_ne hr.units) (de_isi rfl n_isinstance (de_var 1 (nin_of rfl)) rfl n_str (by decide) PyProof.Rows.boot_str) (de_isi rfl n_isinstance (de_var 0 (nin_of rfl)) rfl n_str (by decide) PyProof.Rows.boot_str))))) (dss_one (ds_ret de_bl)) dss_nil)
    (dss_one (ds_ret (de_cmpD (dc_eq hr.units) (de_var 0 (nin_of rfl)) (de_var 1 (nin_of rfl))))))))
theorem law__law_same (n : Nat) (ts : List T) (Q : T → T → Prop) (W : Exn → T → Prop) (h : spn__law_same (n + 1) ts Q W) : dn__law_same (spn__law_same n) (finX none W) (fin0 none Q) (slots0 3 ts) := by
  obtain ⟨d, rfl, hd, hn, hs, q⟩ := h
  have items : ∀ (ds : List D), (d = .list ds ∨ d = .tuple ds) → dRet ((dAndV (dOp dEq (dCB dLen (dCons (dVar 0) dNil)) (dCB dLen (dCons (dVar 1) dNil))) (dCB dAll (dCons (dLc (dRange1 (dCons (dCB dLen (dCons (dVar 1) dNil)) dNil)) (Tgt.one 2).d dYes (dCall ms__law_same (spn__law_same n) noW (dCons (dOp dIx (dVar 0) (dVarF 2)) (dCons (dOp dIx (dVar 1) (dVarF 2)) dNil))) [2]) dNil)))) (fin0 none Q) [.bor d, .bor d, .emp] := by
    intro ds hk
    have hl : ds.length ≤ 1000000 := by
      have := ndL_len ds
      rcases hk with rfl | rfl <;> simp only [ndD] at hs <;> omega
    have go : ∀ K : List D → List T → Prop, K ((List.range ds.length).map fun _ => .bool true) [.bor d, .bor d, .emp] → dLcGo (dgName 2) dYes (dCall ms__law_same (spn__law_same n) noW (dCons (dOp dIx (dVar 0) (dVarF 2)) (dCons (dOp dIx (dVar 1) (dVarF 2)) dNil))) [2] K (rngT 0 ds.length) [] [.bor d, .bor d, .emp] := by
      intro K hK
      refine lc_mp (List.range ds.length) (fun k => .dat (.int (0 + (k : Nat)))) (fun _ => .bool true) rfl (by rw [List.length_range]; exact Nat.le_trans hl (by decide)) (fun _ _ => rfl) (fun k hkk P h => ?_) ?_
      · rw [List.mem_range] at hkk
        have e : gI ds (0 + (k : Nat)) = some ds[k] := by rw [gI_nat (k := k) (by omega), List.getElem?_eq_getElem hkk]
        have sub : ∃ m, n = m + 1 := by
          cases n with
          | zero => have := hd.dp; rcases hk with rfl | rfl <;> simp only [PyData.depth] at this <;> omega
          | succ m => exact ⟨m, rfl⟩
        obtain ⟨m, rfl⟩ := sub
        have hi : Lay m ds[k] := lay_get (by rcases hk with rfl | rfl; exact .inl hd; exact .inr hd) (List.getElem?_eq_getElem hkk)
        have t1 := ndL_take ds k ds[k] (List.getElem?_eq_getElem hkk)
        have hs' : ndD ds[k] ≤ 1000000 := by rcases hk with rfl | rfl <;> simp only [ndD] at hs <;> omega
        rcases hk with rfl | rfl
        · exact wO_i e (wO_i e ⟨⟨ds[k], rfl, hi, by omega, hs', h _ rfl⟩⟩)
        · exact wO_i e (wO_i e ⟨⟨ds[k], rfl, hi, by omega, hs', h _ rfl⟩⟩)
      · exact hK
    have fin : Q (.dat (.bool (((List.range ds.length).map fun _ => true).all id))) .emp := by
        rw [show ((List.range ds.length).map fun _ => true).all id = true by simp]
        exact q
    have em : ((List.range ds.length).map fun _ => PyData.bool true) = ((List.range ds.length).map fun _ => true).map .bool := by rw [List.map_map]; rfl
    have hb : -(2 ^ 62) ≤ (ds.length : Int) ∧ (ds.length : Int) < 2 ^ 62 := by omega
    rcases hk with rfl | rfl
    · exact And.intro rfl (And.intro rfl (br_t (b := PyData.eqv (.int ds.length) (.int ds.length)) (by rw [eqv_int]; simp) (And.intro hb (go _ ⟨_, congrArg (fun l => some (PyData.list l)) em, fin⟩))))
    · exact And.intro rfl (And.intro rfl (br_t (b := PyData.eqv (.int ds.length) (.int ds.length)) (by rw [eqv_int]; simp) (And.intro hb (go _ ⟨_, congrArg (fun l => some (PyData.list l)) em, fin⟩))))
  have sh : SeqAt.shaped d = true := hd.shaped (by omega)
  have se := hd.eqv
  have bt : (!PyData.eqv (.bool true) (.bool true)) = false := by rw [eqv_bool]; rfl
  have bf : (!PyData.eqv (.bool false) (.bool false)) = false := by rw [eqv_bool]; rfl
  cases d with
  | list ds => exact dSeq.mk (br_t rfl (dSeq.mk (And.intro rfl (And.intro rfl (br_f bt (And.intro rfl (And.intro rfl (br_f bf (items ds (.inl rfl))))))))))
  | tuple ds => exact dSeq.mk (br_t rfl (dSeq.mk (And.intro rfl (And.intro rfl (br_f bf (And.intro rfl (And.intro rfl (br_f bt (items ds (.inr rfl))))))))))
  | none => exact dSeq.mk (br_f rfl (dSeq.mk (br_t rfl (br_t rfl (br_t rfl q)))))
  | bool b =>
    refine dSeq.mk (br_f rfl (dSeq.mk (br_f rfl (br_f rfl (dSeq.mk (And.intro rfl (And.intro rfl (br_f bt (And.intro rfl (And.intro rfl (br_f bf ?_))))))))))) 
    refine And.intro sh (And.intro sh ?_)
    rw [se]; exact q
  | int b =>
    refine dSeq.mk (br_f rfl (dSeq.mk (br_f rfl (br_f rfl (dSeq.mk (And.intro rfl (And.intro rfl (br_f bf (And.intro rfl (And.intro rfl (br_f bf ?_))))))))))) 
    refine And.intro sh (And.intro sh ?_)
    rw [se]; exact q
  | str b =>
    refine dSeq.mk (br_f rfl (dSeq.mk (br_f rfl (br_f rfl (dSeq.mk (And.intro rfl (And.intro rfl (br_f bf (And.intro rfl (And.intro rfl (br_f bt ?_))))))))))) 
    show Q (.dat (.bool (decide (b = b)))) .emp
    rw [decide_eq_true rfl]; exact q
  | dict b =>
    refine dSeq.mk (br_f rfl (dSeq.mk (br_f rfl (br_f rfl (dSeq.mk (And.intro rfl (And.intro rfl (br_f bf (And.intro rfl (And.intro rfl (br_f bf ?_))))))))))) 
    refine And.intro sh (And.intro sh ?_)
    rw [se]; exact q

def spn__law_dressed : Nat → DSp
  | 0 => fun _ _ _ => False
  | n + 1 => fun ts Q _ => ∃ (r : Spr) (d : D) (b : Nat), ts = [.own r.d, .bor d] ∧ r.Ok b ∧ b + ndD d < 2 ^ 59 ∧ d.depth ≤ n ∧ ndD d ≤ 1000000 ∧ noDct d = true ∧
    ∀ (d' : D) (r' : Spr), und d' = und d → r'.Ok (b + ndD d) → Q (.dat d') (.own r'.d)
def sp__law_dressed : DSp := spn__law_dressed 4
theorem mono__law_dressed : ∀ n, Mono (spn__law_dressed n)
  | 0 => fun _ _ _ _ _ _ _ h => h
  | n + 1 => fun ts R R' W W' hr _ ⟨r, d, b, e, h1, h2, h3, h4, h5, q⟩ => ⟨r, d, b, e, h1, h2, h3, h4, h5, fun d' r' a c => hr _ _ (q d' r' a c)⟩
theorem never__law_dressed : ∀ ts Q W, ¬ spn__law_dressed 0 ts Q W := fun _ _ _ h => h
theorem use_dressed {r : Spr} {d : D} {b : Nat} {Q : T → T → Prop} {W : Exn → T → Prop} (o : r.Ok b) (hb : b + ndD d < 2 ^ 59) (h1 : d.depth ≤ 3) (h2 : ndD d ≤ 1000000) (h3 : noDct d = true) (q : ∀ (d' : D) (r' : Spr), und d' = und d → r'.Ok (b + ndD d) → Q (.dat d') (.own r'.d)) :
    Spc sp__law_dressed [.own r.d, .bor d] Q W := ⟨⟨r, d, b, rfl, o, hb, h1, h2, h3, q⟩⟩


def ms__law_dressed : List Md := [.lend, .bor]
def dn__law_dressed (spr__law_dressed : DSp) (Wd : Exn → List T → Prop) : DS := (dSeq (dIfS (dNotT (tVal (dIsi ["list", "tuple"] (dVar 1)))) (dRet (dVarF 1)) dNext)
    (dSeq (dAsg (dLc (dSeqI (dVarF 1)) (Tgt.one 3).d dYes (dCall ms__law_dressed spr__law_dressed noW (dCons (dVar 0) (dCons (dVarF 3) dNil))) [3]) (dgName 2))
    (dRet (dIf (tVal (dOp dEq (dCall ms__law_draw sp__law_draw Wd (dCons (dVar 0) (dCons (dC (.int 2)) dNil))) (dC (.int 0)))) (dVarF 2) (dCB dTupOf (dCons (dVar 2) dNil))))))
abbrev st__law_dressed : Stmt := PySem.Challenge.pw_teesizes_k14_first_obstructions.main.body.getD 28 (.Pass ⟨0, 0, 0, 0⟩)
abbrev N__law_dressed : List Str := ["spring", "value", "parts", "part"]
theorem sc__law_dressed : FnScope N__law_dressed ["spring", "value"] (defScope st__law_dressed) := ⟨rfl, rfl, rfl, by decide +kernel, rfl, by decide +kernel, by decide +kernel⟩
theorem dp__law_dressed {P : Program} {w : World} {K : PySem.W.Frag} {mg : Str → Option Value} {base : Heap} {f : Addr} {cdv : Value} {A : Around} {os : List Env} {s : Shared} {H : Hp} {E : XK} {Wd : Exn → List T → Prop} {B0 : Addr → Prop} {o : List Addr} {vs : List V} (n_isinstance : mg "isinstance" = none) (n_list : mg "list" = none) (n_tuple : mg "tuple" = none) (h__law_draw : Has P w K mg base "_law_draw" 1 ["spring", "many"] ms__law_draw sp__law_draw) {nr : Nat} {spr__law_dressed : DSp} (h__law_dressed : Has P w K mg base "_law_dressed" (1 + nr) ["spring", "value"] ms__law_dressed spr__law_dressed)
    (hr : RoomG (1 + nr) (A.deeper (PyProof.Rows.envOfC "_law_dressed" (defScope st__law_dressed) s.heap.objs.size f cdv))) (tk : DTk (ctxOf P w K mg base N__law_dressed "_law_dressed" (defScope st__law_dressed) f cdv A os s H E Wd B0 o (some 0) vs [3])) :
    DPSs (ctxOf P w K mg base N__law_dressed "_law_dressed" (defScope st__law_dressed) f cdv A os s H E Wd B0 o (some 0) vs [3]) (defBody st__law_dressed) (dn__law_dressed spr__law_dressed Wd) :=
  have S := sc__law_dressed
  (dss_cons (ds_if (dt_not (dt_val (de_isi2 rfl n_isinstance (de_var 1 (nin_of rfl)) rfl n_list (by decide) PyProof.Rows.boot_list rfl n_tuple (by decide) PyProof.Rows.boot_tuple))) (dss_one (ds_ret (de_varF 1))) dss_nil)
    (dss_cons (ds_setLc (i := 2) rfl S.nd rfl rfl (nin_of rfl) rfl (own := [(("part" : Str), 3)]) (tg := (Tgt.one 3)) (di_seq (de_varF 1)) (blk_of (N := N__law_dressed) (sc := defScope st__law_dressed) (by decide +kernel)) (tgt_one S.nd rfl (Or.inl rfl) rfl) (fun _ _ _ _ _ => dts_nil) (fun _ _ _ _ _ => (de_fn h__law_dressed hr (by omega) tk_blk rfl (da_cons (de_var 0 (nin_of rfl)) (da_cons (de_varF 3) da_nil)))) (by decide) (own_of rfl))
    (dss_one (ds_ret (de_if (dt_cmpD (dc_eq hr.units) (de_fn h__law_draw hr (by omega) tk rfl (da_cons (de_var 0 (nin_of rfl)) (da_cons de_int da_nil))) de_int) (de_varF 2) (de_tupOf rfl n_tuple (da_cons (de_var 2 (nin_of rfl)) da_nil)))))))
theorem dressed_items {r : Spr} {b n : Nat} {d : D} {ds : List D} {K : List D → List T → Prop} (o : r.Ok b) (hb : b + ndL ds < 2 ^ 59) (hd : PyData.depthAll ds + 1 ≤ n) (hn : ndL ds ≤ 1000000) (hx : noDctL ds = true)
    (hk : ∀ (ds' : List D) (r' : Spr), undL ds' = undL ds → r'.Ok (b + ndL ds) → K ds' [.own r'.d, .bor d, .emp, .emp]) :
    dLcGo (dgName 3) dYes (dCall ms__law_dressed (spn__law_dressed n) noW (dCons (dVar 0) (dCons (dVarF 3) dNil))) [3] K (ds.map .bor) [] [.own r.d, .bor d, .emp, .emp] := by
  refine lc_inv (fun j acc ρ => ∃ (r : Spr), ρ = [.own r.d, .bor d, .emp, .emp] ∧ r.Ok (b + ndL (ds.take j)) ∧ undL acc = undL (ds.take j)) ⟨r, rfl, o, rfl⟩ (fun j t acc ρ K' et p k => ?_) (fun acc ρ p => ?_)
  · obtain ⟨r, rfl, o, hu⟩ := p
    rw [List.getElem?_map, Option.map_eq_some_iff] at et
    obtain ⟨x, ex, rfl⟩ := et
    have t1 := ndL_take ds j x ex
    have t2 := depth_get ex
    have t3 := noDctL_get hx ex
    have e : ds.take (j + 1) = ds.take j ++ [x] := by rw [List.take_succ, ex]; rfl
    have hl : acc.length ≤ ndL ds := by
      have h1 := congrArg List.length hu
      have h2 : ∀ l, (undL l).length = l.length := fun l => by induction l with | nil => rfl | cons a l ih => simp only [undL, List.length_cons, ih]
      rw [h2, h2] at h1
      have h3 := ndL_len (ds.take j)
      omega
    refine dg_i rfl (br_t rfl ?_)
    cases n with
    | zero => omega
    | succ n =>
      refine ⟨⟨r, x, _, rfl, o, by omega, by omega, by omega, t3, fun d' r' h1 h2 => ?_⟩⟩
      refine And.intro (a := acc.length < sizeLine) (Nat.lt_of_lt_of_le (by omega : acc.length < 2000000) (by decide)) (k _ _ ⟨r', rfl, h2.mono ?_, ?_⟩)
      · rw [e, ndL_append]; simp only [ndL]; omega
      · rw [e, undL_append, undL_append, hu]; simp only [undL, h1]
  · obtain ⟨r, rfl, o, hu⟩ := p
    rw [List.length_map, List.take_length] at o hu
    exact hk _ _ hu o
theorem law__law_dressed (n : Nat) (ts : List T) (Q : T → T → Prop) (W : Exn → T → Prop) (h : spn__law_dressed (n + 1) ts Q W) : dn__law_dressed (spn__law_dressed n) (finX (some 0) W) (fin0 (some 0) Q) (slots0 4 ts) := by
  obtain ⟨r, d, b, rfl, o, hb, hd, hn, hx, q⟩ := h
  have fin : ∀ (ds ds' : List D) (r' : Spr), und d = .list (undL ds) → ndD d = 1 + ndL ds → undL ds' = undL ds → r'.Ok (b + ndL ds) → ∀ ρ, ρ = [.own r'.d, .bor d, .own ds', .emp] →
      dRet (dIf (tVal (dOp dEq (dCall ms__law_draw sp__law_draw (finX (some 0) W) (dCons (dVar 0) (dCons (dC (.int 2)) dNil))) (dC (.int 0)))) (dVarF 2) (dCB dTupOf (dCons (dVar 2) dNil))) (fin0 (some 0) Q) ρ := by
    intro ds ds' r' e1 e2 e3 o' ρ hρ
    subst hρ
    refine use_draw (m := 2) o' (by omega) (by decide) (by decide) fun v r2 v0 v1 o2 => ?_
    refine And.intro rfl (And.intro rfl (br_split (b := PyData.eqv (.int v) (.int 0)) (fun _ => ?_) fun _ => ?_))
    · exact q (.list ds') r2 (by rw [e1, ← e3]; rfl) (by rw [e2]; exact o2.mono (by omega))
    · exact q (.tuple ds') r2 (by rw [e1, ← e3]; rfl) (by rw [e2]; exact o2.mono (by omega))
  have sc : und d = und d → Q (.dat d) (.own r.d) := fun e => q d r e (o.mono (by omega))
  cases d with
  | list ds =>
    simp only [PyData.depth] at hd
    simp only [ndD] at hn hb
    refine dSeq.mk (br_f rfl (dSeq.mk ?_))
    refine dressed_items o (by omega) (by omega) (by omega) hx fun ds' r' h1 h2 => ?_
    exact fin ds ds' r' rfl rfl h1 h2 _ rfl
  | tuple ds =>
    simp only [PyData.depth] at hd
    simp only [ndD] at hn hb
    refine dSeq.mk (br_f rfl (dSeq.mk ?_))
    refine dressed_items o (by omega) (by omega) (by omega) hx fun ds' r' h1 h2 => ?_
    exact fin ds ds' r' rfl rfl h1 h2 _ rfl
  | dict _ => cases hx
  | _ => exact dSeq.mk (br_t rfl (And.intro rfl (sc rfl)))

def sp__law_record : DSp := fun ts Q _ => ∃ cs : List Int, ts = [.bor (.list (cs.map .int))] ∧ cs.length ≤ 1000000 ∧ Q (.own ((runsOf cs).map drun)) .emp
theorem mono__law_record : Mono sp__law_record := fun ts R R' W W' hr _ ⟨cs, e, h, q⟩ => ⟨cs, e, h, hr _ _ q⟩

def ms__law_record : List Md := [.bor]
def dn__law_record (Wd : Exn → List T → Prop) : DS := (dSeq (dAsg (dLst dNil) (dgName 1))
    (dSeq (dForS (dSeqI (dVarF 0)) (dgName 2) (dIfS ((dAndT (tVal (dOp dNe (dVar 1) (dLst dNil))) (tVal (dOp dEq (dOp dIx (dOp dIx (dVar 1) (dUn dNeg (dC (.int 1)))) (dC (.int 0))) (dVar 2))))) (dAsg (dTup (dCons (dVarF 2) (dCons (dOp dAdd (dOp dIx (dOp dIx (dVar 1) (dUn dNeg (dC (.int 1)))) (dC (.int 1))) (dC (.int 1))) dNil))) (dSetIx 1 (dUn dNeg (dC (.int 1))))) (dDrop (dLm 1 lmAppend (dCons (dTup (dCons (dVarF 2) (dCons (dC (.int 1)) dNil))) dNil)))))
    (dRet (dVarM 1))))
abbrev st__law_record : Stmt := PySem.Challenge.pw_teesizes_k14_first_obstructions.main.body.getD 29 (.Pass ⟨0, 0, 0, 0⟩)
abbrev N__law_record : List Str := ["changes", "found", "change"]
theorem sc__law_record : FnScope N__law_record ["changes"] (defScope st__law_record) := ⟨rfl, rfl, rfl, by decide +kernel, rfl, by decide +kernel, by decide +kernel⟩
theorem dp__law_record {P : Program} {w : World} {K : PySem.W.Frag} {mg : Str → Option Value} {base : Heap} {f : Addr} {cdv : Value} {A : Around} {os : List Env} {s : Shared} {H : Hp} {E : XK} {Wd : Exn → List T → Prop} {B0 : Addr → Prop} {o : List Addr} {vs : List V} 
    (hr : RoomG 0 (A.deeper (PyProof.Rows.envOfC "_law_record" (defScope st__law_record) s.heap.objs.size f cdv))) (tk : DTk (ctxOf P w K mg base N__law_record "_law_record" (defScope st__law_record) f cdv A os s H E Wd B0 o none vs [])) :
    DPSs (ctxOf P w K mg base N__law_record "_law_record" (defScope st__law_record) f cdv A os s H E Wd B0 o none vs []) (defBody st__law_record) (dn__law_record Wd) :=
  have S := sc__law_record
  (dss_cons (ds_set S.nd (i := 1) rfl (Or.inl rfl) (nin_of rfl) (de_lst da_nil))
    (dss_cons (ds_for (passes_of rfl) rfl (di_seq (de_varF 0)) (dg_name S.nd (i := 2) rfl (Or.inl rfl) (nin_of rfl)) (dss_one (ds_if (DPW.t (dw_and (dt_cmpD (dc_ne hr.units) (de_var 1 (nin_of rfl)) (de_lst da_nil)) (dw_and1 (dt_cmpD (dc_eq hr.units) (de_ix (de_ix (de_var 1 (nin_of rfl)) (de_neg de_int)) de_int) (de_var 2 (nin_of rfl)))))) (dss_one (ds_asg (de_tup (da_cons (de_varF 2) (da_cons (de_add (de_ix (de_ix (de_var 1 (nin_of rfl)) (de_neg de_int)) de_int) de_int) da_nil))) (dg_setIx 1 rfl (Or.inl rfl) (de_neg de_int)))) (dss_one (ds_expr (de_lm 1 PySem.F.slot_list_append PySem.F.type_list_append mt_append sl_append rfl (by first | exact Or.inl rfl | exact Or.inr (Or.inl rfl) | exact Or.inr (Or.inr rfl)) (da_cons (de_tup (da_cons (de_varF 2) (da_cons de_int da_nil))) da_nil)))))))
    (dss_one (ds_ret (de_varM 1)))))
theorem ixN_last {n : Nat} : ixN (n + 1) (-1) = some n := by unfold ixN; rw [if_neg (by decide), if_pos (by omega)]; congr 1; omega
theorem law__law_record (ts : List T) (Q : T → T → Prop) (W : Exn → T → Prop) (h : sp__law_record ts Q W) : dn__law_record (finX none W) (fin0 none Q) (slots0 3 ts) := by
  obtain ⟨cs, rfl, hl, q⟩ := h
  refine dSeq.mk (dSeq.mk ?_)
  show dFor _ _ _ ((cs.map PyData.int).map T.bor) _
  rw [List.map_map]
  refine for_pre cs _ (fun pre ρ => ∃  (x_change : T), ρ = [.bor (.list (cs.map .int)), .own ((runsOf pre).map drun), x_change]) ⟨_, rfl⟩ (fun pre c post ρ K e hp k => ?_) (fun ρ p => ?_)
  · obtain ⟨x_change, rfl⟩ := hp
    have hz : (runsOf pre).length < sizeLine := by
      have h1 := runsOf_len pre
      have h2 := congrArg List.length e
      simp only [List.length_append, List.length_cons] at h2
      exact Nat.lt_of_lt_of_le (by omega : _ < 1000001) (by decide)
    have en := runsOf_snoc pre c
    refine dg_i rfl (And.intro ((lay_runs (runsOf pre)).shaped (by decide)) (And.intro rfl (br_split (b := !PyData.eqv (.list ((runsOf pre).map drun)) (.list [])) (fun e => ?_) fun e => ?_)))
    · obtain ⟨p, hq⟩ := last_run (by simpa using e)
      have el := last_split hq
      refine wO_i (o := gI ((runsOf pre).map drun) (-1)) (gI_run hq) (And.intro rfl (And.intro rfl (br_split (b := PyData.eqv (.int p.1) (.int c)) (fun e2 => ?_) fun e2 => ?_)))
      · rw [eqv_int] at e2
        have ec : p.1 = c := by simpa using e2
        have e3 : runsOf (pre ++ [c]) = (runsOf pre).dropLast ++ [(c, 1 + p.2)] := by rw [en]; unfold mrgStep; simp only [hq]; rw [if_pos ec]
        refine wO_i (o := gI ((runsOf pre).map drun) (-1)) (gI_run hq) ?_
        have hd : ((runsOf pre).map drun).length = ((runsOf pre).dropLast.map drun).length + 1 := by rw [el]; simp
        refine wO_i (o := ixN ((runsOf pre).map drun).length (-1)) (d := ((runsOf pre).dropLast.map drun).length) (by rw [hd]; exact ixN_last) ?_
        have es : ((runsOf pre).map drun).set ((runsOf pre).dropLast.map drun).length (.tuple [.int c, .int (p.2 + 1)]) = (runsOf (pre ++ [c])).map drun := by
          rw [e3, List.map_append, Int.add_comm 1]
          have : (runsOf pre).map drun = (runsOf pre).dropLast.map drun ++ [drun p] := by rw [← List.map_singleton (f := drun), ← List.map_append, ← el]
          rw [this]
          simp [drun]
        refine k _ ?_
        rw [← es]
        exact ⟨_, rfl⟩
      · rw [eqv_int] at e2
        refine And.intro (a := ((runsOf pre).map drun).length < sizeLine) (by rw [List.length_map]; exact hz) (k _ ?_)
        have e3 : runsOf (pre ++ [c]) = runsOf pre ++ [(c, 1)] := by rw [en]; unfold mrgStep; simp only [hq]; rw [if_neg (by simpa using e2)]
        rw [e3]
        exact ⟨_, (by simp only [List.map_append]; rfl)⟩
    · have e0 : runsOf pre = [] := nil_run (by simpa using e)
      refine br_f rfl (And.intro (a := ((runsOf pre).map drun).length < sizeLine) (by rw [List.length_map]; exact hz) (k _ ?_))
      have e3 : runsOf (pre ++ [c]) = runsOf pre ++ [(c, 1)] := by rw [en, e0]; rfl
      rw [e3]
      exact ⟨_, (by simp only [List.map_append]; rfl)⟩
  · obtain ⟨x_change, rfl⟩ := p
    exact q

def sp__law_next : DSp := fun ts Q _ => ∃ (s : Sta) (c : Int), ts = [.bor (staD s), .bor (.int c)] ∧ 1 ≤ s.length ∧ s.length ≤ 1000 ∧ Q (.own ((nextS s c).map nxD)) .emp
theorem mono__law_next : Mono sp__law_next := fun ts R R' W W' hr _ ⟨s, c, e, h0, h, q⟩ => ⟨s, c, e, h0, h, hr _ _ q⟩
theorem use_next {s : Sta} {c : Int} {Q : T → T → Prop} {W : Exn → T → Prop} (h0 : 1 ≤ s.length) (h : s.length ≤ 1000) (q : Q (.own ((nextS s c).map nxD)) .emp) : Spc sp__law_next [.bor (staD s), .bor (.int c)] Q W := ⟨⟨s, c, rfl, h0, h, q⟩⟩
def nextTo (s : Sta) (c : Int) (i : Nat) : List (Nat × Sta) := ((List.range i).filter fun k => canR s k && decide (ownC s.length k = c)).map fun k => (k, incS s k)
theorem nextTo_succ (s : Sta) (c : Int) (i : Nat) : nextTo s c (i + 1) = nextTo s c i ++ if canR s i = true ∧ ownC s.length i = c then [(i, incS s i)] else [] := by
  unfold nextTo
  rw [List.range_succ, List.filter_append, List.map_append]
  congr 1
  by_cases h : canR s i = true ∧ ownC s.length i = c
  · rw [if_pos h, List.filter_cons_of_pos (by simp [h.1, h.2])]; rfl
  · rw [if_neg h, List.filter_cons_of_neg (by simpa using h)]; rfl

def ms__law_next : List Md := [.bor, .bor]
def dn__law_next (Wd : Exn → List T → Prop) : DS := (dSeq (dPar (dCons (dLst dNil) (dCons (dOp dSub (dCB dLen (dCons (dVar 0) dNil)) (dC (.int 1))) dNil)) (dgCons (dgName 2) (dgCons (dgName 3) dgNil)))
    (dSeq (dForS (dRange1 (dCons (dCB dLen (dCons (dVar 0) dNil)) dNil)) (dgName 4) (dIfS ((dOrT (tVal (dOp dEq (dVar 4) (dC (.int 0)))) (tVal (dOp dLt (dOp dIx (dVar 0) (dVar 4)) (dOp dIx (dVar 0) (dOp dSub (dVar 4) (dC (.int 1)))))))) (dSeq (dAsg (dIf (tVal (dOp dEq (dVar 3) (dC (.int 0)))) (dC (.int 0)) (dOp dSub (dCB dInt (dCons (dOp dEq (dVar 4) (dC (.int 0))) dNil)) (dCB dInt (dCons (dOp dEq (dVar 4) (dVar 3)) dNil)))) (dgName 5))
    (dIfS (tVal (dOp dEq (dVar 5) (dVar 1))) (dDrop (dLm 2 lmAppend (dCons (dTup (dCons (dVarF 4) (dCons (dOp dAdd (dOp dAdd (dSl (dVar 0) dNoPart (dPart (dVar 4))) (dLst (dCons (dOp dAdd (dOp dIx (dVar 0) (dVar 4)) (dC (.int 1))) dNil))) (dSl (dVar 0) (dPart (dOp dAdd (dVar 4) (dC (.int 1)))) dNoPart)) dNil))) dNil))) dNext)) dNext))
    (dRet (dVarM 2))))
abbrev st__law_next : Stmt := PySem.Challenge.pw_teesizes_k14_first_obstructions.main.body.getD 30 (.Pass ⟨0, 0, 0, 0⟩)
abbrev N__law_next : List Str := ["state", "change", "found", "last", "rank", "own"]
theorem sc__law_next : FnScope N__law_next ["state", "change"] (defScope st__law_next) := ⟨rfl, rfl, rfl, by decide +kernel, rfl, by decide +kernel, by decide +kernel⟩
theorem dp__law_next {P : Program} {w : World} {K : PySem.W.Frag} {mg : Str → Option Value} {base : Heap} {f : Addr} {cdv : Value} {A : Around} {os : List Env} {s : Shared} {H : Hp} {E : XK} {Wd : Exn → List T → Prop} {B0 : Addr → Prop} {o : List Addr} {vs : List V} (n_int : mg "int" = none) (n_len : mg "len" = none) (n_range : mg "range" = none)
    (hr : RoomG 0 (A.deeper (PyProof.Rows.envOfC "_law_next" (defScope st__law_next) s.heap.objs.size f cdv))) (tk : DTk (ctxOf P w K mg base N__law_next "_law_next" (defScope st__law_next) f cdv A os s H E Wd B0 o none vs [])) :
    DPSs (ctxOf P w K mg base N__law_next "_law_next" (defScope st__law_next) f cdv A os s H E Wd B0 o none vs []) (defBody st__law_next) (dn__law_next Wd) :=
  have S := sc__law_next
  (dss_cons (ds_par (i := 2) (j := 3) rfl S.nd rfl rfl rfl rfl rfl (nin_of rfl) (nin_of rfl) (da_cons (de_lst da_nil) (da_cons (de_sub (de_len rfl n_len (da_cons (de_var 0 (nin_of rfl)) da_nil)) de_int) da_nil)))
    (dss_cons (ds_for (passes_of rfl) rfl (di_range1 rfl n_range (da_cons (de_len rfl n_len (da_cons (de_var 0 (nin_of rfl)) da_nil)) da_nil)) (dg_name S.nd (i := 4) rfl (Or.inl rfl) (nin_of rfl)) (dss_one (ds_if (DPW.t (dw_or (dt_cmpD (dc_eq hr.units) (de_var 4 (nin_of rfl)) de_int) (dw_or1 (dt_cmpD dc_lt (de_ix (de_var 0 (nin_of rfl)) (de_var 4 (nin_of rfl))) (de_ix (de_var 0 (nin_of rfl)) (de_sub (de_var 4 (nin_of rfl)) de_int)))))) (dss_cons (ds_set S.nd (i := 5) rfl (Or.inl rfl) (nin_of rfl) (de_if (dt_cmpD (dc_eq hr.units) (de_var 3 (nin_of rfl)) de_int) de_int (de_sub (de_int1 rfl n_int (da_cons (de_cmpD (dc_eq hr.units) (de_var 4 (nin_of rfl)) de_int) da_nil)) (de_int1 rfl n_int (da_cons (de_cmpD (dc_eq hr.units) (de_var 4 (nin_of rfl)) (de_var 3 (nin_of rfl))) da_nil)))))
    (dss_one (ds_if (dt_cmpD (dc_eq hr.units) (de_var 5 (nin_of rfl)) (de_var 1 (nin_of rfl))) (dss_one (ds_expr (de_lm 2 PySem.F.slot_list_append PySem.F.type_list_append mt_append sl_append rfl (by first | exact Or.inl rfl | exact Or.inr (Or.inl rfl) | exact Or.inr (Or.inr rfl)) (da_cons (de_tup (da_cons (de_varF 4) (da_cons (de_add (de_add (de_slice (de_var 0 (nin_of rfl)) do_none (do_some (de_var 4 (nin_of rfl)))) (de_lst (da_cons (de_add (de_ix (de_var 0 (nin_of rfl)) (de_var 4 (nin_of rfl))) de_int) da_nil))) (de_slice (de_var 0 (nin_of rfl)) (do_some (de_add (de_var 4 (nin_of rfl)) de_int)) do_none)) da_nil))) da_nil)))) dss_nil))) dss_nil)))
    (dss_one (ds_ret (de_varM 2)))))
theorem law__law_next (ts : List T) (Q : T → T → Prop) (W : Exn → T → Prop) (h : sp__law_next ts Q W) : dn__law_next (finX none W) (fin0 none Q) (slots0 6 ts) := by
  obtain ⟨s, c, rfl, h0, hl, q⟩ := h
  have lm : ((s.map PyData.int).length : Int) = s.length := by rw [List.length_map]
  refine dSeq.mk (dSeq.mk ?_)
  refine And.intro (a := -(2 ^ 62) ≤ ((s.map PyData.int).length : Int) ∧ ((s.map PyData.int).length : Int) < 2 ^ 62) (by omega) ?_
  have ln : (((s.map PyData.int).length : Int)).toNat = s.length := by omega
  refine (show dFor _ _ _ (rngT 0 (((s.map PyData.int).length : Int)).toNat) [.bor (staD s), .bor (.int c), .own [], .dat (.int (((s.map PyData.int).length : Int) - 1)), .emp, .emp] from ?_)
  rw [ln, lm]
  refine dFor_inv (fun i ρ => ∃  (x_rank x_own : T), ρ = [.bor (staD s), .bor (.int c), .own ((nextTo s c i).map nxD), .dat (.int ((s.length : Int) - 1)), x_rank, x_own]) ⟨_, _, rfl⟩ (fun i t ρ K et p k => ?_) (fun ρ p => ?_)
  · obtain ⟨x_rank, x_own, rfl⟩ := p
    obtain ⟨hi, rfl⟩ := rngT_get et
    have hnl : (nextTo s c i).length ≤ i := by
      unfold nextTo
      rw [List.length_map]
      exact Nat.le_trans (List.length_filter_le ..) (by simp)
    have skip : ¬ (canR s i = true ∧ ownC s.length i = c) → ∀ ρ, (∃  (x_rank x_own : T), ρ = [.bor (staD s), .bor (.int c), .own ((nextTo s c i).map nxD), .dat (.int ((s.length : Int) - 1)), x_rank, x_own]) → K ρ := fun h ρ p => by
      obtain ⟨x_rank, x_own, rfl⟩ := p
      have e := nextTo_succ s c i
      rw [if_neg h, List.append_nil] at e
      refine k _ ?_
      rw [e]
      exact ⟨_, _, rfl⟩
    refine dg_i rfl ?_
    have inner : canR s i = true → dSeq (dAsg (dIf (tVal (dOp dEq (dVar 3) (dC (.int 0)))) (dC (.int 0)) (dOp dSub (dCB dInt (dCons (dOp dEq (dVar 4) (dC (.int 0))) dNil)) (dCB dInt (dCons (dOp dEq (dVar 4) (dVar 3)) dNil)))) (dgName 5))
        (dIfS (tVal (dOp dEq (dVar 5) (dVar 1))) (dDrop (dLm 2 lmAppend (dCons (dTup (dCons (dVarF 4) (dCons (dOp dAdd (dOp dAdd (dSl (dVar 0) dNoPart (dPart (dVar 4))) (dLst (dCons (dOp dAdd (dOp dIx (dVar 0) (dVar 4)) (dC (.int 1))) dNil))) (dSl (dVar 0) (dPart (dOp dAdd (dVar 4) (dC (.int 1)))) dNoPart)) dNil))) dNil))) dNext)
        { nx := K, rt := (fin0 none Q).rt, bk := fun ρ1 => dRet (dVarM 2) (fin0 none Q) ρ1, ct := K } [.bor (staD s), .bor (.int c), .own ((nextTo s c i).map nxD), .dat (.int ((s.length : Int) - 1)), .dat (.int (0 + (i : Nat))), x_own] := fun hc => by
      refine dSeq_cut (fun ρ => ρ = [.bor (staD s), .bor (.int c), .own ((nextTo s c i).map nxD), .dat (.int ((s.length : Int) - 1)), .dat (.int (0 + (i : Nat))), .dat (.int (ownC s.length i))]) (fun K' k' => ?_) fun ρ p => ?_
      · refine And.intro rfl (And.intro rfl (br_split (b := PyData.eqv (.int ((s.length : Int) - 1)) (.int 0)) (fun e => ?_) fun e => ?_))
        · rw [eqv_int] at e
          have e : (s.length : Int) - 1 = 0 := by simpa using e
          refine k' _ ?_
          have v : (0 : Int) = ownC s.length i := by unfold ownC; rw [if_pos (by omega)]
          rw [← v]; rfl
        · rw [eqv_int] at e
          have e : ¬ (s.length : Int) - 1 = 0 := by simpa using e
          refine And.intro rfl (And.intro rfl (And.intro rfl (And.intro rfl (k' _ ?_))))
          have v : (if PyData.eqv (.int (0 + (i : Nat))) (.int 0) = true then (1 : Int) else 0) - (if PyData.eqv (.int (0 + (i : Nat))) (.int ((s.length : Int) - 1)) = true then 1 else 0) = ownC s.length i := by
            unfold ownC
            rw [if_neg (show ¬ s.length = 1 by omega), eqv_int, eqv_int]
            simp only [beq_iff_eq]
            congr 1
            · split <;> split <;> omega
            · split <;> split <;> omega
          rw [← v]; rfl
      subst p
      refine And.intro rfl (And.intro rfl (br_split (b := PyData.eqv (.int (ownC s.length i)) (.int c)) (fun e => ?_) fun e => ?_))
      · rw [eqv_int] at e
        have e : ownC s.length i = c := by simpa using e
        have sf : ∀ d ∈ s.map PyData.int, Ds.safe d = true := fun d hd => by obtain ⟨p, _, rfl⟩ := List.mem_map.mp hd; rfl
        refine wO_i (o := gI (s.map PyData.int) (0 + (i : Nat))) (gI_sta (by omega) (by omega)) ?_
        have c1 : cut (s.map PyData.int) none (some (0 + (i : Nat) : Int)) = (s.take i).map .int := by rw [show (0 + (i : Nat) : Int) = (i : Nat) by omega, cut_to, List.map_take]
        have c2 : cut (s.map PyData.int) (some (0 + (i : Nat) + 1 : Int)) none = (s.drop (i + 1)).map .int := by rw [show (0 + (i : Nat) + 1 : Int) = ((i + 1 : Nat) : Int) by omega, cut_from, List.map_drop]
        refine And.intro (safeL_of fun d hd => sf d (cut_mem hd)) (And.intro (a := (cut (s.map PyData.int) none (some (0 + (i : Nat) : Int))).length + 1 ≤ sizeLine) (by rw [c1]; simp; exact Nat.le_trans (by omega : _ ≤ 1001) (by decide)) ?_)
        refine And.intro (safeL_of fun d hd => sf d (cut_mem hd)) (And.intro (a := (cut (s.map PyData.int) none (some (0 + (i : Nat) : Int)) ++ [PyData.int (s.getD (0 + (i : Nat) : Int).toNat 0 + 1)]).length + (cut (s.map PyData.int) (some (0 + (i : Nat) + 1 : Int)) none).length ≤ sizeLine) (by rw [c1, c2]; simp; exact Nat.le_trans (by omega : _ ≤ 3000) (by decide)) ?_)
        refine And.intro (a := ((nextTo s c i).map nxD).length < sizeLine) (by rw [List.length_map]; exact Nat.lt_of_lt_of_le (by omega : _ < 1001) (by decide)) (k _ ?_)
        have en := nextTo_succ s c i
        rw [if_pos ⟨hc, e⟩] at en
        rw [en, List.map_append]
        have ed : PyData.tuple [.int (0 + (i : Nat)), .list (cut (s.map PyData.int) none (some (0 + (i : Nat) : Int)) ++ [PyData.int (s.getD (0 + (i : Nat) : Int).toNat 0 + 1)] ++ cut (s.map PyData.int) (some (0 + (i : Nat) + 1 : Int)) none)] = nxD (i, incS s i) := by
          rw [c1, c2, show (0 + (i : Nat) : Int).toNat = i by omega, show (0 + (i : Nat) : Int) = (i : Nat) by omega]
          unfold nxD staD
          rw [← inc_cut (by omega), List.map_append, List.map_append]; rfl
        refine ⟨_, _, congrArg (fun z => [T.bor (staD s), .bor (.int c), .own ((nextTo s c i).map nxD ++ [z]), .dat (.int ((s.length : Int) - 1)), .dat (.int (0 + (i : Nat))), .dat (.int (ownC s.length i))]) ed⟩
      · rw [eqv_int] at e
        have e : ¬ ownC s.length i = c := by simpa using e
        exact skip (fun z => e z.2) _ ⟨_, _, rfl⟩
    refine And.intro rfl (And.intro rfl (br_split (b := PyData.eqv (.int (0 + (i : Nat))) (.int 0)) (fun e => ?_) fun e => ?_))
    · rw [eqv_int] at e
      have e : (0 + (i : Nat) : Int) = 0 := by simpa using e
      exact br_t rfl (inner (by unfold canR; exact decide_eq_true (.inl (by omega))))
    · rw [eqv_int] at e
      have e : ¬ (0 + (i : Nat) : Int) = 0 := by simpa using e
      refine wO_i (o := gI (s.map PyData.int) (0 + (i : Nat))) (gI_sta (by omega) (by omega)) (wO_i (o := gI (s.map PyData.int) (0 + (i : Nat) - 1)) (gI_sta (by omega) (by omega)) ?_)
      have e1 : (0 + (i : Nat) : Int).toNat = i := by omega
      have e2 : (0 + (i : Nat) - 1 : Int).toNat = i - 1 := by omega
      rw [e1, e2]
      refine br_dec (c := s.getD i 0 < s.getD (i - 1) 0) (fun h => inner (by unfold canR; exact decide_eq_true (.inr h))) fun h => ?_
      refine skip (fun z => ?_) _ ⟨_, _, rfl⟩
      have := z.1
      unfold canR at this
      rcases of_decide_eq_true this with w | w
      · omega
      · exact h w
  · obtain ⟨x_rank, x_own, rfl⟩ := p
    have e : nextTo s c (rngT 0 s.length).length = nextS s c := by rw [rngT_len]; rfl
    rw [← e] at q
    exact q

def sp__law_layers : DSp := fun ts Q _ => ∃ (R : Int) (cs : List Int), ts = [.bor (.int R), .bor (.list (cs.map .int))] ∧ 1 ≤ R ∧ R ≤ 1000 ∧ cs.length ≤ 10 ∧
  (layS R.toNat cs ≠ [] → Q (.own ((prunS [zeroS R.toNat] cs).map layD)) .emp) ∧ (layS R.toNat cs = [] → Q (.dat .none) .emp)
theorem mono__law_layers : Mono sp__law_layers := fun ts R R' W W' hr _ ⟨a, cs, e, h1, h2, h3, q1, q2⟩ => ⟨a, cs, e, h1, h2, h3, fun z => hr _ _ (q1 z), fun z => hr _ _ (q2 z)⟩
theorem use_layers {R : Int} {cs : List Int} {Q : T → T → Prop} {W : Exn → T → Prop} (h1 : 1 ≤ R) (h2 : R ≤ 1000) (h3 : cs.length ≤ 10) (q1 : layS R.toNat cs ≠ [] → Q (.own ((prunS [zeroS R.toNat] cs).map layD)) .emp) (q2 : layS R.toNat cs = [] → Q (.dat .none) .emp) : Spc sp__law_layers [.bor (.int R), .bor (.list (cs.map .int))] Q W := ⟨⟨R, cs, rfl, h1, h2, h3, q1, q2⟩⟩

def ms__law_layers : List Md := [.bor, .bor]
def dn__law_layers (Wd : Exn → List T → Prop) : DS := (dSeq (dAsg (dLst (dCons (dLst (dCons (dOp dMul (dLst (dCons (dC (.int 0)) dNil)) (dVar 0)) dNil)) dNil)) (dgName 2))
    (dSeq (dForS (dSeqI (dVarF 1)) (dgName 3) (dSeq (dAsg (dLst dNil) (dgName 4))
    (dSeq (dForS (dSeqI (dOp dIx (dVar 2) (dUn dNeg (dC (.int 1))))) (dgName 5) (dForS (dSeqI (dCall ms__law_next sp__law_next Wd (dCons (dVar 5) (dCons (dVar 3) dNil)))) (dgTup 2 (dgCons (dgName 6) (dgCons (dgName 7) dgNil))) (dIfS (tVal (dOp dNotIn (dVarF 7) (dVar 4))) (dDrop (dLm 4 lmAppend (dCons (dVarF 7) dNil))) dNext)))
    (dDrop (dLm 2 lmAppend (dCons (dVarF 4) dNil))))))
    (dSeq (dForS (dRange3 (dCons (dOp dSub (dCB dLen (dCons (dVar 1) dNil)) (dC (.int 1))) (dCons (dUn dNeg (dC (.int 1))) (dCons (dUn dNeg (dC (.int 1))) dNil)))) (dgName 8) (dSeq (dAsg (dLst dNil) (dgName 9))
    (dSeq (dForS (dSeqI (dOp dIx (dVar 2) (dVar 8))) (dgName 5) (dIfS (tVal (dOp dNe (dLc (dSeqI (dCall ms__law_next sp__law_next Wd (dCons (dVar 5) (dCons (dOp dIx (dVar 1) (dVar 8)) dNil)))) (Tgt.many [6, 7]).d (tVal (dOp dIn (dVarF 7) (dOp dIx (dVar 2) (dOp dAdd (dVar 8) (dC (.int 1)))))) (dVarF 7) [6, 7]) (dLst dNil))) (dDrop (dLm 9 lmAppend (dCons (dVarF 5) dNil))) dNext))
    (dAsg (dVarF 9) (dSetIx 2 (dVar 8))))))
    (dRet (dIf (tVal (dOp dNe (dOp dIx (dVar 2) (dC (.int 0))) (dLst dNil))) (dVarM 2) (dC .none))))))
abbrev st__law_layers : Stmt := PySem.Challenge.pw_teesizes_k14_first_obstructions.main.body.getD 31 (.Pass ⟨0, 0, 0, 0⟩)
abbrev N__law_layers : List Str := ["readers", "changes", "layers", "change", "later", "state", "rank", "other", "at", "kept"]
theorem sc__law_layers : FnScope N__law_layers ["readers", "changes"] (defScope st__law_layers) := ⟨rfl, rfl, rfl, by decide +kernel, rfl, by decide +kernel, by decide +kernel⟩
theorem dp__law_layers {P : Program} {w : World} {K : PySem.W.Frag} {mg : Str → Option Value} {base : Heap} {f : Addr} {cdv : Value} {A : Around} {os : List Env} {s : Shared} {H : Hp} {E : XK} {Wd : Exn → List T → Prop} {B0 : Addr → Prop} {o : List Addr} {vs : List V} (n_len : mg "len" = none) (n_range : mg "range" = none) (h__law_next : Has P w K mg base "_law_next" 1 ["state", "change"] ms__law_next sp__law_next)
    (hr : RoomG 1 (A.deeper (PyProof.Rows.envOfC "_law_layers" (defScope st__law_layers) s.heap.objs.size f cdv))) (tk : DTk (ctxOf P w K mg base N__law_layers "_law_layers" (defScope st__law_layers) f cdv A os s H E Wd B0 o none vs [6, 7])) :
    DPSs (ctxOf P w K mg base N__law_layers "_law_layers" (defScope st__law_layers) f cdv A os s H E Wd B0 o none vs [6, 7]) (defBody st__law_layers) (dn__law_layers Wd) :=
  have S := sc__law_layers
  (dss_cons (ds_set S.nd (i := 2) rfl (Or.inr rfl) (nin_of rfl) (de_lst (da_cons (de_lst (da_cons (de_mul (de_lst (da_cons de_int da_nil)) (de_var 0 (nin_of rfl))) da_nil)) da_nil)))
    (dss_cons (ds_for (passes_of rfl) rfl (di_seq (de_varF 1)) (dg_name S.nd (i := 3) rfl (Or.inl rfl) (nin_of rfl)) (dss_cons (ds_set S.nd (i := 4) rfl (Or.inl rfl) (nin_of rfl) (de_lst da_nil))
    (dss_cons (ds_for (passes_of rfl) rfl (di_seq (de_ix (de_var 2 (nin_of rfl)) (de_neg de_int))) (dg_name S.nd (i := 5) rfl (Or.inl rfl) (nin_of rfl)) (dss_one (ds_for (passes_of rfl) rfl (di_seq (de_fn h__law_next hr (by decide) tk rfl (da_cons (de_var 5 (nin_of rfl)) (da_cons (de_var 3 (nin_of rfl)) da_nil)))) (dg_tup rfl (dgs_cons (dg_name S.nd (i := 6) rfl (Or.inl rfl) (nin_of rfl)) (dgs_cons (dg_name S.nd (i := 7) rfl (Or.inl rfl) (nin_of rfl)) dgs_nil))) (dss_one (ds_if (dt_cmpD (dc_notIn hr.u65 rfl) (de_varF 7) (de_var 4 (nin_of rfl))) (dss_one (ds_expr (de_lm 4 PySem.F.slot_list_append PySem.F.type_list_append mt_append sl_append rfl (by first | exact Or.inl rfl | exact Or.inr (Or.inl rfl) | exact Or.inr (Or.inr rfl)) (da_cons (de_varF 7) da_nil)))) dss_nil)))))
    (dss_one (ds_expr (de_lm 2 PySem.F.slot_list_append PySem.F.type_list_append mt_append sl_append rfl (by first | exact Or.inl rfl | exact Or.inr (Or.inl rfl) | exact Or.inr (Or.inr rfl)) (da_cons (de_varF 4) da_nil)))))))
    (dss_cons (ds_for (passes_of rfl) rfl (di_range3 rfl n_range (da_cons (de_sub (de_len rfl n_len (da_cons (de_var 1 (nin_of rfl)) da_nil)) de_int) (da_cons (de_neg de_int) (da_cons (de_neg de_int) da_nil)))) (dg_name S.nd (i := 8) rfl (Or.inr rfl) (nin_of rfl)) (dss_cons (ds_set S.nd (i := 9) rfl (Or.inl rfl) (nin_of rfl) (de_lst da_nil))
    (dss_cons (ds_for (passes_of rfl) rfl (di_seq (de_ix (de_var 2 (nin_of rfl)) (de_var 8 (nin_of rfl)))) (dg_name S.nd (i := 5) rfl (Or.inl rfl) (nin_of rfl)) (dss_one (ds_if (dt_cmpD (dc_ne hr.units) (de_lc rfl S.nd (own := [(("rank" : Str), 6), (("other" : Str), 7)]) (tg := (Tgt.many [6, 7])) (di_seq (de_fn h__law_next hr (by decide) tk rfl (da_cons (de_var 5 (nin_of rfl)) (da_cons (de_ix (de_var 1 (nin_of rfl)) (de_var 8 (nin_of rfl))) da_nil)))) (blk_of (N := N__law_layers) (sc := defScope st__law_layers) (by decide +kernel)) (tgt_many rfl S.nd (.cons rfl (Or.inl rfl) rfl (.cons rfl (Or.inl rfl) rfl .nil))) (fun _ _ _ _ _ => (dts_one (dt_cmpD (dc_in hr.u65 rfl) (de_varF 7) (de_ix (de_var 2 (nin_of rfl)) (de_add (de_var 8 (nin_of rfl)) de_int))))) (fun _ _ _ _ _ => (de_varF 7)) (by decide) (own_of rfl)) (de_lst da_nil)) (dss_one (ds_expr (de_lm 9 PySem.F.slot_list_append PySem.F.type_list_append mt_append sl_append rfl (by first | exact Or.inl rfl | exact Or.inr (Or.inl rfl) | exact Or.inr (Or.inr rfl)) (da_cons (de_varF 5) da_nil)))) dss_nil)))
    (dss_one (ds_asg (de_varF 9) (dg_setIx 2 rfl (Or.inr (Or.inl rfl)) (de_var 8 (nin_of rfl))))))))
    (dss_one (ds_ret (de_if (dt_cmpD (dc_ne hr.units) (de_ix (de_var 2 (nin_of rfl)) de_int) (de_lst da_nil)) (de_varM 2) de_non))))))
theorem law__law_layers (ts : List T) (Q : T → T → Prop) (W : Exn → T → Prop) (h : sp__law_layers ts Q W) : dn__law_layers (finX none W) (fin0 none Q) (slots0 10 ts) := by
  obtain ⟨R, cs, rfl, R1, R2, hl, q1, q2⟩ := h
  have hR : 1 ≤ R.toNat := by omega
  refine dSeq_cut (fun ρ => ∃  (x_change x_later x_state x_at x_kept : T), ρ = [.bor (.int R), .bor (.list (cs.map .int)), .own ((fwdS R.toNat []).map layD), x_change, x_later, x_state, .emp, .emp, x_at, x_kept]) (fun K k => ?_) fun ρ p => ?_
  · refine And.intro (a := -(2 ^ 63) ≤ R ∧ R < 2 ^ 63 ∧ 1 * R.toNat ≤ sizeLine) ⟨by omega, by omega, Nat.le_trans (by omega : _ ≤ 1000) (by decide)⟩ (k _ ?_)
    have e : PyData.list [.list (List.replicate R.toNat [PyData.int 0]).flatten] = layD [zeroS R.toNat] := by rw [rep_zero]; rfl
    exact ⟨_, _, _, _, _, congrArg (fun z => [T.bor (.int R), .bor (.list (cs.map .int)), .own [z], .emp, .emp, .emp, .emp, .emp, .emp, .emp]) e⟩
  obtain ⟨x_change, x_later, x_state, x_at, x_kept, rfl⟩ := p
  refine dSeq_cut (fun ρ => ∃  (x_change x_later x_state x_rank x_other x_at x_kept : T), ρ = [.bor (.int R), .bor (.list (cs.map .int)), .own ((fwdS R.toNat cs).map layD), x_change, x_later, x_state, x_rank, x_other, x_at, x_kept]) (fun K k => ?_) fun ρ p => ?_
  · show dFor _ _ _ ((cs.map PyData.int).map T.bor) _
    rw [List.map_map]
    refine for_pre cs _ (fun pre ρ => ∃  (x_change x_later x_state x_rank x_other x_at x_kept : T), ρ = [.bor (.int R), .bor (.list (cs.map .int)), .own ((fwdS R.toNat pre).map layD), x_change, x_later, x_state, x_rank, x_other, x_at, x_kept]) ⟨_, _, _, _, _, _, _, rfl⟩ (fun pre c post ρ K2 e hp k2 => ?_) (fun ρ hp => ?_)
    · obtain ⟨x_change, x_later, x_state, x_rank, x_other, x_at, x_kept, rfl⟩ := hp
      have hpl : pre.length < 10 := by have := congrArg List.length e; simp at this; omega
      have hF := lay_le hR _ pre rfl
      have hG := good_lay hR pre
      have f10 : factS (pre.length + 1) ≤ 3628800 := fact10 (by omega)
      have fe : factS (pre.length + 1) = factS pre.length * (pre.length + 1) := rfl
      refine dg_i rfl (dSeq.mk ?_)
      refine dSeq_cut (fun ρ => ∃  (x_change x_state x_rank x_other x_at x_kept : T), ρ = [.bor (.int R), .bor (.list (cs.map .int)), .own ((fwdS R.toNat pre).map layD), x_change, .own ((layS R.toNat (pre ++ [c])).map staD), x_state, x_rank, x_other, x_at, x_kept]) (fun K3 k3 => ?_) fun ρ p => ?_
      · refine wO_i (o := gI ((fwdS R.toNat pre).map layD) (-1)) (d := layD (layS R.toNat pre)) (by rw [gI_last, List.getLast?_map, List.getLast?_eq_getElem?, fwd_len, Nat.add_sub_cancel, fwd_get (Nat.le_refl _), List.take_length]; rfl) ?_
        show dFor _ _ _ (((layS R.toNat pre).map staD).map T.dat) _
        rw [List.map_map]
        rw [layS_snoc] at k3
        generalize layS R.toNat pre = F at hF hG k3 ⊢
        refine for_pre F _ (fun p1 ρ => ∃  (x_state x_rank x_other x_at x_kept : T), ρ = [.bor (.int R), .bor (.list (cs.map .int)), .own ((fwdS R.toNat pre).map layD), .bor (.int c), .own (((p1.flatMap fun s => (nextS s c).map (·.2)).foldl addNew []).map staD), x_state, x_rank, x_other, x_at, x_kept]) ⟨_, _, _, _, _, rfl⟩ (fun p1 s post1 ρ K4 e1 hp k4 => ?_) (fun ρ hp => ?_)
        · obtain ⟨x_state, x_rank, x_other, x_at, x_kept, rfl⟩ := hp
          have gs := hG s (by rw [e1]; simp)
          have hsl := gs.len
          have b1 : (p1.flatMap fun s => (nextS s c).map (·.2)).length ≤ p1.length * (pre.length + 1) := flat_le fun x hx => next_le (hG x (by rw [e1]; simp [hx])) hR c
          have b2 := addNew_len (p1.flatMap fun s => (nextS s c).map (·.2)) []
          have b3 := next_le gs hR c
          have b4 : p1.length + 1 ≤ F.length := by have := congrArg List.length e1; simp at this; omega
          have b5 : (p1.length + 1) * (pre.length + 1) ≤ factS (pre.length + 1) := by rw [fe]; exact Nat.mul_le_mul_right _ (Nat.le_trans b4 hF)
          rw [Nat.add_mul] at b5
          rw [List.length_nil, Nat.zero_add] at b2
          have b6 : ((p1.flatMap fun s => (nextS s c).map (·.2)).foldl addNew []).length + (nextS s c).length ≤ 3628800 := by omega
          have en : ((p1 ++ [s]).flatMap fun s => (nextS s c).map (·.2)).foldl addNew [] = ((nextS s c).map (·.2)).foldl addNew ((p1.flatMap fun s => (nextS s c).map (·.2)).foldl addNew []) := by
            rw [List.flatMap_append, List.foldl_append]; simp
          rw [en] at k4
          generalize (p1.flatMap fun s => (nextS s c).map (·.2)).foldl addNew [] = acc at b6 k4 ⊢
          refine dg_i rfl (use_next (by omega) (by omega) ?_)
          refine wO_i rfl ?_
          refine (show dFor _ _ _ (((nextS s c).map nxD).map T.dat) _ from ?_)
          rw [List.map_map]
          refine for_pre (nextS s c) _ (fun p2 ρ => ∃  (x_state x_rank x_other x_at x_kept : T), ρ = [.bor (.int R), .bor (.list (cs.map .int)), .own ((fwdS R.toNat pre).map layD), .bor (.int c), .own (((p2.map (·.2)).foldl addNew acc).map staD), x_state, x_rank, x_other, x_at, x_kept]) ⟨_, _, _, _, _, rfl⟩ (fun p2 o post2 ρ K5 e2 hp k5 => ?_) (fun ρ hp => ?_)
          · obtain ⟨x_state, x_rank, x_other, x_at, x_kept, rfl⟩ := hp
            have b7 := addNew_len (p2.map (·.2)) acc
            have b8 : p2.length + 1 ≤ (nextS s c).length := by have := congrArg List.length e2; simp at this; omega
            rw [List.length_map] at b7
            rw [List.map_append, List.foldl_append] at k5
            generalize (p2.map (·.2)).foldl addNew acc = a2 at b7 k5 ⊢
            refine And.intro rfl (And.intro (sh_sta o.2) (And.intro (sh_stas a2) (br_split (b := !(a2.map staD).any fun z => PyData.eqv z (staD o.2)) (fun e => ?_) fun e => ?_)))
            · rw [any_sta] at e
              have e : ¬ o.2 ∈ a2 := by simpa using e
              refine And.intro (a := (a2.map staD).length < sizeLine) (by rw [List.length_map]; exact Nat.lt_of_le_of_lt (by omega : _ ≤ 3628800) (by decide)) (k5 _ ?_)
              have : ([o].map (·.2)).foldl addNew a2 = a2 ++ [o.2] := by show addNew a2 o.2 = _; unfold addNew; rw [if_neg e]
              rw [this, List.map_append]
              exact ⟨_, _, _, _, _, rfl⟩
            · rw [any_sta] at e
              have e : o.2 ∈ a2 := by simpa using e
              refine k5 _ ?_
              have : ([o].map (·.2)).foldl addNew a2 = a2 := by show addNew a2 o.2 = _; unfold addNew; rw [if_pos e]
              rw [this]
              exact ⟨_, _, _, _, _, rfl⟩
          · obtain ⟨x_state, x_rank, x_other, x_at, x_kept, rfl⟩ := hp
            exact k4 _ ⟨_, _, _, _, _, rfl⟩
        · obtain ⟨x_state, x_rank, x_other, x_at, x_kept, rfl⟩ := hp
          exact k3 _ ⟨_, _, _, _, _, _, rfl⟩
      obtain ⟨x_change, x_state, x_rank, x_other, x_at, x_kept, rfl⟩ := p
      refine And.intro (a := ((fwdS R.toNat pre).map layD).length < sizeLine) (by rw [List.length_map, fwd_len]; exact Nat.lt_of_lt_of_le (by omega : _ < 100) (by decide)) (k2 _ ?_)
      rw [fwd_snoc, List.map_append]
      exact ⟨_, _, _, _, _, _, _, rfl⟩
    · obtain ⟨x_change, x_later, x_state, x_rank, x_other, x_at, x_kept, rfl⟩ := hp
      exact k _ ⟨_, _, _, _, _, _, _, rfl⟩
  obtain ⟨x_change, x_later, x_state, x_rank, x_other, x_at, x_kept, rfl⟩ := p
  have len1 : (((cs.map PyData.int).length : Int)) = cs.length := by rw [List.length_map]
  refine dSeq_cut (fun ρ => ∃  (x_change x_later x_state x_rank x_other x_at x_kept : T), ρ = [.bor (.int R), .bor (.list (cs.map .int)), .own ((prunS [zeroS R.toNat] cs).map layD), x_change, x_later, x_state, x_rank, x_other, x_at, x_kept]) (fun K k => ?_) fun ρ p => ?_
  · have rg : RgC (((cs.map PyData.int).length : Int) - 1) (-1) (-1) cs.length := by
      have h := RgC.neg (i := ((cs.map PyData.int).length : Int) - 1) (j := -1) (by omega) (by omega) (by decide) (by decide)
      rwa [show (((cs.map PyData.int).length : Int) - 1 - -1).toNat = cs.length by omega] at h
    refine ⟨cs.length, rg, ?_⟩
    rw [len1]
    have e0 := mid_top R.toNat cs
    rw [← e0]
    refine dFor_inv (fun j ρ => ∃  (x_change x_later x_state x_rank x_other x_at x_kept : T), ρ = [.bor (.int R), .bor (.list (cs.map .int)), .own ((midS R.toNat cs (cs.length - j)).map layD), x_change, x_later, x_state, x_rank, x_other, x_at, x_kept]) ⟨_, _, _, _, _, _, _, rfl⟩ (fun j t ρ K2 et p k2 => ?_) (fun ρ p => ?_)
    · obtain ⟨x_change, x_later, x_state, x_rank, x_other, x_at, x_kept, rfl⟩ := p
      obtain ⟨hj, rfl⟩ := rngT3_get et
      obtain ⟨i, hi⟩ : ∃ i, cs.length - j = i + 1 := ⟨cs.length - j - 1, by omega⟩
      have hi2 : cs.length - (j + 1) = i := by omega
      have hv : (cs.length : Int) - 1 + (j : Nat) * -1 = (i : Nat) := by omega
      have hic : i < cs.length := by omega
      rw [hi2] at k2
      rw [hv, hi]
      obtain ⟨G, g1, g2, _, g3⟩ := mid_step (R := R.toNat) hic
      have ml := mid_len (R := R.toNat) (cs := cs) (i := i + 1) (by omega)
      have hF := lay_le hR _ (cs.take i) rfl
      have hG := good_lay hR (cs.take i)
      have ti : (cs.take i).length = i := by rw [List.length_take]; omega
      rw [ti] at hF
      have f10 : factS i ≤ 3628800 := fact10 (by omega)
      have gc : gI (cs.map PyData.int) (i : Int) = some (.int (cs.getD i 0)) := gI_sta (s := cs) (by omega) (by omega)
      generalize cs.getD i 0 = c at g3 gc
      generalize midS R.toNat cs (i + 1) = M at g1 g2 g3 ml ⊢
      generalize layS R.toNat (cs.take i) = F at g1 g3 hF hG
      have m1 : gI (M.map layD) (i : Int) = some (layD F) := by rw [gI_nat rfl, List.getElem?_map, g1]; rfl
      have m2 : gI (M.map layD) ((i : Int) + 1) = some (layD G) := by rw [gI_nat (k := i + 1) (by omega), List.getElem?_map, g2]; rfl
      refine dg_i rfl (dSeq.mk ?_)
      refine dSeq_cut (fun ρ => ∃  (x_change x_later x_state x_rank x_other : T), ρ = [.bor (.int R), .bor (.list (cs.map .int)), .own (M.map layD), x_change, x_later, x_state, x_rank, x_other, .dat (.int (i : Nat)), .own ((keepS G c F).map staD)]) (fun K3 k3 => ?_) fun ρ p => ?_
      · refine wO_i m1 ?_
        show dFor _ _ _ ((F.map staD).map T.dat) _
        rw [List.map_map]
        refine for_pre F _ (fun p1 ρ => ∃  (x_change x_later x_state x_rank x_other : T), ρ = [.bor (.int R), .bor (.list (cs.map .int)), .own (M.map layD), x_change, x_later, x_state, x_rank, x_other, .dat (.int (i : Nat)), .own ((keepS G c p1).map staD)]) ⟨_, _, _, _, _, rfl⟩ (fun p1 s post1 ρ K4 e1 hp k4 => ?_) (fun ρ hp => ?_)
        · obtain ⟨x_change, x_later, x_state, x_rank, x_other, rfl⟩ := hp
          have gs := hG s (by rw [e1]; simp)
          have hsl := gs.len
          have b3 := next_le gs hR c
          rw [ti] at b3
          have b4 : p1.length + 1 ≤ F.length := by have := congrArg List.length e1; simp at this; omega
          have b5 : (keepS G c p1).length ≤ p1.length := List.length_filter_le ..
          refine dg_i rfl (wO_i gc (use_next (by omega) (by omega) ?_))
          refine (show dLcGo _ _ _ _ _ (((nextS s c).map nxD).map T.dat) _ _ from ?_)
          rw [List.map_map]
          refine lc_fl2 (i := 6) (j := 7) (nextS s c) _ (fun p => .dat (.int (p.1 : Nat))) (fun p => .dat (staD p.2)) (fun p => decide (p.2 ∈ G)) (fun p => staD p.2) rfl (by decide) (Nat.le_trans (by omega : _ ≤ 100) (by decide)) (fun _ _ => ⟨rfl, rfl, rfl, rfl⟩) (fun p hp P R' hP hR' => ?_) ?_
          · refine wO_i m2 (And.intro (sh_sta p.2) (And.intro (sh_stas G) (br_split (b := (G.map staD).any fun z => PyData.eqv z (staD p.2)) (fun e => ?_) fun e => ?_)))
            · rw [any_sta] at e; exact hP e _ rfl
            · rw [any_sta] at e; exact hR' e
          · obtain ⟨fl, hfl⟩ : ∃ fl, fl = (nextS s c).filter (fun p : Nat × Sta => decide (p.2 ∈ G)) := ⟨_, rfl⟩
            rw [← hfl]
            obtain ⟨fs, hfs⟩ : ∃ fs : List Sta, fs = fl.map Prod.snd := ⟨_, rfl⟩
            have el : fl.map (fun p => staD p.2) = fs.map staD := by rw [hfs, List.map_map]; rfl
            have fn : fs = [] ↔ fl = [] := by rw [hfs, List.map_eq_nil_iff]
            rw [el]
            have ek : keepS G c (p1 ++ [s]) = keepS G c p1 ++ if fl = [] then [] else [s] := by
              unfold keepS
              rw [List.filter_append]
              congr 1
              by_cases z : fl = []
              · rw [if_pos z, List.filter_cons_of_neg]
                · rfl
                · rw [List.any_eq_true]
                  rintro ⟨x, h1, h2⟩
                  have h3 : x ∈ (nextS s c).filter (fun p : Nat × Sta => decide (p.2 ∈ G)) := List.mem_filter.mpr ⟨h1, h2⟩
                  rw [← hfl, z] at h3; simp at h3
              · rw [if_neg z, List.filter_cons_of_pos]
                · rfl
                · obtain ⟨x, hx⟩ := List.exists_mem_of_ne_nil _ z
                  rw [hfl] at hx
                  exact List.any_eq_true.mpr ⟨x, (List.mem_filter.mp hx).1, (List.mem_filter.mp hx).2⟩
            clear hfl
            refine And.intro (sh_stas fs) (And.intro rfl (br_split (b := !PyData.eqv (.list (fs.map staD)) (.list [])) (fun e => ?_) fun e => ?_))
            · rw [eqv_stas_nil] at e
              have e : ¬ fl = [] := fun z => by rw [fn.mpr z] at e; simp at e
              refine And.intro (a := ((keepS G c p1).map staD).length < sizeLine) (by rw [List.length_map]; exact Nat.lt_of_le_of_lt (by omega : _ ≤ 3628800) (by decide)) (k4 _ ?_)
              rw [ek, if_neg e, List.map_append]
              exact ⟨_, _, _, _, _, rfl⟩
            · rw [eqv_stas_nil] at e
              have e : fl = [] := fn.mp (by simpa using e)
              refine k4 _ ?_
              rw [ek, if_pos e, List.append_nil]
              exact ⟨_, _, _, _, _, rfl⟩
        · obtain ⟨x_change, x_later, x_state, x_rank, x_other, rfl⟩ := hp
          exact k3 _ ⟨_, _, _, _, _, rfl⟩
      obtain ⟨x_change, x_later, x_state, x_rank, x_other, rfl⟩ := p
      refine wO_i (o := ixN (M.map layD).length (i : Int)) (d := i) (by unfold ixN; rw [if_pos (by omega), if_pos (by rw [List.length_map, ml]; omega)]; rfl) (k2 _ ?_)
      rw [← g3]
      exact ⟨_, _, _, _, _, _, _, congrArg (fun z => [T.bor (.int R), .bor (.list (cs.map .int)), .own z, x_change, x_later, x_state, x_rank, x_other, .dat (.int (i : Nat)), .dat (.list ((keepS G c F).map staD))]) (show (M.map layD).set i (layD (keepS G c F)) = (M.set i (keepS G c F)).map layD by rw [List.map_set])⟩
    · obtain ⟨x_change, x_later, x_state, x_rank, x_other, x_at, x_kept, rfl⟩ := p
      rw [rngT3_len, Nat.sub_self, mid_bot]
      exact k _ ⟨_, _, _, _, _, _, _, rfl⟩
  obtain ⟨x_change, x_later, x_state, x_rank, x_other, x_at, x_kept, rfl⟩ := p
  obtain ⟨hh, _⟩ := prun_head cs [zeroS R.toNat]
  have hh : (prunS [zeroS R.toNat] cs).headD [] = [] ↔ layS R.toNat cs = [] := hh
  cases hP : prunS [zeroS R.toNat] cs with
  | nil => exact absurd hP (prun_ne _ _)
  | cons G P =>
    rw [hP] at hh q1
    refine And.intro (sh_stas G) (And.intro rfl (br_split (b := !PyData.eqv (.list (G.map staD)) (.list [])) (fun e => ?_) fun e => ?_))
    · rw [eqv_stas_nil] at e
      have e : ¬ G = [] := by simpa using e
      exact q1 fun z => e (hh.mpr z)
    · rw [eqv_stas_nil] at e
      have e : G = [] := by simpa using e
      exact q2 (hh.mp e)

def sp__law_changes : DSp := fun ts Q _ => ∃ (r : Spr) (R m : Int) (b : Nat), ts = [.own r.d, .dat (.int R), .dat (.int m)] ∧ r.Ok b ∧ b < 2 ^ 59 ∧ 1 ≤ R ∧ R ≤ 1000 ∧ 0 ≤ m ∧ m ≤ 1000 ∧
  ∀ (cs : List Int) (r' : Spr), (cs.length : Int) ≤ m → (∀ c ∈ cs, -1 ≤ c ∧ c ≤ 1) → r'.Ok (b + 2 + m.toNat) → Q (.own (cs.map .int)) (.own r'.d)
theorem mono__law_changes : Mono sp__law_changes := fun ts R R' W W' hr _ ⟨r, a, m, b, e, h1, h2, h3, h4, h5, h6, q⟩ => ⟨r, a, m, b, e, h1, h2, h3, h4, h5, h6, fun cs r' a b c => hr _ _ (q cs r' a b c)⟩
theorem use_changes {r : Spr} {R m : Int} {b : Nat} {Q : T → T → Prop} {W : Exn → T → Prop} (o : r.Ok b) (hb : b < 2 ^ 59) (R1 : 1 ≤ R) (R2 : R ≤ 1000) (m0 : 0 ≤ m) (m1 : m ≤ 1000) (q : ∀ (cs : List Int) (r' : Spr), (cs.length : Int) ≤ m → (∀ c ∈ cs, -1 ≤ c ∧ c ≤ 1) → r'.Ok (b + 2 + m.toNat) → Q (.own (cs.map .int)) (.own r'.d)) :
    Spc sp__law_changes [.own r.d, .dat (.int R), .dat (.int m)] Q W := ⟨⟨r, R, m, b, rfl, o, hb, R1, R2, m0, m1, q⟩⟩
theorem three_of {v : Int} (h0 : 0 ≤ v) (h1 : v < 3) : ∃ c : Int, gI [PyData.int 1, .int 0, .int (-1)] v = some (.int c) ∧ (c = 1 ∨ c = 0 ∨ c = -1) := by
  rcases (by omega : v = 0 ∨ v = 1 ∨ v = 2) with rfl | rfl | rfl
  · exact ⟨1, rfl, .inl rfl⟩
  · exact ⟨0, rfl, .inr (.inl rfl)⟩
  · exact ⟨-1, rfl, .inr (.inr rfl)⟩

def ms__law_changes : List Md := [.lend, .dat, .dat]
def dn__law_changes (Wd : Exn → List T → Prop) : DS := (dSeq (dPar (dCons (dLst dNil) (dCons (dOp dMul (dLst (dCons (dC (.int 0)) dNil)) (dVar 1)) dNil)) (dgCons (dgName 3) (dgCons (dgName 4) dgNil)))
    (dSeq (dAsg (dCall ms__law_draw sp__law_draw Wd (dCons (dVar 0) (dCons (dC (.int 4)) dNil))) (dgName 5))
    (dSeq (dForS (dRange1 (dCons (dCall ms__law_draw sp__law_draw Wd (dCons (dVar 0) (dCons (dOp dAdd (dVar 2) (dC (.int 1))) dNil))) dNil)) (dgName 6) (dSeq (dIfS (tVal (dOp dEq (dVar 5) (dC (.int 0)))) (dSeq (dDrop (dLm 3 lmAppend (dCons (dOp dIx (dLst (dCons (dC (.int 1)) (dCons (dC (.int 0)) (dCons (dUn dNeg (dC (.int 1))) dNil)))) (dCall ms__law_draw sp__law_draw Wd (dCons (dVar 0) (dCons (dC (.int 3)) dNil)))) dNil)))
    dCont) dNext)
    (dSeq (dAsg (dLst dNil) (dgName 7))
    (dSeq (dForS (dSeqI (dLst (dCons (dC (.int 1)) (dCons (dC (.int 0)) (dCons (dUn dNeg (dC (.int 1))) dNil))))) (dgName 8) (dDrop (dLm 7 lmExtend (dCons (dLc (dSeqI (dCall ms__law_next sp__law_next Wd (dCons (dVar 4) (dCons (dVar 8) dNil)))) (Tgt.many [9, 10]).d dYes (dTup (dCons (dVarF 8) (dCons (dVarF 10) dNil))) [9, 10]) dNil))))
    (dSeq (dAsg (dOp dIx (dVar 7) (dCall ms__law_draw sp__law_draw Wd (dCons (dVar 0) (dCons (dCB dLen (dCons (dVar 7) dNil)) dNil)))) (dgTup 2 (dgCons (dgName 8) (dgCons (dgName 4) dgNil))))
    (dDrop (dLm 3 lmAppend (dCons (dVarF 8) dNil))))))))
    (dRet (dVarM 3)))))
abbrev st__law_changes : Stmt := PySem.Challenge.pw_teesizes_k14_first_obstructions.main.body.getD 32 (.Pass ⟨0, 0, 0, 0⟩)
abbrev N__law_changes : List Str := ["spring", "readers", "most", "found", "state", "way", "read", "some", "change", "rank", "other"]
theorem sc__law_changes : FnScope N__law_changes ["spring", "readers", "most"] (defScope st__law_changes) := ⟨rfl, rfl, rfl, by decide +kernel, rfl, by decide +kernel, by decide +kernel⟩
theorem dp__law_changes {P : Program} {w : World} {K : PySem.W.Frag} {mg : Str → Option Value} {base : Heap} {f : Addr} {cdv : Value} {A : Around} {os : List Env} {s : Shared} {H : Hp} {E : XK} {Wd : Exn → List T → Prop} {B0 : Addr → Prop} {o : List Addr} {vs : List V} (n_len : mg "len" = none) (n_range : mg "range" = none) (h__law_draw : Has P w K mg base "_law_draw" 1 ["spring", "many"] ms__law_draw sp__law_draw) (h__law_next : Has P w K mg base "_law_next" 1 ["state", "change"] ms__law_next sp__law_next)
    (hr : RoomG 1 (A.deeper (PyProof.Rows.envOfC "_law_changes" (defScope st__law_changes) s.heap.objs.size f cdv))) (tk : DTk (ctxOf P w K mg base N__law_changes "_law_changes" (defScope st__law_changes) f cdv A os s H E Wd B0 o (some 0) vs [9, 10])) :
    DPSs (ctxOf P w K mg base N__law_changes "_law_changes" (defScope st__law_changes) f cdv A os s H E Wd B0 o (some 0) vs [9, 10]) (defBody st__law_changes) (dn__law_changes Wd) :=
  have S := sc__law_changes
  (dss_cons (ds_par (i := 3) (j := 4) rfl S.nd rfl rfl rfl rfl rfl (nin_of rfl) (nin_of rfl) (da_cons (de_lst da_nil) (da_cons (de_mul (de_lst (da_cons de_int da_nil)) (de_var 1 (nin_of rfl))) da_nil)))
    (dss_cons (ds_set S.nd (i := 5) rfl (Or.inl rfl) (nin_of rfl) (de_fn h__law_draw hr (by decide) tk rfl (da_cons (de_var 0 (nin_of rfl)) (da_cons de_int da_nil))))
    (dss_cons (ds_for (passes_of rfl) rfl (di_range1 rfl n_range (da_cons (de_fn h__law_draw hr (by decide) tk rfl (da_cons (de_var 0 (nin_of rfl)) (da_cons (de_add (de_var 2 (nin_of rfl)) de_int) da_nil))) da_nil)) (dg_name S.nd (i := 6) rfl (Or.inl rfl) (nin_of rfl)) (dss_cons (ds_if (dt_cmpD (dc_eq hr.units) (de_var 5 (nin_of rfl)) de_int) (dss_cons (ds_expr (de_lm 3 PySem.F.slot_list_append PySem.F.type_list_append mt_append sl_append rfl (by first | exact Or.inl rfl | exact Or.inr (Or.inl rfl) | exact Or.inr (Or.inr rfl)) (da_cons (de_ix (de_lst (da_cons de_int (da_cons de_int (da_cons (de_neg de_int) da_nil)))) (de_fn h__law_draw hr (by decide) tk rfl (da_cons (de_var 0 (nin_of rfl)) (da_cons de_int da_nil)))) da_nil)))
    (dss_one ds_cont)) dss_nil)
    (dss_cons (ds_set S.nd (i := 7) rfl (Or.inl rfl) (nin_of rfl) (de_lst da_nil))
    (dss_cons (ds_for (passes_of rfl) rfl (di_seq (de_lst (da_cons de_int (da_cons de_int (da_cons (de_neg de_int) da_nil))))) (dg_name S.nd (i := 8) rfl (Or.inr rfl) (nin_of rfl)) (dss_one (ds_expr (de_lm 7 PySem.F.slot_list_extend PySem.F.type_list_extend mt_extend sl_extend rfl (by first | exact Or.inl rfl | exact Or.inr (Or.inl rfl) | exact Or.inr (Or.inr rfl)) (da_cons (de_lc rfl S.nd (own := [(("rank" : Str), 9), (("other" : Str), 10)]) (tg := (Tgt.many [9, 10])) (di_seq (de_fn h__law_next hr (by decide) tk rfl (da_cons (de_var 4 (nin_of rfl)) (da_cons (de_var 8 (nin_of rfl)) da_nil)))) (blk_of (N := N__law_changes) (sc := defScope st__law_changes) (by decide +kernel)) (tgt_many rfl S.nd (.cons rfl (Or.inl rfl) rfl (.cons rfl (Or.inl rfl) rfl .nil))) (fun _ _ _ _ _ => dts_nil) (fun _ _ _ _ _ => (de_tup (da_cons (de_varF 8) (da_cons (de_varF 10) da_nil)))) (by decide) (own_of rfl)) da_nil)))))
    (dss_cons (ds_asg (de_ix (de_var 7 (nin_of rfl)) (de_fn h__law_draw hr (by decide) tk rfl (da_cons (de_var 0 (nin_of rfl)) (da_cons (de_len rfl n_len (da_cons (de_var 7 (nin_of rfl)) da_nil)) da_nil)))) (dg_tup rfl (dgs_cons (dg_name S.nd (i := 8) rfl (Or.inr rfl) (nin_of rfl)) (dgs_cons (dg_name S.nd (i := 4) rfl (Or.inl rfl) (nin_of rfl)) dgs_nil))))
    (dss_one (ds_expr (de_lm 3 PySem.F.slot_list_append PySem.F.type_list_append mt_append sl_append rfl (by first | exact Or.inl rfl | exact Or.inr (Or.inl rfl) | exact Or.inr (Or.inr rfl)) (da_cons (de_varF 8) da_nil)))))))))
    (dss_one (ds_ret (de_varM 3))))))
def chD (z : Int × Sta) : D := .tuple [.int z.1, staD z.2]
theorem next_len (s : Sta) (c : Int) : (nextS s c).length ≤ s.length := by
  unfold nextS
  rw [List.length_map]
  exact Nat.le_trans (List.length_filter_le ..) (by simp)
theorem next_lenS {s : Sta} {c : Int} {y : Nat × Sta} (h : y ∈ nextS s c) : y.2.length = s.length := by
  obtain ⟨_, _, _, e⟩ := mem_nextS.mp (show (y.1, y.2) ∈ nextS s c from h)
  rw [e]; simp [incS]
theorem next_ne {s : Sta} {c : Int} (h : 0 < s.length) (hc : c = if s.length = 1 then 0 else 1) : nextS s c ≠ [] := by
  intro z
  have : (0, incS s 0) ∈ nextS s c := mem_nextS.mpr ⟨h, .inl rfl, by
    rw [hc]; unfold ownC
    by_cases e : s.length = 1
    · rw [if_pos e, if_pos e]
    · rw [if_neg e, if_neg e, if_pos rfl, if_neg (by omega)]; rfl, rfl⟩
  rw [z] at this; simp at this
theorem law__law_changes (ts : List T) (Q : T → T → Prop) (W : Exn → T → Prop) (h : sp__law_changes ts Q W) : dn__law_changes (finX (some 0) W) (fin0 (some 0) Q) (slots0 11 ts) := by
  obtain ⟨r, R, m, b, rfl, o, hb, R1, R2, m0, m1, q⟩ := h
  refine dSeq.mk (And.intro (a := -(2 ^ 63) ≤ R ∧ R < 2 ^ 63 ∧ 1 * R.toNat ≤ sizeLine) ⟨by omega, by omega, Nat.le_trans (by omega : _ ≤ 1000) (by decide)⟩ ?_)
  have e0 : (List.replicate R.toNat [PyData.int 0]).flatten = (List.replicate R.toNat (0 : Int)).map .int := by
    rw [List.map_replicate]
    generalize R.toNat = n
    induction n with
    | zero => rfl
    | succ n ih => rw [List.replicate_succ, List.flatten_cons, ih, List.replicate_succ]; rfl
  show dSeq _ _ _ [.own r.d, .dat (.int R), .dat (.int m), .own [], .own ((List.replicate R.toNat [PyData.int 0]).flatten), .emp, .emp, .emp, .emp, .emp, .emp]
  rw [e0]
  have l0 : (List.replicate R.toNat (0 : Int)).length = R.toNat := by simp
  generalize List.replicate R.toNat (0 : Int) = st0 at l0
  refine dSeq.mk (use_draw (m := 4) o (by omega) (by decide) (by decide) fun w r1 w0 w1 o1 => dSeq.mk ?_)
  refine use_draw (m := m + 1) o1 (by omega) (by omega) (by omega) fun n r2 n0 n1 o2 => ?_
  refine And.intro (a := -(2 ^ 62) ≤ n ∧ n < 2 ^ 62) (by omega) ?_
  refine dFor_inv (fun i ρ => ∃ (r : Spr) (cs st : List Int) (x : T) (x_read x_some x_change : T), ρ = [.own r.d, .dat (.int R), .dat (.int m), .own (cs.map .int), x, .dat (.int w), x_read, x_some, x_change, .emp, .emp] ∧ (x = .own (st.map .int) ∨ x = .dat (.list (st.map .int))) ∧ st.length = R.toNat ∧ cs.length ≤ i ∧ (∀ c ∈ cs, -1 ≤ c ∧ c ≤ 1) ∧ r.Ok (b + 2 + i)) ⟨r2, [], st0, _, _, _, _, rfl, ⟨.inl rfl, l0, Nat.le_refl _, by simp, o2⟩⟩ (fun i t ρ K et p k => ?_) (fun ρ p => ?_)
  · obtain ⟨r, cs, st, x, x_read, x_some, x_change, rfl, ⟨hx, hst, hl, hc, o⟩⟩ := p
    obtain ⟨hi, rfl⟩ := rngT_get et
    have im : (i : Int) < 1000 := by omega
    have cl : (cs.map PyData.int).length < sizeLine := by rw [List.length_map]; exact Nat.lt_of_lt_of_le (by omega : _ < 2000) (by decide)
    have add : ∀ (c : Int) (r' : Spr) (st' : List Int) (x' a1 a2 : T), (c = 1 ∨ c = 0 ∨ c = -1) → r'.Ok (b + 2 + i + 1) → st'.length = R.toNat → (x' = .own (st'.map .int) ∨ x' = .dat (.list (st'.map .int))) → K [.own r'.d, .dat (.int R), .dat (.int m), .own (cs.map .int ++ [.int c]), x', .dat (.int w), .dat (.int (0 + (i : Nat))), a1, a2, .emp, .emp] := by
      intro c r' st' x' a1 a2 hcc o' hs hx'
      refine k _ ⟨r', cs ++ [c], st', x', _, _, _, (by simp only [List.map_append]; rfl), ⟨hx', hs, by simp; omega, fun z hz => ?_, o'⟩⟩
      rcases List.mem_append.mp hz with hz | hz
      · exact hc z hz
      · simp at hz; subst hz; omega
    refine dg_i rfl (dSeq.mk (And.intro rfl (And.intro rfl (br_split (b := PyData.eqv (.int w) (.int 0)) (fun _ => dSeq.mk ?_) fun _ => dSeq.mk ?_))))
    · refine use_draw (m := 3) o (by omega) (by decide) (by decide) fun v r3 v0 v1 o3 => ?_
      obtain ⟨c, ec, hcc⟩ := three_of v0 v1
      exact wO_i ec (And.intro cl (add c r3 st x _ _ hcc o3 hst hx))
    · refine dSeq.mk ?_
      refine for_disp (([1, 0, -1] : List Int).map fun c => .dat (.int c)) _ (fun Q h => h) ?_
      refine for_pre (α := Int) [1, 0, -1] (fun c => .dat (.int c)) (fun pre ρ => ∃ (ws : List (Int × Sta)) (x_change : T), ρ = [.own r.d, .dat (.int R), .dat (.int m), .own (cs.map .int), x, .dat (.int w), .dat (.int (0 + (i : Nat))), .own (ws.map chD), x_change, .emp, .emp] ∧ (∀ z ∈ ws, (z.1 = 1 ∨ z.1 = 0 ∨ z.1 = -1) ∧ z.2.length = R.toNat) ∧ ws.length ≤ 1000 * pre.length ∧ ((if st.length = 1 then 0 else 1) ∈ pre → ws ≠ [])) ⟨[], _, rfl, ⟨by simp, by simp, by simp⟩⟩ (fun pre c post ρ K2 eq hp k2 => ?_) (fun ρ hp => ?_)
      · obtain ⟨ws, x_change, rfl, ⟨hw, hwl, hwn⟩⟩ := hp
        have hcc : c = 1 ∨ c = 0 ∨ c = -1 := by
          have : c ∈ ([1, 0, -1] : List Int) := by rw [eq]; simp
          simpa using this
        have hpl : pre.length ≤ 3 := by have := congrArg List.length eq; simp at this; omega
        have nl := next_len st c
        rcases hx with rfl | rfl
        all_goals
          refine dg_i rfl (use_next (s := st) (c := c) (by omega) (by omega) ?_)
          refine (show dLcGo _ _ _ _ _ (((nextS st c).map nxD).map T.dat) _ _ from ?_)
          rw [List.map_map]
          refine lc_mp2 (ρ := [.own r.d, .dat (.int R), .dat (.int m), .own (cs.map .int), _, .dat (.int w), .dat (.int (0 + (i : Nat))), .own (ws.map chD), .dat (.int c), .emp, .emp]) (nextS st c) _ (fun z => .dat (.int (z.1 : Nat))) (fun z => .dat (staD z.2)) (fun z => chD (c, z.2)) rfl (by decide) (Nat.le_trans (by omega : _ ≤ 1000) (by decide)) (fun _ _ => ⟨rfl, rfl, rfl, rfl⟩) (fun z hz P hP => hP _ rfl) ?_
          refine And.intro (a := (ws.map chD).length + ((nextS st c).map fun z => chD (c, z.2)).length ≤ sizeLine) (by rw [List.length_map, List.length_map]; exact Nat.le_trans (by omega : _ ≤ 5000) (by decide)) (k2 _ ?_)
          have ee : ws.map chD ++ ((nextS st c).map fun z => chD (c, z.2)) = (ws ++ (nextS st c).map fun z => (c, z.2)).map chD := by rw [List.map_append, List.map_map]; rfl
          rw [ee]
          refine ⟨_, _, rfl, ⟨fun z hz => ?_, ?_, fun hm => ?_⟩⟩
          · rcases List.mem_append.mp hz with hz | hz
            · exact hw z hz
            · obtain ⟨y, hy, rfl⟩ := List.mem_map.mp hz
              exact ⟨hcc, by rw [← hst]; exact next_lenS hy⟩
          · simp only [List.length_append, List.length_map, List.length_singleton]; omega
          · rcases List.mem_append.mp hm with hm | hm
            · have := hwn hm; simp [this]
            · have : nextS st c ≠ [] := next_ne (by omega) (List.mem_singleton.mp hm).symm
              simp [this]
      · obtain ⟨ws, x_change, rfl, ⟨hw, hwl, hwn⟩⟩ := hp
        have hne : ws ≠ [] := hwn (by split <;> simp)
        have wl : 0 < ws.length := List.length_pos_iff.mpr hne
        have hwl : ws.length ≤ 3000 := by simpa using hwl
        have lm : ((ws.map chD).length : Int) = ws.length := by rw [List.length_map]
        refine dSeq.mk (use_draw (m := ((ws.map chD).length : Int)) o (by omega) (by omega) (by omega) fun v r3 v0 v1 o3 => ?_)
        obtain ⟨v, rfl⟩ : ∃ k : Nat, v = (k : Int) := ⟨v.toNat, by omega⟩
        have hv : v < ws.length := by omega
        have eg : gI (ws.map chD) (v : Int) = some (chD ws[v]) := by rw [gI_nat rfl, List.getElem?_map, List.getElem?_eq_getElem hv]; rfl
        obtain ⟨h1, h2⟩ := hw ws[v] (List.getElem_mem hv)
        refine wO_i (o := gI (ws.map chD) (v : Int)) eg (And.intro rfl (And.intro cl ?_))
        exact add ws[v].1 r3 ws[v].2 _ _ _ h1 o3 h2 (.inr rfl)
  · obtain ⟨r, cs, st, x, x_read, x_some, x_change, rfl, ⟨hx, hst, hl, hc, o⟩⟩ := p
    rw [rngT_len] at hl o
    exact q cs r (by omega) hc (o.mono (by omega))

theorem obs_exists {R : Int} (R1 : 1 ≤ R) {rs : List (Int × Int)} (hr : Runs 400 (1000000000000000000000000000000 : Int) rs) : ∃ x, ObsOk R (expandR rs) x := by
  have hp1 : ∀ q ∈ rs, 1 ≤ q.2 := fun q hq => (hr.cnt q hq).1
  by_cases h : ∀ j, j ≤ (expandR rs).length → okC R.toNat ((expandR rs).take j)
  · exact ⟨none, h⟩
  · have ex : ∃ j, j ≤ (expandR rs).length ∧ ¬ okC R.toNat ((expandR rs).take j) := by
      refine Classical.byContradiction fun z => h fun j hj => Classical.byContradiction fun w => z ⟨j, hj, w⟩
    have mn : ∀ n j, j ≤ n → j ≤ (expandR rs).length → ¬ okC R.toNat ((expandR rs).take j) → ∃ j, j ≤ (expandR rs).length ∧ ¬ okC R.toNat ((expandR rs).take j) ∧ ∀ i, i < j → okC R.toNat ((expandR rs).take i) := by
      intro n
      induction n with
      | zero => intro j h1 h2 h3; exact ⟨j, h2, h3, fun i hi => by omega⟩
      | succ n ih =>
        intro j h1 h2 h3
        by_cases w : ∀ i, i < j → okC R.toNat ((expandR rs).take i)
        · exact ⟨j, h2, h3, w⟩
        · obtain ⟨i, hi⟩ : ∃ i, ¬ (i < j → okC R.toNat ((expandR rs).take i)) := Classical.byContradiction fun z => w fun i => Classical.byContradiction fun y => z ⟨i, y⟩
          have hi2 : i < j ∧ ¬ okC R.toNat ((expandR rs).take i) := ⟨Classical.byContradiction fun y => hi fun z => absurd z y, fun z => hi fun _ => z⟩
          exact ih i (by omega) (by omega) hi2.2
    obtain ⟨j, h2, h3⟩ := ex
    obtain ⟨j, h2, h3, h4⟩ := mn j j (Nat.le_refl _) h2 h3
    cases j with
    | zero =>
      refine absurd ?_ h3
      have : okR R.toNat [] := okR_nil (by omega)
      exact this
    | succ k => exact ⟨some (wordO R ((expandR rs).getD k 0), (k : Int) + 1), k, rfl, by omega, fun i hi => h4 i (by omega), h3, rfl⟩
def sp__law_due : DSp := fun ts Q _ => ∃ (R : Int) (cs : List Int), ts = [.bor (.int R), .bor (.list (cs.map .int))] ∧ 1 ≤ R ∧ R ≤ 1000 ∧ cs.length ≤ 10 ∧ (∀ c ∈ cs, -1 ≤ c ∧ c ≤ 1) ∧ ∀ x, ObsOk R cs x → Q (.dat (wrT x)) .emp
theorem mono__law_due : Mono sp__law_due := fun ts R R' W W' hr _ ⟨a, cs, e, h1, h2, h3, h4, q⟩ => ⟨a, cs, e, h1, h2, h3, h4, fun x h => hr _ _ (q x h)⟩
theorem use_due {R : Int} {cs : List Int} {Q : T → T → Prop} {W : Exn → T → Prop} (h1 : 1 ≤ R) (h2 : R ≤ 1000) (h3 : cs.length ≤ 10) (h4 : ∀ c ∈ cs, -1 ≤ c ∧ c ≤ 1) (q : ∀ x, ObsOk R cs x → Q (.dat (wrT x)) .emp) : Spc sp__law_due [.bor (.int R), .bor (.list (cs.map .int))] Q W := ⟨⟨R, cs, rfl, h1, h2, h3, h4, q⟩⟩

def ms__law_due : List Md := [.bor, .bor]
def dn__law_due (Wd : Exn → List T → Prop) : DS := (dSeq (dForS (dRange2 (dCons (dC (.int 1)) (dCons (dOp dAdd (dCB dLen (dCons (dVar 1) dNil)) (dC (.int 1))) dNil))) (dgName 2) (dIfS (tVal (dOp dIsN (dCall ms__law_layers sp__law_layers Wd (dCons (dVar 0) (dCons (dSl (dVar 1) dNoPart (dPart (dVar 2))) dNil))) (dC .none))) (dSeq (dIfS (tVal (dOp dLt (dVar 0) (dC (.int 3)))) (dRet (dTup (dCons (dOp dIx (dLst (dCons (dC (.str ("single" : Str))) (dCons (dC (.str ("two" : Str))) dNil))) (dOp dSub (dVar 0) (dC (.int 1)))) (dCons (dVarF 2) dNil)))) dNext)
    (dRet (dTup (dCons (dIf (tVal (dOp dEq (dOp dIx (dVar 1) (dOp dSub (dVar 2) (dC (.int 1)))) (dC (.int 0)))) (dC (.str ("few" : Str))) (dC (.str ("many" : Str)))) (dCons (dVarF 2) dNil))))) dNext))
    (dRet (dC .none)))
abbrev st__law_due : Stmt := PySem.Challenge.pw_teesizes_k14_first_obstructions.main.body.getD 33 (.Pass ⟨0, 0, 0, 0⟩)
abbrev N__law_due : List Str := ["readers", "changes", "size"]
theorem sc__law_due : FnScope N__law_due ["readers", "changes"] (defScope st__law_due) := ⟨rfl, rfl, rfl, by decide +kernel, rfl, by decide +kernel, by decide +kernel⟩
theorem dp__law_due {P : Program} {w : World} {K : PySem.W.Frag} {mg : Str → Option Value} {base : Heap} {f : Addr} {cdv : Value} {A : Around} {os : List Env} {s : Shared} {H : Hp} {E : XK} {Wd : Exn → List T → Prop} {B0 : Addr → Prop} {o : List Addr} {vs : List V} (n_len : mg "len" = none) (n_range : mg "range" = none) (h__law_layers : Has P w K mg base "_law_layers" 2 ["readers", "changes"] ms__law_layers sp__law_layers)
    (hr : RoomG 2 (A.deeper (PyProof.Rows.envOfC "_law_due" (defScope st__law_due) s.heap.objs.size f cdv))) (tk : DTk (ctxOf P w K mg base N__law_due "_law_due" (defScope st__law_due) f cdv A os s H E Wd B0 o none vs [])) :
    DPSs (ctxOf P w K mg base N__law_due "_law_due" (defScope st__law_due) f cdv A os s H E Wd B0 o none vs []) (defBody st__law_due) (dn__law_due Wd) :=
  have S := sc__law_due
  (dss_cons (ds_for (passes_of rfl) rfl (di_range2 rfl n_range (da_cons de_int (da_cons (de_add (de_len rfl n_len (da_cons (de_var 1 (nin_of rfl)) da_nil)) de_int) da_nil))) (dg_name S.nd (i := 2) rfl (Or.inl rfl) (nin_of rfl)) (dss_one (ds_if (dt_cmpD dc_isN (de_fn h__law_layers hr (by decide) tk rfl (da_cons (de_var 0 (nin_of rfl)) (da_cons (de_slice (de_var 1 (nin_of rfl)) do_none (do_some (de_var 2 (nin_of rfl)))) da_nil))) de_non) (dss_cons (ds_if (dt_cmpD dc_lt (de_var 0 (nin_of rfl)) de_int) (dss_one (ds_ret (de_tup (da_cons (de_ix (de_lst (da_cons de_str (da_cons de_str da_nil))) (de_sub (de_var 0 (nin_of rfl)) de_int)) (da_cons (de_varF 2) da_nil))))) dss_nil)
    (dss_one (ds_ret (de_tup (da_cons (de_if (dt_cmpD (dc_eq hr.units) (de_ix (de_var 1 (nin_of rfl)) (de_sub (de_var 2 (nin_of rfl)) de_int)) de_int) de_str de_str) (da_cons (de_varF 2) da_nil)))))) dss_nil)))
    (dss_one (ds_ret de_non)))
theorem law__law_due (ts : List T) (Q : T → T → Prop) (W : Exn → T → Prop) (h : sp__law_due ts Q W) : dn__law_due (finX none W) (fin0 none Q) (slots0 3 ts) := by
  obtain ⟨R, cs, rfl, R1, R2, hl, hc, q⟩ := h
  have lm : (((cs.map PyData.int).length : Nat) : Int) = cs.length := by rw [List.length_map]
  refine dSeq.mk (And.intro (a := -(2 ^ 62) ≤ (1 : Int) ∧ (1 : Int) < 2 ^ 62 ∧ -(2 ^ 62) ≤ ((cs.map PyData.int).length : Int) + 1 ∧ ((cs.map PyData.int).length : Int) + 1 < 2 ^ 62) (by omega) ?_)
  rw [lm]
  have el : ((cs.length : Int) + 1 - 1).toNat = cs.length := by omega
  rw [el]
  refine dFor_inv (fun i ρ => ∃  (x_size : T), ρ = [.bor (.int R), .bor (.list (cs.map .int)), x_size] ∧ ∀ j, j ≤ i → layS R.toNat (cs.take j) ≠ []) ⟨_, rfl, ?_⟩ (fun i t ρ K et p k => ?_) (fun ρ p => ?_)
  · intro j hj
    rw [show j = 0 by omega, List.take_zero]
    simp [layS]
  · obtain ⟨x_size, rfl, hne⟩ := p
    obtain ⟨hi, rfl⟩ := rngT_get et
    have c1 : cut (cs.map PyData.int) none (some (1 + (i : Nat) : Int)) = (cs.take (i + 1)).map .int := by rw [show (1 + (i : Nat) : Int) = ((i + 1 : Nat) : Int) by omega, cut_to, List.map_take]
    refine dg_i rfl ?_
    refine (show Spc sp__law_layers [.bor (.int R), .bor (.list (cut (cs.map PyData.int) none (some (1 + (i : Nat) : Int))))] _ _ from ?_)
    rw [c1]
    refine use_layers R1 R2 (by simp; omega) (fun h => ?_) fun h => ?_
    · refine br_f rfl (k _ ⟨_, rfl, fun j hj => ?_⟩)
      by_cases w : j ≤ i
      · exact hne j w
      · rw [show j = i + 1 by omega]; exact h
    · have q := q _ (obs_step R1 hc hi hne h)
      have gc : gI (cs.map PyData.int) (1 + (i : Nat) - 1) = some (.int (cs.getD i 0)) := by
        rw [gI_sta (by omega) (by omega), show (1 + (i : Nat) - 1 : Int).toNat = i by omega]
      have eo : ((i : Nat) : Int) + 1 = 1 + (i : Nat) := by omega
      rw [eo] at q
      refine br_t rfl (dSeq.mk (br_dec (c := R < 3) (fun h3 => ?_) fun h3 => ?_))
      · rcases (by omega : R = 1 ∨ R = 2) with rfl | rfl
        · exact wO_i rfl q
        · exact wO_i rfl q
      · unfold wordO at q
        rw [if_neg (by omega), if_neg (by omega)] at q
        refine wO_i gc (And.intro rfl (And.intro rfl (br_split (b := PyData.eqv (.int (cs.getD i 0)) (.int 0)) (fun e => ?_) fun e => ?_)))
        · rw [eqv_int] at e
          rw [if_pos (by simpa using e)] at q
          exact q
        · rw [eqv_int] at e
          rw [if_neg (by simpa using e)] at q
          exact q
  · obtain ⟨x_size, rfl, hne⟩ := p
    rw [rngT_len] at hne
    exact q none (obs_all R1 hc hne)

def sp__law_right : DSp := fun ts Q _ => ∃ (r : Spr) (R : Int) (cs : List Int) (b : Nat), ts = [.own r.d, .bor (.int R), .bor (.list (cs.map .int))] ∧ r.Ok b ∧ b < 2 ^ 58 ∧ 1 ≤ R ∧ R ≤ 1000 ∧ cs.length ≤ 10 ∧ (∀ c ∈ cs, -1 ≤ c ∧ c ≤ 1) ∧ ∀ r' : Spr, r'.Ok (b + 1000) → Q (.dat (.bool true)) (.own r'.d)
theorem mono__law_right : Mono sp__law_right := fun ts R R' W W' hr _ ⟨r, R0, cs, b, e, h1, h2, h3, h4, h5, h6, q⟩ => ⟨r, R0, cs, b, e, h1, h2, h3, h4, h5, h6, fun r' o => hr _ _ (q r' o)⟩
theorem use_right {r : Spr} {R : Int} {cs : List Int} {b : Nat} {Q : T → T → Prop} {W : Exn → T → Prop} (o : r.Ok b) (hb : b < 2 ^ 58) (h1 : 1 ≤ R) (h2 : R ≤ 1000) (h3 : cs.length ≤ 10) (h4 : ∀ c ∈ cs, -1 ≤ c ∧ c ≤ 1) (q : ∀ r' : Spr, r'.Ok (b + 1000) → Q (.dat (.bool true)) (.own r'.d)) : Spc sp__law_right [.own r.d, .bor (.int R), .bor (.list (cs.map .int))] Q W := ⟨⟨r, R, cs, b, rfl, o, hb, h1, h2, h3, h4, q⟩⟩
theorem word_ok (R c : Int) : PyData.strOk (wordO R c) = true := by unfold wordO; split; decide +kernel; split; decide +kernel; split <;> decide +kernel
theorem lay_wr {R : Int} {cs : List Int} {x : Option (Str × Int)} (h : ObsOk R cs x) : Lay 3 (wrT x) := by
  rcases x with _ | ⟨w, n⟩
  · exact ⟨rfl, by simp [wrT, PyData.depth]⟩
  · obtain ⟨k, _, _, _, _, e⟩ := h
    have e : w = _ := e
    subst e
    exact ⟨by simp [wrT, PyData.canLay0, PyData.canLayAll0, word_ok], by simp [wrT, PyData.depth, PyData.depthAll]⟩
theorem nd_wr (x : Option (Str × Int)) : ndD (wrT x) ≤ 1000000 := by rcases x with _ | ⟨w, n⟩ <;> simp [wrT, ndD, ndL]

def ms__law_right : List Md := [.lend, .bor, .bor]
def dn__law_right (Wd : Exn → List T → Prop) : DS := (dSeq (dAsg (dCall ms__law_dressed sp__law_dressed Wd (dCons (dVar 0) (dCons (dCall ms__law_record sp__law_record Wd (dCons (dVar 2) dNil)) dNil))) (dgName 3))
    (dSeq (dAsg (dCB dRepr (dCons (dVar 3) dNil)) (dgName 4))
    (dSeq (dForS (dRange1 (dCons (dC (.int 2)) dNil)) (dgName 5) (dIfS ((dOrT (dNotT (tVal (dCall ms__law_same sp__law_same Wd (dCons (dCall ms_obstruction sp_obstruction Wd (dCons (dVar 3) (dCons (dVar 1) dNil))) (dCons (dCall ms__law_due sp__law_due Wd (dCons (dVar 1) (dCons (dVar 2) dNil))) dNil))))) (tVal (dOp dNe (dCB dRepr (dCons (dVar 3) dNil)) (dVar 4))))) (dRet (dC (.bool false))) dNext))
    (dRet (dC (.bool true))))))
abbrev st__law_right : Stmt := PySem.Challenge.pw_teesizes_k14_first_obstructions.main.body.getD 34 (.Pass ⟨0, 0, 0, 0⟩)
abbrev N__law_right : List Str := ["spring", "readers", "changes", "handed", "before", "again"]
theorem sc__law_right : FnScope N__law_right ["spring", "readers", "changes"] (defScope st__law_right) := ⟨rfl, rfl, rfl, by decide +kernel, rfl, by decide +kernel, by decide +kernel⟩
theorem dp__law_right {P : Program} {w : World} {K : PySem.W.Frag} {mg : Str → Option Value} {base : Heap} {f : Addr} {cdv : Value} {A : Around} {os : List Env} {s : Shared} {H : Hp} {E : XK} {Wd : Exn → List T → Prop} {B0 : Addr → Prop} {o : List Addr} {vs : List V} (n_range : mg "range" = none) (n_repr : mg "repr" = none) (h__law_dressed : Has P w K mg base "_law_dressed" 5 ["spring", "value"] ms__law_dressed sp__law_dressed) (h__law_due : Has P w K mg base "_law_due" 3 ["readers", "changes"] ms__law_due sp__law_due) (h__law_record : Has P w K mg base "_law_record" 1 ["changes"] ms__law_record sp__law_record) (h__law_same : Has P w K mg base "_law_same" 4 ["found", "due"] ms__law_same sp__law_same) (h_obstruction : Has P w K mg base "obstruction" 6 ["record", "readers"] ms_obstruction sp_obstruction)
    (hr : RoomG 6 (A.deeper (PyProof.Rows.envOfC "_law_right" (defScope st__law_right) s.heap.objs.size f cdv))) (tk : DTk (ctxOf P w K mg base N__law_right "_law_right" (defScope st__law_right) f cdv A os s H E Wd B0 o (some 0) vs [])) :
    DPSs (ctxOf P w K mg base N__law_right "_law_right" (defScope st__law_right) f cdv A os s H E Wd B0 o (some 0) vs []) (defBody st__law_right) (dn__law_right Wd) :=
  have S := sc__law_right
  (dss_cons (ds_set S.nd (i := 3) rfl (Or.inl rfl) (nin_of rfl) (de_fn h__law_dressed hr (by decide) tk rfl (da_cons (de_var 0 (nin_of rfl)) (da_cons (de_fn h__law_record hr (by decide) tk rfl (da_cons (de_var 2 (nin_of rfl)) da_nil)) da_nil))))
    (dss_cons (ds_set S.nd (i := 4) rfl (Or.inl rfl) (nin_of rfl) (de_repr hr rfl n_repr (da_cons (de_var 3 (nin_of rfl)) da_nil)))
    (dss_cons (ds_for (passes_of rfl) rfl (di_range1 rfl n_range (da_cons de_int da_nil)) (dg_name S.nd (i := 5) rfl (Or.inl rfl) (nin_of rfl)) (dss_one (ds_if (DPW.t (dw_or (dt_not (dt_val (de_fn h__law_same hr (by decide) tk rfl (da_cons (de_fn h_obstruction hr (by decide) tk rfl (da_cons (de_var 3 (nin_of rfl)) (da_cons (de_var 1 (nin_of rfl)) da_nil))) (da_cons (de_fn h__law_due hr (by decide) tk rfl (da_cons (de_var 1 (nin_of rfl)) (da_cons (de_var 2 (nin_of rfl)) da_nil))) da_nil))))) (dw_or1 (dt_cmpD (dc_ne hr.units) (de_repr hr rfl n_repr (da_cons (de_var 3 (nin_of rfl)) da_nil)) (de_var 4 (nin_of rfl)))))) (dss_one (ds_ret de_bl)) dss_nil)))
    (dss_one (ds_ret de_bl)))))
theorem law__law_right (ts : List T) (Q : T → T → Prop) (W : Exn → T → Prop) (h : sp__law_right ts Q W) : dn__law_right (finX (some 0) W) (fin0 (some 0) Q) (slots0 6 ts) := by
  obtain ⟨r0, R, cs, b, rfl, o0, hb, R1, R2, hl, hc, q⟩ := h
  have rr0 := runsOf_runs hc
  have rr : Runs 400 (1000000000000000000000000000000 : Int) (runsOf cs) := rr0.mono (by omega) (by omega)
  have ex := (runsOf_is cs).ex
  have rl := runsOf_len cs
  have nd := nd_runs (runsOf cs)
  refine dSeq.mk ⟨⟨cs, rfl, by omega, ?_⟩⟩
  refine use_dressed (d := .list ((runsOf cs).map drun)) o0 (by simp only [ndD]; omega) (by have := depth_runs (runsOf cs); simp only [PyData.depth]; omega) (by simp only [ndD]; omega) (noDct_runs _) fun d r hd o => ?_
  simp only [ndD] at o
  obtain ⟨ds, e1, e2⟩ := und_runs hd
  have td : Tl 3 100000 d := by have := rtlL e2 rr; rcases e1 with rfl | rfl; exact this.1; exact this.2
  refine (show dSeq _ _ _ [.own r.d, .bor (.int R), .bor (.list (cs.map .int)), .dat d, .emp, .emp] from ?_)
  refine dSeq.mk (repr_iL td (by decide) (by decide) ?_)
  obtain ⟨bf, hbf⟩ : ∃ bf, bf = d.shown := ⟨_, rfl⟩
  refine seq_at [.own r.d, .bor (.int R), .bor (.list (cs.map .int)), .dat d, .dat (.str bf), .emp] (by rw [hbf]; rfl) ?_
  refine And.intro (a := -(2 ^ 62) ≤ (2 : Int) ∧ (2 : Int) < 2 ^ 62) (by decide) ?_
  refine dFor_inv (fun i ρ => ∃  (x_again : T), ρ = [.own r.d, .bor (.int R), .bor (.list (cs.map .int)), .dat d, .dat (.str bf), x_again]) ⟨_, rfl⟩ (fun i t ρ K2 et p k2 => ?_) (fun ρ p => ?_)
  · obtain ⟨x_again, rfl⟩ := p
    obtain ⟨hi, rfl⟩ := rngT_get et
    refine dg_i rfl (use_obs e1 e2 rr (by unfold TOPN; omega) fun x hx => ?_)
    rw [ex] at hx
    refine use_due R1 R2 hl hc fun y hy => ?_
    rw [obs_uniq hy hx]
    refine use_same (lay_wr hx) (nd_wr x) ?_
    refine br_f rfl (repr_iL td (by decide) (by decide) ?_)
    refine br_f (b := !decide (d.shown = bf)) (by rw [hbf]; simp) (k2 _ ?_)
    exact ⟨_, rfl⟩
  · obtain ⟨x_again, rfl⟩ := p
    exact q r (o.mono (by omega))

def sp_law : DSp := fun ts Q _ => ∃ ns : List Int, ts = [.scr ns] ∧ ns.length ≤ 63 ∧ Q (.dat (.bool true)) .emp
theorem mono_law : Mono sp_law := fun ts R R' W W' hr _ ⟨ns, e, h, q⟩ => ⟨ns, e, h, hr _ _ q⟩
theorem runs_two (cs : List Int) (c : Int) : ∃ (pre : List (Int × Int)) (n : Int), runsOf (cs ++ [c]) = pre ++ [(c, n)] ∧ runsOf (cs ++ [c, c]) = pre ++ [(c, n + 1)] := by
  have key : ∃ (pre : List (Int × Int)) (n : Int), runsOf (cs ++ [c]) = pre ++ [(c, n)] := by
    rw [runsOf_snoc]
    unfold mrgStep
    split
    · split
      · exact ⟨_, _, rfl⟩
      · exact ⟨_, _, rfl⟩
    · exact ⟨[], 1, rfl⟩
  obtain ⟨pre, n, e⟩ := key
  refine ⟨pre, n, e, ?_⟩
  rw [show cs ++ [c, c] = (cs ++ [c]) ++ [c] by simp, runsOf_snoc, e]
  unfold mrgStep
  rw [List.getLast?_append]
  simp [Int.add_comm]
def ownR (p : Int × Int) : T := .own [.int p.1, .int p.2]
theorem toDL_own : ∀ rs : List (Int × Int), toDL (rs.map ownR) = some (rs.map lrun)
  | [] => rfl
  | p :: rs => by
    rw [List.map_cons, List.map_cons]
    simp only [toDL, toDL_own rs]
    rfl
theorem nal_own : ∀ rs : List (Int × Int), noAliL (rs.map ownR) = true
  | [] => rfl
  | p :: rs => by rw [List.map_cons]; exact nal_own rs

def ms_law : List Md := [.bor]
def dn_law (Wd : Exn → List T → Prop) : DS := (dSeq (dAsg (dCall ms__law_spring sp__law_spring Wd (dCons (dVar 0) dNil)) (dgName 1))
    (dSeq (dForS (dRange1 (dCons (dOp dAdd (dC (.int 2)) (dCB dMin2 (dCons (dCB dLen (dCons (dVar 0) dNil)) (dCons (dC (.int 6)) dNil)))) dNil)) (dgName 2) (dSeq (dAsg (dCall ms__law_changes sp__law_changes Wd (dCons (dVar 1) (dCons (dOp dAdd (dC (.int 1)) (dCall ms__law_draw sp__law_draw Wd (dCons (dVar 1) (dCons (dC (.int 5)) dNil)))) (dCons (dC (.int 8)) dNil)))) (dgName 3))
    (dSeq (dForS (dRange2 (dCons (dC (.int 1)) (dCons (dC (.int 8)) dNil))) (dgName 4) (dIfS (dNotT (tVal (dCall ms__law_right sp__law_right Wd (dCons (dVar 1) (dCons (dVar 4) (dCons (dVar 3) dNil)))))) (dRet (dC (.bool false))) dNext))
    (dSeq (dAsg (dLcK (dSeqI (dCall ms__law_record sp__law_record Wd (dCons (dOp dAdd (dVar 3) (dLst (dCons (dC (.int 0)) dNil))) dNil))) (Tgt.one 7).d dYes (dCB dLstOf (dCons (dVarF 7) dNil)) [7]) (dgName 5))
    (dSeq (dIfS (dNotT (tVal (dCall ms__law_same sp__law_same Wd (dCons (dCall ms_obstruction sp_obstruction Wd (dCons (dVar 5) (dCons (dC (.int 3)) dNil))) (dCons (dCall ms__law_due sp__law_due Wd (dCons (dC (.int 3)) (dCons (dOp dAdd (dVar 3) (dLst (dCons (dC (.int 0)) dNil))) dNil))) dNil))))) (dRet (dC (.bool false))) dNext)
    (dSeq (dInner 5 6 1 fun n => n + 1) (dIfS (dNotT (tVal (dCall ms__law_same sp__law_same Wd (dCons (dCall ms_obstruction sp_obstruction Wd (dCons (dVar 5) (dCons (dC (.int 3)) dNil))) (dCons (dCall ms__law_due sp__law_due Wd (dCons (dC (.int 3)) (dCons (dOp dAdd (dVar 3) (dLst (dCons (dC (.int 0)) (dCons (dC (.int 0)) dNil)))) dNil))) dNil))))) (dRet (dC (.bool false))) dNext)))))))
    (dRet (dOp dEq (dCall ms_obstruction sp_obstruction Wd (dCons (dLst (dCons (dTup (dCons (dC (.int 1)) (dCons (dC (.int 2)) dNil))) (dCons (dTup (dCons (dC (.int 0)) (dCons (dC (.int 3)) dNil))) (dCons (dTup (dCons (dUn dNeg (dC (.int 1))) (dCons (dC (.int 1)) dNil))) dNil)))) (dCons (dC (.int 3)) dNil))) (dTup (dCons (dC (.str ("few" : Str))) (dCons (dC (.int 5)) dNil)))))))
abbrev st_law : Stmt := PySem.Challenge.pw_teesizes_k14_first_obstructions.main.body.getD 35 (.Pass ⟨0, 0, 0, 0⟩)
abbrev N_law : List Str := ["script", "spring", "turn", "changes", "readers", "held", "last", "run"]
theorem sc_law : FnScope N_law ["script"] (defScope st_law) := ⟨rfl, rfl, rfl, by decide +kernel, rfl, by decide +kernel, by decide +kernel⟩
theorem dp_law {P : Program} {w : World} {K : PySem.W.Frag} {mg : Str → Option Value} {base : Heap} {f : Addr} {cdv : Value} {A : Around} {os : List Env} {s : Shared} {H : Hp} {E : XK} {Wd : Exn → List T → Prop} {B0 : Addr → Prop} {o : List Addr} {vs : List V} (n_len : mg "len" = none) (n_list : mg "list" = none) (n_min : mg "min" = none) (n_range : mg "range" = none) (h__law_changes : Has P w K mg base "_law_changes" 2 ["spring", "readers", "most"] ms__law_changes sp__law_changes) (h__law_draw : Has P w K mg base "_law_draw" 1 ["spring", "many"] ms__law_draw sp__law_draw) (h__law_due : Has P w K mg base "_law_due" 3 ["readers", "changes"] ms__law_due sp__law_due) (h__law_record : Has P w K mg base "_law_record" 1 ["changes"] ms__law_record sp__law_record) (h__law_right : Has P w K mg base "_law_right" 7 ["spring", "readers", "changes"] ms__law_right sp__law_right) (h__law_same : Has P w K mg base "_law_same" 4 ["found", "due"] ms__law_same sp__law_same) (h__law_spring : Has P w K mg base "_law_spring" 1 ["script"] ms__law_spring sp__law_spring) (h_obstruction : Has P w K mg base "obstruction" 6 ["record", "readers"] ms_obstruction sp_obstruction)
    (hr : RoomG 7 (A.deeper (PyProof.Rows.envOfC "law" (defScope st_law) s.heap.objs.size f cdv))) (tk : DTk (ctxOf P w K mg base N_law "law" (defScope st_law) f cdv A os s H E Wd B0 o none vs [7])) :
    DPSs (ctxOf P w K mg base N_law "law" (defScope st_law) f cdv A os s H E Wd B0 o none vs [7]) (defBody st_law) (dn_law Wd) :=
  have S := sc_law
  (dss_cons (ds_set S.nd (i := 1) rfl (Or.inl rfl) (nin_of rfl) (de_fn h__law_spring hr (by decide) tk rfl (da_cons (de_var 0 (nin_of rfl)) da_nil)))
    (dss_cons (ds_for (passes_of rfl) rfl (di_range1 rfl n_range (da_cons (de_add de_int (de_min2 rfl n_min rfl (da_cons (de_len rfl n_len (da_cons (de_var 0 (nin_of rfl)) da_nil)) (da_cons de_int da_nil)))) da_nil)) (dg_name S.nd (i := 2) rfl (Or.inl rfl) (nin_of rfl)) (dss_cons (ds_set S.nd (i := 3) rfl (Or.inl rfl) (nin_of rfl) (de_fn h__law_changes hr (by decide) tk rfl (da_cons (de_var 1 (nin_of rfl)) (da_cons (de_add de_int (de_fn h__law_draw hr (by decide) tk rfl (da_cons (de_var 1 (nin_of rfl)) (da_cons de_int da_nil)))) (da_cons de_int da_nil)))))
    (dss_cons (ds_for (passes_of rfl) rfl (di_range2 rfl n_range (da_cons de_int (da_cons de_int da_nil))) (dg_name S.nd (i := 4) rfl (Or.inl rfl) (nin_of rfl)) (dss_one (ds_if (dt_not (dt_val (de_fn h__law_right hr (by decide) tk rfl (da_cons (de_var 1 (nin_of rfl)) (da_cons (de_var 4 (nin_of rfl)) (da_cons (de_var 3 (nin_of rfl)) da_nil)))))) (dss_one (ds_ret de_bl)) dss_nil)))
    (dss_cons (ds_setLcK (i := 5) rfl S.nd rfl rfl (nin_of rfl) rfl (own := [(("run" : Str), 7)]) (tg := (Tgt.one 7)) (di_seq (de_fn h__law_record hr (by decide) tk rfl (da_cons (de_add (de_var 3 (nin_of rfl)) (de_lst (da_cons de_int da_nil))) da_nil))) (blk_of (N := N_law) (sc := defScope st_law) (by decide +kernel)) (tgt_one S.nd rfl (Or.inl rfl) rfl) (fun _ _ _ _ _ => dts_nil) (fun _ _ _ _ _ => (de_lstOf rfl n_list (da_cons (de_varF 7) da_nil))) (by decide) (own_of rfl))
    (dss_cons (ds_if (dt_not (dt_val (de_fn h__law_same hr (by decide) tk rfl (da_cons (de_fn h_obstruction hr (by decide) tk rfl (da_cons (de_var 5 (nin_of rfl)) (da_cons de_int da_nil))) (da_cons (de_fn h__law_due hr (by decide) tk rfl (da_cons de_int (da_cons (de_add (de_var 3 (nin_of rfl)) (de_lst (da_cons de_int da_nil))) da_nil))) da_nil))))) (dss_one (ds_ret de_bl)) dss_nil)
    (dss_inner (i := 5) (j := 6) 1 1 1 rfl S.nd rfl rfl (by first | exact Or.inl rfl | exact Or.inr (Or.inl rfl) | exact Or.inr (Or.inr rfl)) (Or.inl rfl) rfl (nin_of rfl) (by decide) (by decide) (by decide) (by decide) (by intro _; rfl) (dss_one (ds_if (dt_not (dt_val (de_fn h__law_same hr (by decide) tk rfl (da_cons (de_fn h_obstruction hr (by decide) tk rfl (da_cons (de_var 5 (nin_of rfl)) (da_cons de_int da_nil))) (da_cons (de_fn h__law_due hr (by decide) tk rfl (da_cons de_int (da_cons (de_add (de_var 3 (nin_of rfl)) (de_lst (da_cons de_int (da_cons de_int da_nil)))) da_nil))) da_nil))))) (dss_one (ds_ret de_bl)) dss_nil))))))))
    (dss_one (ds_ret (de_cmpD (dc_eq hr.units) (de_fn h_obstruction hr (by decide) tk rfl (da_cons (de_lst (da_cons (de_tup (da_cons de_int (da_cons de_int da_nil))) (da_cons (de_tup (da_cons de_int (da_cons de_int da_nil))) (da_cons (de_tup (da_cons (de_neg de_int) (da_cons de_int da_nil))) da_nil)))) (da_cons de_int da_nil))) (de_tup (da_cons de_str (da_cons de_int da_nil))))))))
theorem law_law (ts : List T) (Q : T → T → Prop) (W : Exn → T → Prop) (h : sp_law ts Q W) : dn_law (finX none W) (fin0 none Q) (slots0 8 ts) := by
  obtain ⟨ns, rfl, hl, q⟩ := h
  refine dSeq.mk ⟨⟨ns, rfl, hl, fun r0 o0 => ?_⟩⟩
  refine dSeq.mk (And.intro (a := -(2 ^ 62) ≤ 2 + (if (6 : Int) < (ns.length : Int) then 6 else (ns.length : Int)) ∧ 2 + (if (6 : Int) < (ns.length : Int) then 6 else (ns.length : Int)) < 2 ^ 62) (by split <;> omega) ?_)
  have hlen : (2 + (if (6 : Int) < (ns.length : Int) then 6 else (ns.length : Int))).toNat ≤ 8 := by split <;> omega
  generalize (2 + (if (6 : Int) < (ns.length : Int) then 6 else (ns.length : Int))).toNat = turns at hlen
  refine dFor_inv (fun i ρ => ∃ (r : Spr) (x_turn x_changes x_readers x_held x_last : T), ρ = [.scr ns, .own r.d, x_turn, x_changes, x_readers, x_held, x_last, .emp] ∧ r.Ok (20000 * i)) ⟨r0, _, _, _, _, _, rfl, o0⟩ (fun i t ρ K et p k => ?_) (fun ρ p => ?_)
  · obtain ⟨r, x_turn, x_changes, x_readers, x_held, x_last, rfl, o⟩ := p
    obtain ⟨hi, rfl⟩ := rngT_get et
    refine dg_i rfl (dSeq.mk (use_draw (m := 5) o (by omega) (by decide) (by decide) fun v1 r2 v10 v11 o2 => ?_))
    refine use_changes (R := 1 + v1) (m := 8) o2 (by omega) (by omega) (by omega) (by decide) (by decide) fun cs r3 hcl hcs o3 => ?_
    have hcl : cs.length ≤ 8 := by omega
    refine (show dSeq _ _ _ [.scr ns, .own r3.d, .dat (.int (0 + (i : Nat))), .own (cs.map .int), x_readers, x_held, x_last, .emp] from ?_)
    refine dSeq_cut (fun ρ => ∃ (r : Spr) (x_turn x_readers x_held x_last : T), ρ = [.scr ns, .own r.d, x_turn, .own (cs.map .int), x_readers, x_held, x_last, .emp] ∧ r.Ok (20000 * i + 10000)) (fun K2 k2 => ?_) fun ρ p => ?_
    · refine And.intro (a := -(2 ^ 62) ≤ (1 : Int) ∧ (1 : Int) < 2 ^ 62 ∧ -(2 ^ 62) ≤ (8 : Int) ∧ (8 : Int) < 2 ^ 62) (by decide) ?_
      refine dFor_inv (fun j ρ => ∃ (r : Spr) (x_turn x_readers x_held x_last : T), ρ = [.scr ns, .own r.d, x_turn, .own (cs.map .int), x_readers, x_held, x_last, .emp] ∧ r.Ok (20000 * i + 100 + 1000 * j)) ⟨r3, _, _, _, _, rfl, o3.mono (by omega)⟩ (fun j t ρ K3 et p k3 => ?_) (fun ρ p => ?_)
      · obtain ⟨r, x_turn, x_readers, x_held, x_last, rfl, o⟩ := p
        obtain ⟨hj, rfl⟩ := rngT_get et
        have hj : j < 7 := hj
        refine dg_i rfl (use_right o (by omega) (by omega) (by omega) (by omega) hcs fun r4 o4 => ?_)
        exact br_f rfl (k3 _ ⟨r4, _, _, _, _, rfl, o4.mono (by omega)⟩)
      · obtain ⟨r, x_turn, x_readers, x_held, x_last, rfl, o⟩ := p
        exact k2 _ ⟨r, _, _, _, _, rfl, o.mono (by rw [rngT_len]; have : ((8 : Int) - 1).toNat = 7 := rfl; omega)⟩
    obtain ⟨r4, x_turn, x_readers, x_held, x_last, rfl, o4⟩ := p
    obtain ⟨pre, n, e1, e2⟩ := runs_two cs 0
    have h0 : ∀ c ∈ cs ++ [0], -1 ≤ c ∧ c ≤ 1 := fun c hc => by
      rcases List.mem_append.mp hc with h | h
      · exact hcs c h
      · simp at h; omega
    have h00 : ∀ c ∈ cs ++ [0, 0], -1 ≤ c ∧ c ≤ 1 := fun c hc => by
      rcases List.mem_append.mp hc with h | h
      · exact hcs c h
      · simp at h; omega
    have ra := runsOf_runs h0
    have rb := runsOf_runs h00
    have exa := (runsOf_is (cs ++ [0])).ex
    have exb := (runsOf_is (cs ++ [0, 0])).ex
    have la : (cs ++ [0]).length ≤ 10 := by simp; omega
    have lb : (cs ++ [0, 0]).length ≤ 10 := by simp; omega
    have ea : cs.map PyData.int ++ [.int 0] = (cs ++ [0]).map .int := by rw [List.map_append]; rfl
    have eb : cs.map PyData.int ++ [.int 0, .int 0] = (cs ++ [0, 0]).map .int := by rw [List.map_append]; rfl
    rw [e1] at ra exa
    rw [e2] at rb exb
    have ra : Runs 400 (1000000000000000000000000000000 : Int) (pre ++ [(0, n)]) := ra.mono (by omega) (by omega)
    have rb : Runs 400 (1000000000000000000000000000000 : Int) (pre ++ [(0, n + 1)]) := rb.mono (by omega) (by omega)
    have lp : pre.length ≤ 10 := by have := runsOf_len (cs ++ [0]); rw [e1] at this; simp at this; omega
    refine dSeq.mk (And.intro (a := (cs.map PyData.int).length + 1 ≤ sizeLine) (by rw [List.length_map]; exact Nat.le_trans (by omega : _ ≤ 20) (by decide)) ?_)
    refine (show Spc sp__law_record [.bor (.list (cs.map PyData.int ++ [.int 0]))] _ _ from ?_)
    rw [ea]
    refine ⟨⟨cs ++ [0], rfl, by omega, ?_⟩⟩
    rw [e1]
    refine wO_i rfl ?_
    refine (show dLcKGo _ _ _ _ _ (((pre ++ [(0, n)]).map drun).map T.dat) _ _ from ?_)
    rw [List.map_map]
    refine lcK_mp (ρ := [.scr ns, .own r4.d, x_turn, .own (cs.map .int), x_readers, x_held, x_last, .emp]) (pre ++ [(0, n)]) _ ownR rfl (Nat.le_trans (by simp; omega : _ ≤ 20) (by decide)) (fun _ _ => rfl) (fun _ _ => rfl) (fun z hz P h => h) ?_
    have tdl : ∀ rs : List (Int × Int), argsT [.scr ns, .own r4.d, x_turn, .own (cs.map .int), x_readers, .lst (rs.map ownR), x_last, .emp] ms_obstruction [.ali 5, .dat (.int 3)] = some [.bor (.list (rs.map lrun)), .bor (.int 3)] := fun rs => by
      simp [ms_obstruction, argsT, argT, lk, toD, toDL_own]
    have sz : (cs.map PyData.int).length + 1 ≤ sizeLine := by rw [List.length_map]; exact Nat.le_trans (by omega : _ ≤ 20) (by decide)
    have sz2 : (cs.map PyData.int).length + 2 ≤ sizeLine := by rw [List.length_map]; exact Nat.le_trans (by omega : _ ≤ 20) (by decide)
    have tD : (1 : Int) ≤ 3 ∧ (3 : Int) ≤ TOPN := by unfold TOPN; decide
    refine dg_i (nal_own _) ?_
    refine (show dSeq _ _ _ [.scr ns, .own r4.d, x_turn, .own (cs.map .int), x_readers, .lst ((pre ++ [(0, n)]).map ownR), x_last, .emp] from ?_)
    refine dSeq.mk ?_
    refine wO_i (tdl _) (use_obs (R := 3) (.inl rfl) (rlk_lrun _) ra tD fun x hx => ?_)
    rw [exa] at hx
    refine And.intro sz ?_
    refine (show Spc sp__law_due [.bor (.int 3), .bor (.list (cs.map PyData.int ++ [.int 0]))] _ _ from ?_)
    rw [ea]
    refine use_due (by decide) (by decide) la h0 fun y hy => ?_
    rw [obs_uniq hy hx]
    refine use_same (lay_wr hx) (nd_wr x) (br_f rfl ?_)
    refine dSeq.mk (inner_i (ts := pre.map ownR) (ds := [.int 0, .int n]) (n := n) rfl (by rw [List.map_append]; rfl) rfl ⟨(show (6 : Nat) < 8 by decide), by decide⟩ ?_)
    have e3 : T.lst (pre.map ownR ++ [.own (([.int 0, .int n] : List PyData).set 1 (.int (n + 1)))]) = .lst ((pre ++ [(0, n + 1)]).map ownR) := by rw [List.map_append]; rfl
    rw [e3]
    obtain ⟨ρ9, h9⟩ : ∃ ρ9, ρ9 = [.scr ns, .own r4.d, x_turn, .own (cs.map .int), x_readers, .lst ((pre ++ [(0, n + 1)]).map ownR), .emp, .emp] := ⟨_, rfl⟩
    generalize hρ : (((putT (slotOf ms__law_same [T.dat (wrT x), T.dat (wrT x)]) T.emp (putT (slotOf ms__law_due [T.dat (PyData.int 3), T.own (List.map PyData.int (cs ++ [0]))]) T.emp (putT (slotOf ms_obstruction [T.ali 5, T.dat (PyData.int 3)]) T.emp [.scr ns, .own r4.d, x_turn, .own (cs.map .int), x_readers, .lst ((pre ++ [(0, n)]).map ownR), x_last, .emp]))).set 6 .emp).set 5 (.lst ((pre ++ [(0, n + 1)]).map ownR))) = ρ8
    have hρ : ρ8 = ρ9 := by rw [← hρ, h9]; rfl
    rw [hρ]
    rw [h9]
    have tdl2 : argsT [.scr ns, .own r4.d, x_turn, .own (cs.map .int), x_readers, .lst ((pre ++ [(0, n + 1)]).map ownR), .emp, .emp] ms_obstruction [.ali 5, .dat (.int 3)] = some [.bor (.list ((pre ++ [(0, n + 1)]).map lrun)), .bor (.int 3)] := by
      simp [ms_obstruction, argsT, argT, lk, toD, toDL_own, -List.map_append]
    refine wO_i tdl2 (use_obs (R := 3) (.inl rfl) (rlk_lrun _) rb tD fun x hx => ?_)
    rw [exb] at hx
    refine And.intro sz2 ?_
    refine (show Spc sp__law_due [.bor (.int 3), .bor (.list (cs.map PyData.int ++ [.int 0, .int 0]))] _ _ from ?_)
    rw [eb]
    refine use_due (by decide) (by decide) lb h00 fun y hy => ?_
    rw [obs_uniq hy hx]
    refine use_same (lay_wr hx) (nd_wr x) (br_f rfl (k _ ?_))
    exact ⟨r4, _, _, _, _, _, rfl, o4.mono (by omega)⟩
  · obtain ⟨r, x_turn, x_changes, x_readers, x_held, x_last, rfl, o⟩ := p
    have rr : Runs 400 (1000000000000000000000000000000 : Int) [(1, 2), (0, 3), (-1, 1)] := by
      have a : Runs 1 (1000000000000000000000000000000 : Int) [(1, 2)] := Runs.nil.snoc (m := 0) (c := 1) (n := 2) (by simp) (by decide) (by decide) (by decide) (by decide)
      have b : Runs 2 (1000000000000000000000000000000 : Int) [(1, 2), (0, 3)] := a.snoc (c := 0) (n := 3) (by simp) (by decide) (by decide) (by decide) (by decide)
      have c : Runs 3 (1000000000000000000000000000000 : Int) [(1, 2), (0, 3), (-1, 1)] := b.snoc (c := -1) (n := 1) (by simp) (by decide) (by decide) (by decide) (by decide)
      exact c.mono (by decide) (Int.le_refl _)
    refine use_obs (R := 3) (rs := [(1, 2), (0, 3), (-1, 1)]) (.inl rfl) (rlk_self [(1, 2), (0, 3), (-1, 1)]) rr (by unfold TOPN; decide) fun x hx => ?_
    have o1 : okE (3 : Int).toNat [(1, 2)] := fun i hi => by
      have : i = 0 ∨ i = 1 := by simp at hi; omega
      rcases this with rfl | rfl
      · exact okR_nil (by decide)
      · show okZ 3 _ _ _
        unfold okZ
        simp [sumC]
    have hy := obs_run (R := 3) (rs := [(1, 2), (0, 3), (-1, 1)]) (pre := [(1, 2)]) (post := [(-1, 1)]) (p := (0, 3)) (by decide) rfl (fun q hq => (rr.cnt q hq).1) rr.chg o1 (w := ("few" : Str)) (m := 3) rfl (by decide)
    rw [obs_uniq hx hy]
    have sh := (lay_wr hy).shaped (by decide)
    refine And.intro sh (And.intro sh ?_)
    refine (show Q (.dat (.bool (PyData.eqv (wrT (some (("few" : Str), totR [(1, 2)] + 3))) (wrT (some (("few" : Str), totR [(1, 2)] + 3)))))) .emp from ?_)
    rw [(lay_wr hy).eqv]
    exact q


theorem all {l : PySem.W.OpenLaw} {w : World} {K : PySem.W.Frag} {h : Heap} {mg : Str → Option Value} {fa : Addr} (X : K.In h) (G : h.Ns mainGlobals mg) (hfa : mg "law" = some (.ref fa))
    {f0 : Addr} {od0 an0 : Option Addr} {sl0 : Array (Option Value)} {oc0 kV0 dc0 pm0 cd0 ct0 : Value}
    {T0 : Addr} {tc0 : Value} {td0 : Option Addr} {tn0 : Nat} {tl0 : Array (Option Value)}
    {f1 : Addr} {od1 an1 : Option Addr} {sl1 : Array (Option Value)} {oc1 kV1 dc1 pm1 cd1 ct1 : Value}
    {f2 : Addr} {od2 an2 : Option Addr} {sl2 : Array (Option Value)} {oc2 kV2 dc2 pm2 cd2 ct2 : Value}
    {f3 : Addr} {od3 an3 : Option Addr} {sl3 : Array (Option Value)} {oc3 kV3 dc3 pm3 cd3 ct3 : Value}
    {f4 : Addr} {od4 an4 : Option Addr} {sl4 : Array (Option Value)} {oc4 kV4 dc4 pm4 cd4 ct4 : Value}
    {f5 : Addr} {od5 an5 : Option Addr} {sl5 : Array (Option Value)} {oc5 kV5 dc5 pm5 cd5 ct5 : Value}
    {f6 : Addr} {od6 an6 : Option Addr} {sl6 : Array (Option Value)} {oc6 kV6 dc6 pm6 cd6 ct6 : Value}
    {f7 : Addr} {od7 an7 : Option Addr} {sl7 : Array (Option Value)} {oc7 kV7 dc7 pm7 cd7 ct7 : Value}
    {f8 : Addr} {od8 an8 : Option Addr} {sl8 : Array (Option Value)} {oc8 kV8 dc8 pm8 cd8 ct8 : Value}
    {f9 : Addr} {od9 an9 : Option Addr} {sl9 : Array (Option Value)} {oc9 kV9 dc9 pm9 cd9 ct9 : Value}
    {f10 : Addr} {od10 an10 : Option Addr} {sl10 : Array (Option Value)} {oc10 kV10 dc10 pm10 cd10 ct10 : Value}
    {f11 : Addr} {od11 an11 : Option Addr} {sl11 : Array (Option Value)} {oc11 kV11 dc11 pm11 cd11 ct11 : Value}
    {f12 : Addr} {od12 an12 : Option Addr} {sl12 : Array (Option Value)} {oc12 kV12 dc12 pm12 cd12 ct12 : Value}
    {f13 : Addr} {od13 an13 : Option Addr} {sl13 : Array (Option Value)} {oc13 kV13 dc13 pm13 cd13 ct13 : Value}
    {f14 : Addr} {od14 an14 : Option Addr} {sl14 : Array (Option Value)} {oc14 kV14 dc14 pm14 cd14 ct14 : Value}
    {f15 : Addr} {od15 an15 : Option Addr} {sl15 : Array (Option Value)} {oc15 kV15 dc15 pm15 cd15 ct15 : Value}
    {f16 : Addr} {od16 an16 : Option Addr} {sl16 : Array (Option Value)} {oc16 kV16 dc16 pm16 cd16 ct16 : Value}
    {f17 : Addr} {od17 an17 : Option Addr} {sl17 : Array (Option Value)} {oc17 kV17 dc17 pm17 cd17 ct17 : Value}
    {f18 : Addr} {od18 an18 : Option Addr} {sl18 : Array (Option Value)} {oc18 kV18 dc18 pm18 cd18 ct18 : Value}
    {f19 : Addr} {od19 an19 : Option Addr} {sl19 : Array (Option Value)} {oc19 kV19 dc19 pm19 cd19 ct19 : Value}
    {f20 : Addr} {od20 an20 : Option Addr} {sl20 : Array (Option Value)} {oc20 kV20 dc20 pm20 cd20 ct20 : Value}
    {f21 : Addr} {od21 an21 : Option Addr} {sl21 : Array (Option Value)} {oc21 kV21 dc21 pm21 cd21 ct21 : Value}
    {tk_FEW : Tok}
    {tk_MANY : Tok}
    {tk_MAX_COUNT : Tok}
    {tk_MAX_RUNS : Tok}
    {tk_MOST_NUMBER : Tok}
    {tk_SINGLE : Tok}
    {tk_TWO : Tok}
    (a0 : PySem.W.nsIn K mainGlobals "is_integer" = some (some (.ref f0)))
    (l0 : K.lookup f0 = some ⟨oc0, od0, .func (PySem.W.fnOf "is_integer" "is_integer" (defArgs st_is_integer) (defBody st_is_integer) (defScope st_is_integer) (.ref T0) kV0 dc0 pm0 an0 cd0 ct0), sl0⟩)
    (c0 : PySem.W.codeIn K cd0 "is_integer" = true)
    (k0 : PySem.W.keepIn K (.ref f0) = true)
    (t0 : K.lookup T0 = some ⟨tc0, td0, .seq #[.none] tn0, tl0⟩)
    (a1 : PySem.W.nsIn K mainGlobals "is_listed" = some (some (.ref f1)))
    (l1 : K.lookup f1 = some ⟨oc1, od1, .func (PySem.W.fnOf "is_listed" "is_listed" (defArgs st_is_listed) (defBody st_is_listed) (defScope st_is_listed) .none kV1 dc1 pm1 an1 cd1 ct1), sl1⟩)
    (c1 : PySem.W.codeIn K cd1 "is_listed" = true)
    (k1 : PySem.W.keepIn K (.ref f1) = true)
    (a2 : PySem.W.nsIn K mainGlobals "is_change" = some (some (.ref f2)))
    (l2 : K.lookup f2 = some ⟨oc2, od2, .func (PySem.W.fnOf "is_change" "is_change" (defArgs st_is_change) (defBody st_is_change) (defScope st_is_change) .none kV2 dc2 pm2 an2 cd2 ct2), sl2⟩)
    (c2 : PySem.W.codeIn K cd2 "is_change" = true)
    (k2 : PySem.W.keepIn K (.ref f2) = true)
    (a3 : PySem.W.nsIn K mainGlobals "is_run" = some (some (.ref f3)))
    (l3 : K.lookup f3 = some ⟨oc3, od3, .func (PySem.W.fnOf "is_run" "is_run" (defArgs st_is_run) (defBody st_is_run) (defScope st_is_run) .none kV3 dc3 pm3 an3 cd3 ct3), sl3⟩)
    (c3 : PySem.W.codeIn K cd3 "is_run" = true)
    (k3 : PySem.W.keepIn K (.ref f3) = true)
    (a4 : PySem.W.nsIn K mainGlobals "is_record" = some (some (.ref f4)))
    (l4 : K.lookup f4 = some ⟨oc4, od4, .func (PySem.W.fnOf "is_record" "is_record" (defArgs st_is_record) (defBody st_is_record) (defScope st_is_record) .none kV4 dc4 pm4 an4 cd4 ct4), sl4⟩)
    (c4 : PySem.W.codeIn K cd4 "is_record" = true)
    (k4 : PySem.W.keepIn K (.ref f4) = true)
    (a5 : PySem.W.nsIn K mainGlobals "checked_record" = some (some (.ref f5)))
    (l5 : K.lookup f5 = some ⟨oc5, od5, .func (PySem.W.fnOf "checked_record" "checked_record" (defArgs st_checked_record) (defBody st_checked_record) (defScope st_checked_record) .none kV5 dc5 pm5 an5 cd5 ct5), sl5⟩)
    (c5 : PySem.W.codeIn K cd5 "checked_record" = true)
    (k5 : PySem.W.keepIn K (.ref f5) = true)
    (a6 : PySem.W.nsIn K mainGlobals "after_run" = some (some (.ref f6)))
    (l6 : K.lookup f6 = some ⟨oc6, od6, .func (PySem.W.fnOf "after_run" "after_run" (defArgs st_after_run) (defBody st_after_run) (defScope st_after_run) .none kV6 dc6 pm6 an6 cd6 ct6), sl6⟩)
    (c6 : PySem.W.codeIn K cd6 "after_run" = true)
    (k6 : PySem.W.keepIn K (.ref f6) = true)
    (a7 : PySem.W.nsIn K mainGlobals "check_many_readers" = some (some (.ref f7)))
    (l7 : K.lookup f7 = some ⟨oc7, od7, .func (PySem.W.fnOf "check_many_readers" "check_many_readers" (defArgs st_check_many_readers) (defBody st_check_many_readers) (defScope st_check_many_readers) .none kV7 dc7 pm7 an7 cd7 ct7), sl7⟩)
    (c7 : PySem.W.codeIn K cd7 "check_many_readers" = true)
    (k7 : PySem.W.keepIn K (.ref f7) = true)
    (a8 : PySem.W.nsIn K mainGlobals "wrong_read" = some (some (.ref f8)))
    (l8 : K.lookup f8 = some ⟨oc8, od8, .func (PySem.W.fnOf "wrong_read" "wrong_read" (defArgs st_wrong_read) (defBody st_wrong_read) (defScope st_wrong_read) .none kV8 dc8 pm8 an8 cd8 ct8), sl8⟩)
    (c8 : PySem.W.codeIn K cd8 "wrong_read" = true)
    (k8 : PySem.W.keepIn K (.ref f8) = true)
    (a9 : PySem.W.nsIn K mainGlobals "obstruction_of" = some (some (.ref f9)))
    (l9 : K.lookup f9 = some ⟨oc9, od9, .func (PySem.W.fnOf "obstruction_of" "obstruction_of" (defArgs st_obstruction_of) (defBody st_obstruction_of) (defScope st_obstruction_of) .none kV9 dc9 pm9 an9 cd9 ct9), sl9⟩)
    (c9 : PySem.W.codeIn K cd9 "obstruction_of" = true)
    (k9 : PySem.W.keepIn K (.ref f9) = true)
    (a10 : PySem.W.nsIn K mainGlobals "obstruction" = some (some (.ref f10)))
    (l10 : K.lookup f10 = some ⟨oc10, od10, .func (PySem.W.fnOf "obstruction" "obstruction" (defArgs st_obstruction) (defBody st_obstruction) (defScope st_obstruction) .none kV10 dc10 pm10 an10 cd10 ct10), sl10⟩)
    (c10 : PySem.W.codeIn K cd10 "obstruction" = true)
    (k10 : PySem.W.keepIn K (.ref f10) = true)
    (a11 : PySem.W.nsIn K mainGlobals "_law_spring" = some (some (.ref f11)))
    (l11 : K.lookup f11 = some ⟨oc11, od11, .func (PySem.W.fnOf "_law_spring" "_law_spring" (defArgs st__law_spring) (defBody st__law_spring) (defScope st__law_spring) .none kV11 dc11 pm11 an11 cd11 ct11), sl11⟩)
    (c11 : PySem.W.codeIn K cd11 "_law_spring" = true)
    (k11 : PySem.W.keepIn K (.ref f11) = true)
    (a12 : PySem.W.nsIn K mainGlobals "_law_draw" = some (some (.ref f12)))
    (l12 : K.lookup f12 = some ⟨oc12, od12, .func (PySem.W.fnOf "_law_draw" "_law_draw" (defArgs st__law_draw) (defBody st__law_draw) (defScope st__law_draw) .none kV12 dc12 pm12 an12 cd12 ct12), sl12⟩)
    (c12 : PySem.W.codeIn K cd12 "_law_draw" = true)
    (k12 : PySem.W.keepIn K (.ref f12) = true)
    (a13 : PySem.W.nsIn K mainGlobals "_law_same" = some (some (.ref f13)))
    (l13 : K.lookup f13 = some ⟨oc13, od13, .func (PySem.W.fnOf "_law_same" "_law_same" (defArgs st__law_same) (defBody st__law_same) (defScope st__law_same) .none kV13 dc13 pm13 an13 cd13 ct13), sl13⟩)
    (c13 : PySem.W.codeIn K cd13 "_law_same" = true)
    (k13 : PySem.W.keepIn K (.ref f13) = true)
    (a14 : PySem.W.nsIn K mainGlobals "_law_dressed" = some (some (.ref f14)))
    (l14 : K.lookup f14 = some ⟨oc14, od14, .func (PySem.W.fnOf "_law_dressed" "_law_dressed" (defArgs st__law_dressed) (defBody st__law_dressed) (defScope st__law_dressed) .none kV14 dc14 pm14 an14 cd14 ct14), sl14⟩)
    (c14 : PySem.W.codeIn K cd14 "_law_dressed" = true)
    (k14 : PySem.W.keepIn K (.ref f14) = true)
    (a15 : PySem.W.nsIn K mainGlobals "_law_record" = some (some (.ref f15)))
    (l15 : K.lookup f15 = some ⟨oc15, od15, .func (PySem.W.fnOf "_law_record" "_law_record" (defArgs st__law_record) (defBody st__law_record) (defScope st__law_record) .none kV15 dc15 pm15 an15 cd15 ct15), sl15⟩)
    (c15 : PySem.W.codeIn K cd15 "_law_record" = true)
    (k15 : PySem.W.keepIn K (.ref f15) = true)
    (a16 : PySem.W.nsIn K mainGlobals "_law_next" = some (some (.ref f16)))
    (l16 : K.lookup f16 = some ⟨oc16, od16, .func (PySem.W.fnOf "_law_next" "_law_next" (defArgs st__law_next) (defBody st__law_next) (defScope st__law_next) .none kV16 dc16 pm16 an16 cd16 ct16), sl16⟩)
    (c16 : PySem.W.codeIn K cd16 "_law_next" = true)
    (k16 : PySem.W.keepIn K (.ref f16) = true)
    (a17 : PySem.W.nsIn K mainGlobals "_law_layers" = some (some (.ref f17)))
    (l17 : K.lookup f17 = some ⟨oc17, od17, .func (PySem.W.fnOf "_law_layers" "_law_layers" (defArgs st__law_layers) (defBody st__law_layers) (defScope st__law_layers) .none kV17 dc17 pm17 an17 cd17 ct17), sl17⟩)
    (c17 : PySem.W.codeIn K cd17 "_law_layers" = true)
    (k17 : PySem.W.keepIn K (.ref f17) = true)
    (a18 : PySem.W.nsIn K mainGlobals "_law_changes" = some (some (.ref f18)))
    (l18 : K.lookup f18 = some ⟨oc18, od18, .func (PySem.W.fnOf "_law_changes" "_law_changes" (defArgs st__law_changes) (defBody st__law_changes) (defScope st__law_changes) .none kV18 dc18 pm18 an18 cd18 ct18), sl18⟩)
    (c18 : PySem.W.codeIn K cd18 "_law_changes" = true)
    (k18 : PySem.W.keepIn K (.ref f18) = true)
    (a19 : PySem.W.nsIn K mainGlobals "_law_due" = some (some (.ref f19)))
    (l19 : K.lookup f19 = some ⟨oc19, od19, .func (PySem.W.fnOf "_law_due" "_law_due" (defArgs st__law_due) (defBody st__law_due) (defScope st__law_due) .none kV19 dc19 pm19 an19 cd19 ct19), sl19⟩)
    (c19 : PySem.W.codeIn K cd19 "_law_due" = true)
    (k19 : PySem.W.keepIn K (.ref f19) = true)
    (a20 : PySem.W.nsIn K mainGlobals "_law_right" = some (some (.ref f20)))
    (l20 : K.lookup f20 = some ⟨oc20, od20, .func (PySem.W.fnOf "_law_right" "_law_right" (defArgs st__law_right) (defBody st__law_right) (defScope st__law_right) .none kV20 dc20 pm20 an20 cd20 ct20), sl20⟩)
    (c20 : PySem.W.codeIn K cd20 "_law_right" = true)
    (k20 : PySem.W.keepIn K (.ref f20) = true)
    (a21 : PySem.W.nsIn K mainGlobals "law" = some (some (.ref f21)))
    (l21 : K.lookup f21 = some ⟨oc21, od21, .func (PySem.W.fnOf "law" "law" (defArgs st_law) (defBody st_law) (defScope st_law) .none kV21 dc21 pm21 an21 cd21 ct21), sl21⟩)
    (c21 : PySem.W.codeIn K cd21 "law" = true)
    (k21 : PySem.W.keepIn K (.ref f21) = true)
    (z_abs : PySem.W.nsIn K mainGlobals "abs" = some none)
    (z_all : PySem.W.nsIn K mainGlobals "all" = some none)
    (z_bool : PySem.W.nsIn K mainGlobals "bool" = some none)
    (z_int : PySem.W.nsIn K mainGlobals "int" = some none)
    (z_isinstance : PySem.W.nsIn K mainGlobals "isinstance" = some none)
    (z_len : PySem.W.nsIn K mainGlobals "len" = some none)
    (z_list : PySem.W.nsIn K mainGlobals "list" = some none)
    (z_min : PySem.W.nsIn K mainGlobals "min" = some none)
    (z_range : PySem.W.nsIn K mainGlobals "range" = some none)
    (z_repr : PySem.W.nsIn K mainGlobals "repr" = some none)
    (z_str : PySem.W.nsIn K mainGlobals "str" = some none)
    (z_tuple : PySem.W.nsIn K mainGlobals "tuple" = some none)
    (z_zip : PySem.W.nsIn K mainGlobals "zip" = some none)
    (m_FEW : PySem.W.nsIn K mainGlobals "FEW" = some (some (.str ("few" : Str) tk_FEW)))
    (m_MANY : PySem.W.nsIn K mainGlobals "MANY" = some (some (.str ("many" : Str) tk_MANY)))
    (m_MAX_COUNT : PySem.W.nsIn K mainGlobals "MAX_COUNT" = some (some (.int 1000000000000000000000000000000 tk_MAX_COUNT)))
    (m_MAX_RUNS : PySem.W.nsIn K mainGlobals "MAX_RUNS" = some (some (.int 400 tk_MAX_RUNS)))
    (m_MOST_NUMBER : PySem.W.nsIn K mainGlobals "MOST_NUMBER" = some (some (.int 1000000000000000000000000000000000000000 tk_MOST_NUMBER)))
    (m_SINGLE : PySem.W.nsIn K mainGlobals "SINGLE" = some (some (.str ("single" : Str) tk_SINGLE)))
    (m_TWO : PySem.W.nsIn K mainGlobals "TWO" = some (some (.str ("two" : Str) tk_TWO)))
    : ∃ fd : FuncData, (∀ (s : Shared) (v : Value), BindsTo s fd ⟨[v], []⟩ [("script", v)]) ∧ ∀ base : Heap, K.In base → base.Ns mainGlobals mg → FnG l.prog w K mg base 8 fa fd ["script"] (toSp K 1 none sp_law) := by
  have e := hfa.symm.trans (PySem.W.mg_of X G a21)
  cases e
  have n_abs := PySem.W.mg_none_of X G z_abs
  have n_all := PySem.W.mg_none_of X G z_all
  have n_bool := PySem.W.mg_none_of X G z_bool
  have n_int := PySem.W.mg_none_of X G z_int
  have n_isinstance := PySem.W.mg_none_of X G z_isinstance
  have n_len := PySem.W.mg_none_of X G z_len
  have n_list := PySem.W.mg_none_of X G z_list
  have n_min := PySem.W.mg_none_of X G z_min
  have n_range := PySem.W.mg_none_of X G z_range
  have n_repr := PySem.W.mg_none_of X G z_repr
  have n_str := PySem.W.mg_none_of X G z_str
  have n_tuple := PySem.W.mg_none_of X G z_tuple
  have n_zip := PySem.W.mg_none_of X G z_zip
  have c_FEW : HasC mg "FEW" (.str ("few" : Str)) := ⟨_, PySem.W.mg_of X G m_FEW, ⟨_, rfl⟩⟩
  have c_MANY : HasC mg "MANY" (.str ("many" : Str)) := ⟨_, PySem.W.mg_of X G m_MANY, ⟨_, rfl⟩⟩
  have c_MAX_COUNT : HasC mg "MAX_COUNT" (.int 1000000000000000000000000000000) := ⟨_, PySem.W.mg_of X G m_MAX_COUNT, ⟨_, rfl⟩⟩
  have c_MAX_RUNS : HasC mg "MAX_RUNS" (.int 400) := ⟨_, PySem.W.mg_of X G m_MAX_RUNS, ⟨_, rfl⟩⟩
  have c_MOST_NUMBER : HasC mg "MOST_NUMBER" (.int 1000000000000000000000000000000000000000) := ⟨_, PySem.W.mg_of X G m_MOST_NUMBER, ⟨_, rfl⟩⟩
  have c_SINGLE : HasC mg "SINGLE" (.str ("single" : Str)) := ⟨_, PySem.W.mg_of X G m_SINGLE, ⟨_, rfl⟩⟩
  have c_TWO : HasC mg "TWO" (.str ("two" : Str)) := ⟨_, PySem.W.mg_of X G m_TWO, ⟨_, rfl⟩⟩
  have F0 : FunD K "is_integer" "is_integer" (defArgs st_is_integer) (defBody st_is_integer) (defScope st_is_integer) [V.non] [] f0 _ := ⟨⟨_, _, .ref T0, _, _, _, _, _, _, _, rfl, l0, c0, .inr ⟨by simp, T0, _, [.none], tn0, rfl, t0, rfl, (.cons rfl .nil)⟩, .inl rfl⟩, k0⟩
  have b0 : ∃ ds, Vals (([V.non] : List V).drop 1) ds ∧ Binds K _ ["value", "low", "high"] ds := F0.binds1 (ps := ["value", "low", "high"]) 3 1 (by simp) rfl (fun _ _ _ _ _ _ _ us its hl hi => match us, its, hl, hi with | [_, _, _], [_], _, _ => ⟨_, rfl, rfl⟩)
  obtain ⟨ds0, v0, b0⟩ := b0
  cases v0
  have F1 := fun_mk (st := st_is_listed) l1 c1 k1
  have b1 := F1.binds (ps := ["value"]) fun _ _ _ _ _ _ us hl => match us, hl with | [_], _ => rfl
  have F2 := fun_mk (st := st_is_change) l2 c2 k2
  have b2 := F2.binds (ps := ["value"]) fun _ _ _ _ _ _ us hl => match us, hl with | [_], _ => rfl
  have F3 := fun_mk (st := st_is_run) l3 c3 k3
  have b3 := F3.binds (ps := ["value"]) fun _ _ _ _ _ _ us hl => match us, hl with | [_], _ => rfl
  have F4 := fun_mk (st := st_is_record) l4 c4 k4
  have b4 := F4.binds (ps := ["value"]) fun _ _ _ _ _ _ us hl => match us, hl with | [_], _ => rfl
  have F5 := fun_mk (st := st_checked_record) l5 c5 k5
  have b5 := F5.binds (ps := ["value"]) fun _ _ _ _ _ _ us hl => match us, hl with | [_], _ => rfl
  have F6 := fun_mk (st := st_after_run) l6 c6 k6
  have b6 := F6.binds (ps := ["totals", "change", "count"]) fun _ _ _ _ _ _ us hl => match us, hl with | [_, _, _], _ => rfl
  have F7 := fun_mk (st := st_check_many_readers) l7 c7 k7
  have b7 := F7.binds (ps := ["readers"]) fun _ _ _ _ _ _ us hl => match us, hl with | [_], _ => rfl
  have F8 := fun_mk (st := st_wrong_read) l8 c8 k8
  have b8 := F8.binds (ps := ["readers", "totals", "change"]) fun _ _ _ _ _ _ us hl => match us, hl with | [_, _, _], _ => rfl
  have F9 := fun_mk (st := st_obstruction_of) l9 c9 k9
  have b9 := F9.binds (ps := ["runs", "readers"]) fun _ _ _ _ _ _ us hl => match us, hl with | [_, _], _ => rfl
  have F10 := fun_mk (st := st_obstruction) l10 c10 k10
  have b10 := F10.binds (ps := ["record", "readers"]) fun _ _ _ _ _ _ us hl => match us, hl with | [_, _], _ => rfl
  have F11 := fun_mk (st := st__law_spring) l11 c11 k11
  have b11 := F11.binds (ps := ["script"]) fun _ _ _ _ _ _ us hl => match us, hl with | [_], _ => rfl
  have F12 := fun_mk (st := st__law_draw) l12 c12 k12
  have b12 := F12.binds (ps := ["spring", "many"]) fun _ _ _ _ _ _ us hl => match us, hl with | [_, _], _ => rfl
  have F13 := fun_mk (st := st__law_same) l13 c13 k13
  have b13 := F13.binds (ps := ["found", "due"]) fun _ _ _ _ _ _ us hl => match us, hl with | [_, _], _ => rfl
  have F14 := fun_mk (st := st__law_dressed) l14 c14 k14
  have b14 := F14.binds (ps := ["spring", "value"]) fun _ _ _ _ _ _ us hl => match us, hl with | [_, _], _ => rfl
  have F15 := fun_mk (st := st__law_record) l15 c15 k15
  have b15 := F15.binds (ps := ["changes"]) fun _ _ _ _ _ _ us hl => match us, hl with | [_], _ => rfl
  have F16 := fun_mk (st := st__law_next) l16 c16 k16
  have b16 := F16.binds (ps := ["state", "change"]) fun _ _ _ _ _ _ us hl => match us, hl with | [_, _], _ => rfl
  have F17 := fun_mk (st := st__law_layers) l17 c17 k17
  have b17 := F17.binds (ps := ["readers", "changes"]) fun _ _ _ _ _ _ us hl => match us, hl with | [_, _], _ => rfl
  have F18 := fun_mk (st := st__law_changes) l18 c18 k18
  have b18 := F18.binds (ps := ["spring", "readers", "most"]) fun _ _ _ _ _ _ us hl => match us, hl with | [_, _, _], _ => rfl
  have F19 := fun_mk (st := st__law_due) l19 c19 k19
  have b19 := F19.binds (ps := ["readers", "changes"]) fun _ _ _ _ _ _ us hl => match us, hl with | [_, _], _ => rfl
  have F20 := fun_mk (st := st__law_right) l20 c20 k20
  have b20 := F20.binds (ps := ["spring", "readers", "changes"]) fun _ _ _ _ _ _ us hl => match us, hl with | [_, _, _], _ => rfl
  have F21 := fun_mk (st := st_law) l21 c21 k21
  refine ⟨PySem.W.fnOf "law" "law" (defArgs st_law) (defBody st_law) (defScope st_law) .none kV21 dc21 pm21 an21 cd21 ct21, fun s v => .of_eq rfl, fun base _ _ => ?_⟩
  have h_is_integer : Has l.prog w K mg base "is_integer" 1 ["value", "low", "high"] ms_is_integer sp_is_integer := ⟨⟨f0, _, PySem.W.mg_of X G a0, k0, b0, fn_dataD F0 sc_is_integer [] none (by intro j e; cases e) dn_is_integer (fun cdv A os s H E Wd B0 o vs hr tk => dp_is_integer n_bool n_int n_isinstance hr tk) (fun ts Q W _ h => law_is_integer ts Q W h)⟩, mono_is_integer, rfl⟩
  have h_is_listed : Has l.prog w K mg base "is_listed" 1 ["value"] ms_is_listed sp_is_listed := ⟨⟨f1, _, PySem.W.mg_of X G a1, k1, b1, fn_data F1 sc_is_listed [] none (by intro j e; cases e) dn_is_listed (fun cdv A os s H E Wd B0 o vs hr tk => dp_is_listed n_isinstance n_list n_tuple hr tk) (fun ts Q W _ h => law_is_listed ts Q W h)⟩, mono_is_listed, rfl⟩
  have h_is_change : Has l.prog w K mg base "is_change" 2 ["value"] ms_is_change sp_is_change := ⟨⟨f2, _, PySem.W.mg_of X G a2, k2, b2, fn_data F2 sc_is_change [] none (by intro j e; cases e) dn_is_change (fun cdv A os s H E Wd B0 o vs hr tk => dp_is_change h_is_integer hr tk) (fun ts Q W _ h => law_is_change ts Q W h)⟩, mono_is_change, rfl⟩
  have h_is_run : Has l.prog w K mg base "is_run" 3 ["value"] ms_is_run sp_is_run := ⟨⟨f3, _, PySem.W.mg_of X G a3, k3, b3, fn_data F3 sc_is_run [] none (by intro j e; cases e) dn_is_run (fun cdv A os s H E Wd B0 o vs hr tk => dp_is_run n_len c_MAX_COUNT h_is_change h_is_integer h_is_listed hr tk) (fun ts Q W _ h => law_is_run ts Q W h)⟩, mono_is_run, rfl⟩
  have h_is_record : Has l.prog w K mg base "is_record" 4 ["value"] ms_is_record sp_is_record := ⟨⟨f4, _, PySem.W.mg_of X G a4, k4, b4, fn_data F4 sc_is_record [1, 2, 3] none (by intro j e; cases e) dn_is_record (fun cdv A os s H E Wd B0 o vs hr tk => dp_is_record n_all n_len n_zip c_MAX_RUNS h_is_listed h_is_run hr tk) (fun ts Q W _ h => law_is_record ts Q W h)⟩, mono_is_record, rfl⟩
  have h_checked_record : Has l.prog w K mg base "checked_record" 5 ["value"] ms_checked_record sp_checked_record := ⟨⟨f5, _, PySem.W.mg_of X G a5, k5, b5, fn_data F5 sc_checked_record [1] none (by intro j e; cases e) dn_checked_record (fun cdv A os s H E Wd B0 o vs hr tk => dp_checked_record n_tuple h_is_record hr tk) (fun ts Q W _ h => law_checked_record ts Q W h)⟩, mono_checked_record, rfl⟩
  have h_after_run : Has l.prog w K mg base "after_run" 1 ["totals", "change", "count"] ms_after_run sp_after_run := ⟨⟨f6, _, PySem.W.mg_of X G a6, k6, b6, fn_data F6 sc_after_run [] none (by intro j e; cases e) dn_after_run (fun cdv A os s H E Wd B0 o vs hr tk => dp_after_run  hr tk) (fun ts Q W _ h => law_after_run ts Q W h)⟩, mono_after_run, rfl⟩
  have h_check_many_readers : Has l.prog w K mg base "check_many_readers" 2 ["readers"] ms_check_many_readers sp_check_many_readers := ⟨⟨f7, _, PySem.W.mg_of X G a7, k7, b7, fn_data F7 sc_check_many_readers [] none (by intro j e; cases e) dn_check_many_readers (fun cdv A os s H E Wd B0 o vs hr tk => dp_check_many_readers c_MOST_NUMBER h_is_integer hr tk) (fun ts Q W _ h => law_check_many_readers ts Q W h)⟩, mono_check_many_readers, rfl⟩
  have h_wrong_read : Has l.prog w K mg base "wrong_read" 1 ["readers", "totals", "change"] ms_wrong_read sp_wrong_read := ⟨⟨f8, _, PySem.W.mg_of X G a8, k8, b8, fn_data F8 sc_wrong_read [] none (by intro j e; cases e) dn_wrong_read (fun cdv A os s H E Wd B0 o vs hr tk => dp_wrong_read c_FEW c_MANY c_SINGLE c_TWO hr tk) (fun ts Q W _ h => law_wrong_read ts Q W h)⟩, mono_wrong_read, rfl⟩
  have h_obstruction_of : Has l.prog w K mg base "obstruction_of" 2 ["runs", "readers"] ms_obstruction_of sp_obstruction_of := ⟨⟨f9, _, PySem.W.mg_of X G a9, k9, b9, fn_data F9 sc_obstruction_of [] none (by intro j e; cases e) dn_obstruction_of (fun cdv A os s H E Wd B0 o vs hr tk => dp_obstruction_of h_after_run h_wrong_read hr tk) (fun ts Q W _ h => law_obstruction_of ts Q W h)⟩, mono_obstruction_of, rfl⟩
  have h_obstruction : Has l.prog w K mg base "obstruction" 6 ["record", "readers"] ms_obstruction sp_obstruction := ⟨⟨f10, _, PySem.W.mg_of X G a10, k10, b10, fn_data F10 sc_obstruction [] none (by intro j e; cases e) dn_obstruction (fun cdv A os s H E Wd B0 o vs hr tk => dp_obstruction h_check_many_readers h_checked_record h_obstruction_of hr tk) (fun ts Q W _ h => law_obstruction ts Q W h)⟩, mono_obstruction, rfl⟩
  have h__law_spring : Has l.prog w K mg base "_law_spring" 1 ["script"] ms__law_spring sp__law_spring := ⟨⟨f11, _, PySem.W.mg_of X G a11, k11, b11, fn_data F11 sc__law_spring [] (some 0) (by intro j e; cases e; decide) dn__law_spring (fun cdv A os s H E Wd B0 o vs hr tk => dp__law_spring n_abs hr tk) (fun ts Q W _ h => law__law_spring ts Q W h)⟩, mono__law_spring, rfl⟩
  have h__law_draw : Has l.prog w K mg base "_law_draw" 1 ["spring", "many"] ms__law_draw sp__law_draw := ⟨⟨f12, _, PySem.W.mg_of X G a12, k12, b12, fn_data F12 sc__law_draw [] (some 0) (by intro j e; cases e; decide) dn__law_draw (fun cdv A os s H E Wd B0 o vs hr tk => dp__law_draw  hr tk) (fun ts Q W _ h => law__law_draw ts Q W h)⟩, mono__law_draw, rfl⟩
  have h__law_same : ∀ nr, Has l.prog w K mg base "_law_same" (0 + nr) ["found", "due"] ms__law_same (spn__law_same nr) := by
    intro nr; induction nr with
    | zero => exact ⟨⟨f13, _, PySem.W.mg_of X G a13, k13, b13, ⟨fun _ _ _ _ ⟨_, _, _, _, _, h⟩ => (never__law_same _ _ _ h).elim, fun _ _ _ _ _ _ _ _ _ _ _ _ _ ⟨_, _, _, _, _, h⟩ => (never__law_same _ _ _ h).elim⟩⟩, mono__law_same 0, rfl⟩
    | succ nr ih => exact ⟨⟨f13, _, PySem.W.mg_of X G a13, k13, b13, fn_data F13 sc__law_same [2] none (by intro j e; cases e) (dn__law_same (spn__law_same nr)) (fun cdv A os s H E Wd B0 o vs hr tk => dp__law_same n_all n_bool n_isinstance n_len n_list n_range n_str n_tuple ih hr tk) (fun ts Q W _ h => law__law_same nr ts Q W h)⟩, mono__law_same (nr + 1), rfl⟩
  have h__law_same : Has l.prog w K mg base "_law_same" 4 ["found", "due"] ms__law_same sp__law_same := h__law_same 4
  have h__law_dressed : ∀ nr, Has l.prog w K mg base "_law_dressed" (1 + nr) ["spring", "value"] ms__law_dressed (spn__law_dressed nr) := by
    intro nr; induction nr with
    | zero => exact ⟨⟨f14, _, PySem.W.mg_of X G a14, k14, b14, ⟨fun _ _ _ _ ⟨_, _, _, _, _, h⟩ => (never__law_dressed _ _ _ h).elim, fun _ _ _ _ _ _ _ _ _ _ _ _ _ ⟨_, _, _, _, _, h⟩ => (never__law_dressed _ _ _ h).elim⟩⟩, mono__law_dressed 0, rfl⟩
    | succ nr ih => exact ⟨⟨f14, _, PySem.W.mg_of X G a14, k14, b14, fn_data F14 sc__law_dressed [3] (some 0) (by intro j e; cases e; decide) (dn__law_dressed (spn__law_dressed nr)) (fun cdv A os s H E Wd B0 o vs hr tk => dp__law_dressed n_isinstance n_list n_tuple h__law_draw ih hr tk) (fun ts Q W _ h => law__law_dressed nr ts Q W h)⟩, mono__law_dressed (nr + 1), rfl⟩
  have h__law_dressed : Has l.prog w K mg base "_law_dressed" 5 ["spring", "value"] ms__law_dressed sp__law_dressed := h__law_dressed 4
  have h__law_record : Has l.prog w K mg base "_law_record" 1 ["changes"] ms__law_record sp__law_record := ⟨⟨f15, _, PySem.W.mg_of X G a15, k15, b15, fn_data F15 sc__law_record [] none (by intro j e; cases e) dn__law_record (fun cdv A os s H E Wd B0 o vs hr tk => dp__law_record  hr tk) (fun ts Q W _ h => law__law_record ts Q W h)⟩, mono__law_record, rfl⟩
  have h__law_next : Has l.prog w K mg base "_law_next" 1 ["state", "change"] ms__law_next sp__law_next := ⟨⟨f16, _, PySem.W.mg_of X G a16, k16, b16, fn_data F16 sc__law_next [] none (by intro j e; cases e) dn__law_next (fun cdv A os s H E Wd B0 o vs hr tk => dp__law_next n_int n_len n_range hr tk) (fun ts Q W _ h => law__law_next ts Q W h)⟩, mono__law_next, rfl⟩
  have h__law_layers : Has l.prog w K mg base "_law_layers" 2 ["readers", "changes"] ms__law_layers sp__law_layers := ⟨⟨f17, _, PySem.W.mg_of X G a17, k17, b17, fn_data F17 sc__law_layers [6, 7] none (by intro j e; cases e) dn__law_layers (fun cdv A os s H E Wd B0 o vs hr tk => dp__law_layers n_len n_range h__law_next hr tk) (fun ts Q W _ h => law__law_layers ts Q W h)⟩, mono__law_layers, rfl⟩
  have h__law_changes : Has l.prog w K mg base "_law_changes" 2 ["spring", "readers", "most"] ms__law_changes sp__law_changes := ⟨⟨f18, _, PySem.W.mg_of X G a18, k18, b18, fn_data F18 sc__law_changes [9, 10] (some 0) (by intro j e; cases e; decide) dn__law_changes (fun cdv A os s H E Wd B0 o vs hr tk => dp__law_changes n_len n_range h__law_draw h__law_next hr tk) (fun ts Q W _ h => law__law_changes ts Q W h)⟩, mono__law_changes, rfl⟩
  have h__law_due : Has l.prog w K mg base "_law_due" 3 ["readers", "changes"] ms__law_due sp__law_due := ⟨⟨f19, _, PySem.W.mg_of X G a19, k19, b19, fn_data F19 sc__law_due [] none (by intro j e; cases e) dn__law_due (fun cdv A os s H E Wd B0 o vs hr tk => dp__law_due n_len n_range h__law_layers hr tk) (fun ts Q W _ h => law__law_due ts Q W h)⟩, mono__law_due, rfl⟩
  have h__law_right : Has l.prog w K mg base "_law_right" 7 ["spring", "readers", "changes"] ms__law_right sp__law_right := ⟨⟨f20, _, PySem.W.mg_of X G a20, k20, b20, fn_data F20 sc__law_right [] (some 0) (by intro j e; cases e; decide) dn__law_right (fun cdv A os s H E Wd B0 o vs hr tk => dp__law_right n_range n_repr h__law_dressed h__law_due h__law_record h__law_same h_obstruction hr tk) (fun ts Q W _ h => law__law_right ts Q W h)⟩, mono__law_right, rfl⟩
  exact fn_data F21 sc_law [7] none (by intro j e; cases e) dn_law (fun cdv A os s H E Wd B0 o vs hr tk => dp_law n_len n_list n_min n_range h__law_changes h__law_draw h__law_due h__law_record h__law_right h__law_same h__law_spring h_obstruction hr tk) (fun ts Q W _ h => law_law ts Q W h)
end Lw

open PySem PySem.W PyProof.Rows in
set_option maxRecDepth 100000 in
set_option maxHeartbeats 0 in
theorem PySem.Challenge.cw_teesizes_k14_first_obstructions_holds : PySem.Challenge.rw_teesizes_k14_first_obstructions.Holds := by
  w_on; o_law; k_head; (case hw => w_witness2)
  k_fill
  refine Ds.walkD (l := PySem.Challenge.rw_teesizes_k14_first_obstructions) (k := 8) rfl rfl ⟨⟨rfl, by decide, by decide⟩, rfl⟩ (fun w h Y => PySem.W.kIn_of Y) Lw.mono_law (fun ns Q W hl h => ⟨ns, rfl, hl, h⟩) ?F
  case F =>
    intro w mg fa h KX G hmg
    refine' Lw.all KX G hmg ?a0 ?l0 ?c0 ?k0 ?t0 ?a1 ?l1 ?c1 ?k1 ?a2 ?l2 ?c2 ?k2 ?a3 ?l3 ?c3 ?k3 ?a4 ?l4 ?c4 ?k4 ?a5 ?l5 ?c5 ?k5 ?a6 ?l6 ?c6 ?k6 ?a7 ?l7 ?c7 ?k7 ?a8 ?l8 ?c8 ?k8 ?a9 ?l9 ?c9 ?k9 ?a10 ?l10 ?c10 ?k10 ?a11 ?l11 ?c11 ?k11 ?a12 ?l12 ?c12 ?k12 ?a13 ?l13 ?c13 ?k13 ?a14 ?l14 ?c14 ?k14 ?a15 ?l15 ?c15 ?k15 ?a16 ?l16 ?c16 ?k16 ?a17 ?l17 ?c17 ?k17 ?a18 ?l18 ?c18 ?k18 ?a19 ?l19 ?c19 ?k19 ?a20 ?l20 ?c20 ?k20 ?a21 ?l21 ?c21 ?k21 ?z_abs ?z_all ?z_bool ?z_int ?z_isinstance ?z_len ?z_list ?z_min ?z_range ?z_repr ?z_str ?z_tuple ?z_zip ?m_FEW ?m_MANY ?m_MAX_COUNT ?m_MAX_RUNS ?m_MOST_NUMBER ?m_SINGLE ?m_TWO
    (case a0 => k_is)
    (case l0 => k_is)
    (case c0 => k_is)
    (case k0 => k_is)
    (case t0 => k_is)
    (case a1 => k_is)
    (case l1 => k_is)
    (case c1 => k_is)
    (case k1 => k_is)
    (case a2 => k_is)
    (case l2 => k_is)
    (case c2 => k_is)
    (case k2 => k_is)
    (case a3 => k_is)
    (case l3 => k_is)
    (case c3 => k_is)
    (case k3 => k_is)
    (case a4 => k_is)
    (case l4 => k_is)
    (case c4 => k_is)
    (case k4 => k_is)
    (case a5 => k_is)
    (case l5 => k_is)
    (case c5 => k_is)
    (case k5 => k_is)
    (case a6 => k_is)
    (case l6 => k_is)
    (case c6 => k_is)
    (case k6 => k_is)
    (case a7 => k_is)
    (case l7 => k_is)
    (case c7 => k_is)
    (case k7 => k_is)
    (case a8 => k_is)
    (case l8 => k_is)
    (case c8 => k_is)
    (case k8 => k_is)
    (case a9 => k_is)
    (case l9 => k_is)
    (case c9 => k_is)
    (case k9 => k_is)
    (case a10 => k_is)
    (case l10 => k_is)
    (case c10 => k_is)
    (case k10 => k_is)
    (case a11 => k_is)
    (case l11 => k_is)
    (case c11 => k_is)
    (case k11 => k_is)
    (case a12 => k_is)
    (case l12 => k_is)
    (case c12 => k_is)
    (case k12 => k_is)
    (case a13 => k_is)
    (case l13 => k_is)
    (case c13 => k_is)
    (case k13 => k_is)
    (case a14 => k_is)
    (case l14 => k_is)
    (case c14 => k_is)
    (case k14 => k_is)
    (case a15 => k_is)
    (case l15 => k_is)
    (case c15 => k_is)
    (case k15 => k_is)
    (case a16 => k_is)
    (case l16 => k_is)
    (case c16 => k_is)
    (case k16 => k_is)
    (case a17 => k_is)
    (case l17 => k_is)
    (case c17 => k_is)
    (case k17 => k_is)
    (case a18 => k_is)
    (case l18 => k_is)
    (case c18 => k_is)
    (case k18 => k_is)
    (case a19 => k_is)
    (case l19 => k_is)
    (case c19 => k_is)
    (case k19 => k_is)
    (case a20 => k_is)
    (case l20 => k_is)
    (case c20 => k_is)
    (case k20 => k_is)
    (case a21 => k_is)
    (case l21 => k_is)
    (case c21 => k_is)
    (case k21 => k_is)
    (case z_abs => k_is)
    (case z_all => k_is)
    (case z_bool => k_is)
    (case z_int => k_is)
    (case z_isinstance => k_is)
    (case z_len => k_is)
    (case z_list => k_is)
    (case z_min => k_is)
    (case z_range => k_is)
    (case z_repr => k_is)
    (case z_str => k_is)
    (case z_tuple => k_is)
    (case z_zip => k_is)
    (case m_FEW => k_is)
    (case m_MANY => k_is)
    (case m_MAX_COUNT => k_is)
    (case m_MAX_RUNS => k_is)
    (case m_MOST_NUMBER => k_is)
    (case m_SINGLE => k_is)
    (case m_TWO => k_is)

