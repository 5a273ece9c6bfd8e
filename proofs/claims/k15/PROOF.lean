import PyProof.Rows.All
import Wide.All
import OpenK.AllK
import Wide.FinOn
import HandS.ForMost
import HandS.EndBits
import HandS.ExcOwn
import HandS.Words
import HandS.Defaults
import HandS.CallSlots
import HandS.ForExc
import HandS.WideBits
import HandS.TupAny
import HandS.TupMul
import HandS.IsInst
import HandS.Deep
import HandS.Codes
import HandS.Style
import HandS.Sort
import HandS.Zip
import HandS.TryOnly
import HandS.RevRange
import HandS.DictComp
import PySem.Challenge.RW_teesizes_k15_obstructions_judged
set_option Elab.async false
set_option linter.all false
set_option maxRecDepth 100000
set_option maxHeartbeats 4000000
namespace Ds
open PySem L2
open PyProof.Rows (envOfC IntsAre AllBare)
open PySem.Spec
variable {P : Program} {w : World} {K : PySem.W.Frag} {mg : Str → Option Value} {base : Heap}
/-- room, and nothing of a repr around -/
structure RoomG (k : Nat) (A : Around) : Prop where
  rm : Room k A
  gd : A.guards = some []
theorem RoomG.mono {j k : Nat} {A : Around} (r : RoomG k A) (h : j ≤ k) : RoomG j A := ⟨r.rm.mono h, r.gd⟩
theorem RoomG.deeper {k : Nat} {A : Around} (r : RoomG (k + 1) A) (env : Env) : RoomG k (A.deeper env) := ⟨r.rm.deeper env, r.gd⟩
theorem RoomG.units {k : Nat} {A : Around} (r : RoomG k A) : A.units + 64 < cLine := by have := r.rm.un; omega
/-- the promise of a def -/
structure FnG (P : Program) (w : World) (K : PySem.W.Frag) (mg : Str → Option Value) (base : Heap) (k : Nat) (f : Addr) (fd : FuncData) (ps : List Str) (sp : Sp) : Prop where
  len : ∀ vs H Q E, sp vs H Q E → vs.length = ps.length
  run : ∀ (A : Around) (os : List Env) (s : Shared) (H : Hp) (as : Args) (us : List Value) (vs : List V) (Q : VK) (E : XK), RoomG k A → Env0 P w K mg base A os s H → BindsTo s fd as (ps.zip us) → Vals vs us →
    sp vs H Q E → codeAny (model P w) A (.call (.ref f) as) (CR (L2.CX P w) os P w H s Q E) s
theorem FnG.mono {j k : Nat} {f : Addr} {fd : FuncData} {ps : List Str} {sp : Sp} (F : FnG P w K mg base j f fd ps sp) (h : j ≤ k) : FnG P w K mg base k f fd ps sp :=
  ⟨F.len, fun A os s H as us vs Q E r => F.run A os s H as us vs Q E (r.mono h)⟩
theorem fnG_of {k : Nat} {f : Addr} {name qual : Str} {params : Arguments} {body : List Stmt} {sc : Scope} {dV kV doc pm cdv ct oc : Value} {an od : Option Addr} {osl : Array (Option Value)} {N ps : List Str} {sp : Sp}
    (at_ : K.lookup f = some ⟨oc, od, .func (PySem.W.fnOf name qual params body sc dV kV doc pm an cdv ct), osl⟩) (cd : PySem.W.codeIn K cdv qual = true) (S : FnScope N ps sc) (len : ∀ vs H Q E, sp vs H Q E → vs.length = ps.length)
    (hb : ∀ (A : Around) (os : List Env) (s : Shared) (H : Hp) (vs : List V) (Q : VK) (E : XK), RoomG k (A.deeper (envOfC qual sc s.heap.objs.size f cdv)) → sp vs H Q E →
      ∃ t, PSs (cxOf (L2.CX P w) P w K mg base N qual sc f cdv A os s H E) body t ∧ t { nx := fun _ H' => Q .non H', rt := Q } (L2.start N vs) H) :
    FnG P w K mg base (k + 1) f (PySem.W.fnOf name qual params body sc dV kV doc pm an cdv ct) ps sp := by
  constructor
  · exact len
  · intro A os s H as us vs Q E room env bnd rel want
    have inK : K.In s.heap := env.mod.kin.keeps fun b o e => (env.bs b o e).1
    have kinds : ∀ y ∈ ps.zip us, sc.names.lookup y.1 = some .local ∨ (sc.names.lookup y.1 = some .cell ∧ ((cellsFrom (s.heap.objs.size + 1) sc.names []).lookup y.1).isSome = true) := by
      intro ⟨n, v⟩ hy
      exact (S.par n (List.of_mem_zip hy).1).imp id fun q => ⟨q, PySem.W.cellsFrom_some _ _ _ (.inl q)⟩
    have nolim : s.heap.NoLimit := env.mod.nolimit.keeps fun b o e => (env.bs b o e).1
    refine PySem.codeAny_call_function room.rm.depth (inK _ _ at_) rfl S.co S.gen rfl (PySem.W.codeRec_of inK cd) (bnd _ _ _ _ ?_)
    refine wpAny_newFunctionEnv_cells S.kind kinds fun e he s1 x => ?_
    subst he
    refine ⟨nolim.keeps x.toInCall.keep, PySem.codeAny_func ?_⟩
    obtain ⟨t, run, q⟩ := hb A os s H vs Q E (room.deeper _) want
    have I := inv_start (CX := L2.CX P w) (E := E) S room.rm.hd env (len _ _ _ _ want) rel x
    refine wpAny_mono (run.run [] s1 _ H _ I q) (fun fl s' hs => ?_) fun _ _ hs => hs
    match fl, hs with
    | .ret u, ⟨v, σ', H', J, rv, q⟩ => exact ⟨v, H', J.os, J.bare, J.base, J.hok, rv, q⟩
    | .next, ⟨σ', H', J, q⟩ => exact ⟨.non, H', J.os, J.bare, J.base, J.hok, rfl, q⟩
    | .brk, ⟨_, _, _, q⟩ => exact q.elim
    | .cont, ⟨_, _, _, q⟩ => exact q.elim
section
variable {X : Cx} {k : Nat} {f : Addr} {fd : FuncData} {ps : List Str} {sp : Sp} {dvs : List V} {ds : List Value} {E : St → XK} {x : Str} {p pos : Pos} {e : Expr} {es : List Expr} {t : TA}
theorem runG {pins : List (Addr × Obj)} {σ : St} {H : Hp} {s : Shared} {Q : VK} {us : List Value} {vs : List V} (F : FnG X.prog X.w X.K X.mg X.base k f fd ps sp) (hr : RoomG k X.A) (hb : Binds X.K fd ps ds) (hd : Vals dvs ds)
    (hx : PassesAt (L2.CX X.prog X.w) X σ (E σ)) (I : Inv X pins σ H s) (r : Vals vs us) (h : sp (vs ++ dvs) H Q (E σ)) : wpAny (model X.prog X.w) X.A (call (.ref f) us) (EP X pins σ Q) X.xe s := by
  have rr := r.append hd
  have len : (us ++ ds).length = ps.length := rr.length.symm.trans (F.len _ _ _ _ h)
  have go := F.run X.A X.stack s H ⟨us, []⟩ _ _ Q (E σ) hr I.env0 (hb s us I.kIn len) rr h
  refine wpAny_call (codeAny_mono go fun r s' q => ?_)
  match r, q with
  | .error e, q => exact hx pins H s e s' I q
  | .ok (.ret u), q => exact I.after q
  | .ok .next, q => exact q.elim
  | .ok .brk, q => exact q.elim
  | .ok .cont, q => exact q.elim
theorem pe_callG (F : FnG X.prog X.w X.K X.mg X.base k f fd ps sp) (hr : RoomG k X.A) (hg : Gl X x) (hm : X.mg x = some (.ref f)) (hk : PySem.W.keepIn X.K (.ref f) = true) (hb : Binds X.K fd ps ds) (hd : Vals dvs ds) (hx : ∀ σ, PassesAt (L2.CX X.prog X.w) X σ (E σ))
    (ha : PA X (e :: es) t) (hdb : (x == ("__debug__" : Str)) = false) (he : starEach (e :: es) X.env = (false, eval e X.env) :: starEach es X.env) (hpl : (backTo pos (starEach es X.env)).any (·.1) = false) :
    PE X (.Call (.Name x p) (e :: es) [] pos) (tCallSD sp dvs E t) := by
  constructor
  intro pins s σ H Q I h
  refine wpAny_Call_Name_kw (ld_glob I hg hm ?_ hdb)
  have args := ha.run pos pins s σ H _ I h
  refine PySem.W.callWith_K (h₀ := X.base) I.ok.mod.kin hk (thn args fun us s1 hh => ?_) he hpl
  obtain ⟨vs, H1, J, r, q⟩ := hh
  exact ⟨J.kIn, runG F hr hb hd (hx σ) J r q⟩
end
/-- the head: the law's own call -/
theorem headG {mb : Str → Option Value} {k : Nat} {fa a : Addr} {fd : FuncData} {x : Str} {sp : Sp} {s : Shared} {us : List Value} {ns : List Int} (inK : K.In s.heap) (gl : s.heap.Ns mainGlobals mg) (bl : s.heap.Ns builtinsNs mb) (bb : ∀ x : Str, x ≠ "__name__" → mb x = bootBuiltins x)
    (lim : s.heap.NoLimit) (gens : s.gens = #[]) (ob : s.heap.get? a = some { cls := .type "list", data := .seq us.toArray }) (is : IntsAre us ns) (le : ns.length ≤ sizeLine) (room : RoomG k callerA)
    (F : ∀ base : Heap, K.In base → base.Ns mainGlobals mg → FnG P w K mg base k fa fd [x] sp) (bind : ∀ (s : Shared) (u : Value), BindsTo s fd ⟨[u], []⟩ [(x, u)])
    (want : ∀ H : Hp, Only H → SqL K H a (ns.map V.int) → sp [.ref a] H (fun v _ => v = .bl true) fun _ _ _ => False) (noX : ∀ H e s', L2.CX P w [] H s (fun _ _ _ => False) e s' → False) :
    codeAny (model P w) callerA (.call (.ref fa) ⟨[.ref a], []⟩) (fun r s' => r = .ok (.ret (.bool true)) ∧ OldK s.heap s'.heap ∧ s'.os = s.os ∧ AllBare s'.gens) s := by
  have vals := vals_ints is
  have size := is.length
  have main : ∀ H : Hp, Only H → SqL K H a (ns.map V.int) → HOk P w H s.heap → (∀ b, H b ≠ none → b = a) → (H a ≠ none → K.lookup a = none) → codeAny (model P w) callerA (.call (.ref fa) ⟨[.ref a], []⟩) (fun r s' => r = .ok (.ret (.bool true)) ∧ OldK s.heap s'.heap ∧ s'.os = s.os ∧ AllBare s'.gens) s := by
    intro H only sq hok one notK
    have seen : ∀ {b : Addr} {o : Obj}, s.heap.get? b = some o → H b = none → (hidT s.heap H).get? b = some o := fun e n => hidT_get e n
    have dictFree : ∀ {b : Addr} {o : Obj} {es : Array DictEntry} {n : Nat}, s.heap.get? b = some o → o.data = .dict es n → H b = none := by
      intro b o es n e d
      by_cases z : H b = none
      · exact z
      · rw [one b z, ob] at e
        cases e
        cases d
    have names : ∀ {b : Addr} {m : Str → Option Value}, s.heap.Ns b m → (hidT s.heap H).Ns b m := fun ⟨o, es, n, e, d, r⟩ => ⟨o, es, n, seen e (dictFree e d), d, r⟩
    have kb : K.In (hidT s.heap H) := by
      intro b o e
      refine seen (inK b o e) ?_
      by_cases z : H b = none
      · exact z
      · have eb := one b z
        subst eb
        rw [notK z] at e
        cases e
    have env : Env0 P w K mg (hidT s.heap H) callerA [] s H :=
      ⟨rfl, ⟨kb, names gl, ⟨mb, names bl, bb⟩, lim.elim fun mc h => ⟨mc, names h.1, h.2⟩⟩, fun b o e => of_hidT e, Nat.le_of_eq (hidT_size _ _), trivial, fun b hb => absurd (show b ∈ ([] : List Addr) from hb) (by simp), hok, .of_eq gens⟩
    have go := (F _ kb (names gl)).run callerA [] s H ⟨[.ref a], []⟩ [.ref a] [.ref a] _ _ room env (bind s (.ref a)) (.cons rfl .nil) (want H only sq)
    refine codeAny_mono go fun r s' h => ?_
    match r, h with
    | .error e, h => exact (noX H e s' h).elim
    | .ok .next, h => exact h.elim
    | .ok .brk, h => exact h.elim
    | .ok .cont, h => exact h.elim
    | .ok (.ret u), ⟨v, H', os, bare, un, hok', rel, q⟩ =>
      cases (show v = .bl true from q)
      cases (show u = Value.bool true from rel)
      refine ⟨rfl, OldK.of_keep fun b o e => ?_, os, bare⟩
      by_cases z : H b = none
      · exact un.keep b o e z (fun z => absurd (show b ∈ ([] : List Addr) from z) (by simp)) (by simp)
      · rcases only b with z2 | ⟨o2, xs, z2⟩
        · exact absurd z2 z
        · have e1 := (hok b _ z2).1
          rw [e] at e1
          cases e1
          exact (hok' b _ (un.frzs b _ _ z2)).1
  by_cases hk : K.lookup a = none
  · let H : Hp := fun b => if b = a then some (.frz { cls := .type "list", data := .seq us.toArray } (.lst (ns.map V.int))) else none
    have at_ : H a = some (.frz { cls := .type "list", data := .seq us.toArray } (.lst (ns.map V.int))) := if_pos rfl
    have off : ∀ b, b ≠ a → H b = none := fun b z => if_neg z
    refine main H (fun b => ?_) (.inl (.inr ⟨_, at_⟩)) (fun b u z => ?_) (fun b z => ?_) fun _ => hk
    · by_cases z : b = a
      · subst z; exact .inr ⟨_, _, at_⟩
      · exact .inl (off b z)
    · by_cases q : b = a
      · subst q
        rw [at_] at z
        cases z
        exact ⟨ob, by rw [List.length_map]; exact le, us, _, vals, ob⟩
      · rw [off b q] at z; cases z
    · by_cases q : b = a
      · exact q
      · exact absurd (off b q) z
  · obtain ⟨o, ek⟩ := Option.ne_none_iff_exists'.mp hk
    have e := inK a o ek
    rw [ob] at e
    cases e
    refine main (fun _ => none) (fun _ => .inl rfl) (.inr ⟨_, us.toArray, _, ek, rfl, rfl, rfl, by rw [List.size_toArray, size]; exact le, by simpa using vals⟩) (fun b u z => nomatch (show (none : Option HO) = some u from z)) (fun b z => absurd rfl z) fun z => absurd rfl z
theorem walkG {l : PySem.W.OpenLaw} {n k : Nat} {q : Program} {loose : List Str} {XP : (Str → Option Value) → Heap → Prop} {YP : World → Heap → Prop} {d : PySem.DefRec} {K : Params → PySem.W.Frag} {sp : World → Sp} {x : Str} (hn : l.most = some n) (hn2 : n ≤ sizeLine) (hdf : d.params.defaults = []) (room : RoomG k callerA)
    (hY : ∀ (w : World) (h : Heap), YP w h → (K w.params).In h)
    (F : ∀ (w : World) (mg : Str → Option Value) (fa : Addr) (h : Heap), (K w.params).In h → h.Ns mainGlobals mg → mg d.name = some (.ref fa) → ∃ fd : FuncData, (∀ (s : Shared) (u : Value), BindsTo s fd ⟨[u], []⟩ [(x, u)]) ∧
      ∀ base : Heap, (K w.params).In base → base.Ns mainGlobals mg → FnG l.prog w (K w.params) mg base k fa fd [x] (sp w))
    (want : ∀ (w : World) (H : Hp) (a : Addr) (ns : List Int), ns.length ≤ n → (∀ z ∈ ns, Builtin.Int.intBits z ≤ 1048576) → Only H → SqL (K w.params) H a (ns.map V.int) → sp w [.ref a] H (fun v _ => v = .bl true) fun _ _ _ => False)
    (noX : ∀ (w : World) (H : Hp) (s : Shared) (e : Value) (s' : Shared), L2.CX l.prog w [] H s (fun _ _ _ => False) e s' → False) : PySem.W.WalkO q loose XP YP l.row.toRowW d [] (fun f vs => PySem.call f vs) := by
  refine Att.attach_callB hn hdf fun w s₀ s₁ mg mb fa o pm cd doc a us ns G Y ho hd hcd hmg hobj hints hlen hbits hg => ?_
  have inK := hY w _ Y
  obtain ⟨fd, bind, go⟩ := F w mg fa _ inK G.T.g hmg
  exact headG inK G.T.g G.T.b G.T.builtins G.T.nolimit hg hobj hints (Nat.le_trans hlen hn2) room go bind (fun H hO hS => want w H a ns hlen hbits hO hS) fun H e s' => noX w H s₁ e s'
theorem FunG {x qual : Str} {st : Stmt} {f : Addr} {fd : FuncData} {N ps : List Str} {k : Nat} {sp : Sp} (F : L2.Fun K x qual st f fd) (S : FnScope N ps (defScope st)) (len : ∀ vs H Q E, sp vs H Q E → vs.length = ps.length)
    (hb : ∀ (cdv : Value) (A : Around) (os : List Env) (s : Shared) (H : Hp) (vs : List V) (Q : VK) (E : XK), RoomG k (A.deeper (envOfC qual (defScope st) s.heap.objs.size f cdv)) → sp vs H Q E →
      ∃ t, PSs (cxOf (L2.CX P w) P w K mg base N qual (defScope st) f cdv A os s H E) (defBody st) t ∧ t { nx := fun _ H' => Q .non H', rt := Q } (L2.start N vs) H) : FnG P w K mg base (k + 1) f fd ps sp := by
  obtain ⟨oc, od, kV, doc, pm, an, cdv, ct, osl, rfl, at_, cd⟩ := F.ex
  exact fnG_of at_ cd S len fun A os s H vs Q E r => hb cdv A os s H vs Q E r
theorem FunDG {x qual : Str} {st : Stmt} {f : Addr} {fd : FuncData} {N ps : List Str} {k : Nat} {sp : Sp} {dvs : List V} {kws : List (Str × V)} (F : FunD K x qual (defArgs st) (defBody st) (defScope st) dvs kws f fd) (S : FnScope N ps (defScope st)) (len : ∀ vs H Q E, sp vs H Q E → vs.length = ps.length)
    (hb : ∀ (cdv : Value) (A : Around) (os : List Env) (s : Shared) (H : Hp) (vs : List V) (Q : VK) (E : XK), RoomG k (A.deeper (envOfC qual (defScope st) s.heap.objs.size f cdv)) → sp vs H Q E →
      ∃ t, PSs (cxOf (L2.CX P w) P w K mg base N qual (defScope st) f cdv A os s H E) (defBody st) t ∧ t { nx := fun _ H' => Q .non H', rt := Q } (L2.start N vs) H) : FnG P w K mg base (k + 1) f fd ps sp := by
  obtain ⟨oc, od, dV, kV, doc, pm, an, cdv, ct, osl, rfl, at_, cd, _, _⟩ := F.ex
  exact fnG_of at_ cd S len fun A os s H vs Q E r => hb cdv A os s H vs Q E r
end Ds
namespace Ds
open PySem L2

abbrev D := PyData
def kD : Key → D
  | .inl i => .int i
  | .inr x => .str x

/-- a list of the written part -/
def KL (K : PySem.W.Frag) (a : Addr) (xs : List V) : Prop :=
  ∃ (o : Obj) (its : Array Value) (n : Nat), K.lookup a = some o ∧ o.cls = .type "list" ∧ o.dict = none ∧ o.data = .seq its n ∧ its.size ≤ sizeLine ∧ Vals xs its.toList
def KT (K : PySem.W.Frag) (a : Addr) (xs : List V) : Prop :=
  ∃ (o : Obj) (its : Array Value) (n : Nat), K.lookup a = some o ∧ o.cls = .type "tuple" ∧ o.data = .seq its n ∧ its.size ≤ sizeLine ∧ Vals xs its.toList
/-- the script: locked, or of the written part -/
def SB (K : PySem.W.Frag) (B : Addr → Prop) (H : Hp) (a : Addr) (xs : List V) : Prop := ((∃ o, H a = some (.frz o (.lst xs))) ∧ ¬ B a) ∨ KL K a xs
def TB (K : PySem.W.Frag) (B : Addr → Prop) (H : Hp) (a : Addr) (xs : List V) : Prop := (Rd H a (.tup xs) ∧ ¬ B a) ∨ KT K a xs
theorem SB.sq {K B H a xs} (h : SB K B H a xs) : SqL K H a xs := h.elim (fun x => .inl (.inr x.1)) .inr
theorem TB.sq {K B H a xs} (h : TB K B H a xs) : SqT K H a xs := h.elim (fun x => .inl x.1) .inr

mutual
/-- v reads as d, through nothing that is barred -/
inductive DIs (K : PySem.W.Frag) (B : Addr → Prop) (H : Hp) : D → V → Prop
  | none : DIs K B H .none .non
  | bool (b : Bool) : DIs K B H (.bool b) (.bl b)
  | int (i : Int) : DIs K B H (.int i) (.int i)
  | str (x : Str) : DIs K B H (.str x) (.str x)
  | list {a : Addr} {vs : List V} {ds : List D} : H a = some (.lst vs) → ¬ B a → DIsL K B H ds vs → DIs K B H (.list ds) (.ref a)
  | tuple {a : Addr} {vs : List V} {ds : List D} : TB K B H a vs → DIsL K B H ds vs → DIs K B H (.tuple ds) (.ref a)
  | dict {a : Addr} {kvs : List (Key × V)} {ds : List D} {ps : List (D × D)} : H a = some (.dK kvs) → ¬ B a → DIsL K B H ds (kvs.map (·.2)) → ps = (kvs.map fun p => kD p.1).zip ds → DIs K B H (.dict ps) (.ref a)
inductive DIsL (K : PySem.W.Frag) (B : Addr → Prop) (H : Hp) : List D → List V → Prop
  | nil : DIsL K B H [] []
  | cons {d : D} {v : V} {ds : List D} {vs : List V} : DIs K B H d v → DIsL K B H ds vs → DIsL K B H (d :: ds) (v :: vs)
end

/-- what a slot or a temporary holds -/
inductive T where
  | dat (d : D)
  | bor (d : D)
  | own (ds : List D)
  | lbo (ds : List D)
  | lst (ts : List T)
  | tup (ts : List T)
  | dct (kvs : List (Key × D))
  | scr (ns : List Int)
  | ali (i : Nat)
  | emp

mutual
inductive TIs (K : PySem.W.Frag) (B Bb : Addr → Prop) (σ : St) (H : Hp) : T → V → List Addr → Prop
  | dat {d : D} {v : V} : DIs K B H d v → TIs K B Bb σ H (.dat d) v []
  | bor {d : D} {v : V} : DIs K Bb H d v → TIs K B Bb σ H (.bor d) v []
  | own {a : Addr} {vs : List V} {ds : List D} : H a = some (.lst vs) → DIsL K B H ds vs → TIs K B Bb σ H (.own ds) (.ref a) [a]
  | lbo {a : Addr} {vs : List V} {ds : List D} : H a = some (.lst vs) → DIsL K Bb H ds vs → TIs K B Bb σ H (.lbo ds) (.ref a) [a]
  | lst {a : Addr} {vs : List V} {ts : List T} {os : List Addr} : H a = some (.lst vs) → TIsL K B Bb σ H ts vs os → TIs K B Bb σ H (.lst ts) (.ref a) (a :: os)
  | tup {a : Addr} {vs : List V} {ts : List T} {os : List Addr} : H a = some (.tup vs) → ¬ B a → TIsL K B Bb σ H ts vs os → TIs K B Bb σ H (.tup ts) (.ref a) os
  | dct {a : Addr} {kvs : List (Key × V)} {ds : List D} {ps : List (Key × D)} : H a = some (.dK kvs) → DIsL K B H ds (kvs.map (·.2)) → ps = (kvs.map (·.1)).zip ds → TIs K B Bb σ H (.dct ps) (.ref a) [a]
  | scr {a : Addr} {ns : List Int} : SB K B H a (ns.map V.int) → TIs K B Bb σ H (.scr ns) (.ref a) []
  | ali {i : Nat} {v : V} : σ[i]? = some (some v) → TIs K B Bb σ H (.ali i) v []
inductive TIsL (K : PySem.W.Frag) (B Bb : Addr → Prop) (σ : St) (H : Hp) : List T → List V → List Addr → Prop
  | nil : TIsL K B Bb σ H [] [] []
  | cons {t : T} {v : V} {ts : List T} {vs : List V} {o1 o2 : List Addr} : TIs K B Bb σ H t v o1 → TIsL K B Bb σ H ts vs o2 → TIsL K B Bb σ H (t :: ts) (v :: vs) (o1 ++ o2)
end

mutual
def noAli : T → Bool
  | .lst ts => noAliL ts
  | .tup ts => noAliL ts
  | .ali _ => false
  | _ => true
def noAliL : List T → Bool
  | [] => true
  | t :: ts => noAli t && noAliL ts
end

section
variable {K : PySem.W.Frag} {B B' Bb Bb' : Addr → Prop} {H H' : Hp} {σ σ' : St}

theorem DIsL.length : ∀ {ds : List D} {vs : List V}, DIsL K B H ds vs → ds.length = vs.length
  | _, _, .nil => rfl
  | _, _, .cons _ t => congrArg (· + 1) (DIsL.length t)
theorem DIsL.get : ∀ {ds : List D} {vs : List V} {i : Nat} {d : D}, DIsL K B H ds vs → ds[i]? = some d → ∃ v, vs[i]? = some v ∧ DIs K B H d v
  | _, _, _, _, .nil, e => by simp at e
  | _, _, 0, _, .cons r _, e => by simp at e; subst e; exact ⟨_, rfl, r⟩
  | _, _, i + 1, _, .cons _ t, e => by
    obtain ⟨v, h1, h2⟩ := DIsL.get (i := i) t (by simpa using e)
    exact ⟨v, by simpa using h1, h2⟩
theorem DIsL.getV {ds : List D} {vs : List V} {i : Nat} {v : V} (h : DIsL K B H ds vs) (e : vs[i]? = some v) : ∃ d, ds[i]? = some d ∧ DIs K B H d v := by
  have hl := h.length
  obtain ⟨hi, ei⟩ := List.getElem?_eq_some_iff.mp e
  have e2 : ds[i]? = some ds[i] := List.getElem?_eq_getElem (by omega)
  obtain ⟨w, h1, h2⟩ := h.get e2
  rw [e] at h1; cases h1
  exact ⟨_, e2, h2⟩
theorem DIsL.append : ∀ {ds es : List D} {vs us : List V}, DIsL K B H ds vs → DIsL K B H es us → DIsL K B H (ds ++ es) (vs ++ us)
  | _, _, _, _, .nil, s => s
  | _, _, _, _, .cons r t, s => .cons r (DIsL.append t s)
theorem DIsL.take : ∀ {ds : List D} {vs : List V} (n : Nat), DIsL K B H ds vs → DIsL K B H (ds.take n) (vs.take n)
  | _, _, 0, _ => .nil
  | _, _, _ + 1, .nil => .nil
  | _, _, n + 1, .cons r t => .cons r (DIsL.take n t)
theorem DIsL.drop : ∀ {ds : List D} {vs : List V} (n : Nat), DIsL K B H ds vs → DIsL K B H (ds.drop n) (vs.drop n)
  | _, _, 0, r => r
  | _, _, _ + 1, .nil => .nil
  | _, _, n + 1, .cons _ t => DIsL.drop n t
theorem DIsL.set : ∀ {ds : List D} {vs : List V} {d : D} {v : V} (i : Nat), DIsL K B H ds vs → DIs K B H d v → DIsL K B H (ds.set i d) (vs.set i v)
  | _, _, _, _, _, .nil, _ => .nil
  | _, _, _, _, 0, .cons _ t, q => .cons q t
  | _, _, _, _, i + 1, .cons r t, q => .cons r (DIsL.set i t q)
theorem DIsL.eraseIdx : ∀ {ds : List D} {vs : List V} (i : Nat), DIsL K B H ds vs → DIsL K B H (ds.eraseIdx i) (vs.eraseIdx i)
  | _, _, _, .nil => .nil
  | _, _, 0, .cons _ t => t
  | _, _, i + 1, .cons r t => .cons r (DIsL.eraseIdx i t)
theorem DIsL.dropLast : ∀ {ds : List D} {vs : List V}, DIsL K B H ds vs → DIsL K B H ds.dropLast vs.dropLast
  | _, _, .nil => .nil
  | _, _, .cons _ .nil => .nil
  | _, _, .cons r (.cons r2 t) => .cons r (DIsL.dropLast (.cons r2 t))
theorem DIsL.snoc {ds : List D} {vs : List V} {d : D} {v : V} (h : DIsL K B H ds vs) (q : DIs K B H d v) : DIsL K B H (ds ++ [d]) (vs ++ [v]) := h.append (.cons q .nil)
theorem DIsL.reverse : ∀ {ds : List D} {vs : List V}, DIsL K B H ds vs → DIsL K B H ds.reverse vs.reverse
  | _, _, .nil => .nil
  | _, _, .cons r t => by rw [List.reverse_cons, List.reverse_cons]; exact (DIsL.reverse t).snoc r
theorem DIsL.replicate {d : D} {v : V} (q : DIs K B H d v) : ∀ n, DIsL K B H (List.replicate n d) (List.replicate n v)
  | 0 => .nil
  | n + 1 => .cons q (DIsL.replicate q n)

theorem SB.move (h1 : ∀ b o, H b = some o → ¬ B b → H' b = some o ∧ ¬ B' b) {a : Addr} {xs : List V} : SB K B H a xs → SB K B' H' a xs
  | .inl ⟨⟨o, e⟩, n⟩ => .inl ⟨⟨o, (h1 _ _ e n).1⟩, (h1 _ _ e n).2⟩
  | .inr h => .inr h
theorem TB.move (h1 : ∀ b o, H b = some o → ¬ B b → H' b = some o ∧ ¬ B' b) {a : Addr} {xs : List V} : TB K B H a xs → TB K B' H' a xs
  | .inl ⟨.inl e, n⟩ => .inl ⟨.inl (h1 _ _ e n).1, (h1 _ _ e n).2⟩
  | .inl ⟨.inr ⟨o, e⟩, n⟩ => .inl ⟨.inr ⟨o, (h1 _ _ e n).1⟩, (h1 _ _ e n).2⟩
  | .inr h => .inr h
mutual
theorem DIs.move (h1 : ∀ b o, H b = some o → ¬ B b → H' b = some o ∧ ¬ B' b) : ∀ {d : D} {v : V}, DIs K B H d v → DIs K B' H' d v
  | _, _, .none => .none
  | _, _, .bool b => .bool b
  | _, _, .int i => .int i
  | _, _, .str x => .str x
  | _, _, .list h n t => .list (h1 _ _ h n).1 (h1 _ _ h n).2 (DIsL.move h1 t)
  | _, _, .tuple h t => .tuple (h.move h1) (DIsL.move h1 t)
  | _, _, .dict h n t e => .dict (h1 _ _ h n).1 (h1 _ _ h n).2 (DIsL.move h1 t) e
theorem DIsL.move (h1 : ∀ b o, H b = some o → ¬ B b → H' b = some o ∧ ¬ B' b) : ∀ {ds : List D} {vs : List V}, DIsL K B H ds vs → DIsL K B' H' ds vs
  | _, _, .nil => .nil
  | _, _, .cons r t => .cons (DIs.move h1 r) (DIsL.move h1 t)
end
/-- nothing barred -/
abbrev N0 : Addr → Prop := fun _ => False
theorem DIs.free {d : D} {v : V} (h : DIs K B H d v) : DIs K N0 H d v := h.move fun _ _ e _ => ⟨e, id⟩
theorem DIsL.free {ds : List D} {vs : List V} (h : DIsL K B H ds vs) : DIsL K N0 H ds vs := h.move fun _ _ e _ => ⟨e, id⟩

theorem TIsL.length : ∀ {ts : List T} {vs : List V} {os : List Addr}, TIsL K B Bb σ H ts vs os → ts.length = vs.length
  | _, _, _, .nil => rfl
  | _, _, _, .cons _ t => congrArg (· + 1) (TIsL.length t)
mutual
theorem TIs.tracked : ∀ {t : T} {v : V} {os : List Addr}, TIs K B Bb σ H t v os → ∀ a ∈ os, (∃ xs, H a = some (.lst xs)) ∨ ∃ kvs, H a = some (.dK kvs)
  | _, _, _, .dat _, a, h => by simp at h
  | _, _, _, .bor _, a, h => by simp at h
  | _, _, _, .own e _, a, h => by simp at h; subst h; exact .inl ⟨_, e⟩
  | _, _, _, .lbo e _, a, h => by simp at h; subst h; exact .inl ⟨_, e⟩
  | _, _, _, .lst e t, a, h => by
    rcases List.mem_cons.mp h with rfl | h
    · exact .inl ⟨_, e⟩
    · exact TIsL.tracked t a h
  | _, _, _, .tup _ _ t, a, h => TIsL.tracked t a h
  | _, _, _, .dct e _ _, a, h => by simp at h; subst h; exact .inr ⟨_, e⟩
  | _, _, _, .scr _, a, h => by simp at h
  | _, _, _, .ali _, a, h => by simp at h
theorem TIsL.tracked : ∀ {ts : List T} {vs : List V} {os : List Addr}, TIsL K B Bb σ H ts vs os → ∀ a ∈ os, (∃ xs, H a = some (.lst xs)) ∨ ∃ kvs, H a = some (.dK kvs)
  | _, _, _, .nil, a, h => by simp at h
  | _, _, _, .cons r t, a, h => by
    rcases List.mem_append.mp h with h | h
    · exact TIs.tracked r a h
    · exact TIsL.tracked t a h
end
mutual
/-- into another heap, other bars, other slots -/
theorem TIs.move (h1 : ∀ b o, H b = some o → ¬ B b → H' b = some o ∧ ¬ B' b) (h2 : ∀ b o, H b = some o → ¬ Bb b → H' b = some o ∧ ¬ Bb' b) : ∀ {t : T} {v : V} {os : List Addr}, (∀ b o, b ∈ os → H b = some o → H' b = some o) →
    (σ' = σ ∨ noAli t = true) → TIs K B Bb σ H t v os → TIs K B' Bb' σ' H' t v os
  | _, _, _, _, _, .dat h => .dat (h.move h1)
  | _, _, _, _, _, .bor h => .bor (h.move h2)
  | _, _, _, h3, _, .own e t => .own (h3 _ _ (by simp) e) (t.move h1)
  | _, _, _, h3, _, .lbo e t => .lbo (h3 _ _ (by simp) e) (t.move h2)
  | _, _, _, h3, na, .lst e t => .lst (h3 _ _ (by simp) e) (TIsL.move h1 h2 (fun b o hb => h3 b o (List.mem_cons_of_mem _ hb)) (na.imp id (fun z => by simpa [noAli] using z)) t)
  | _, _, _, h3, na, .tup e n t => .tup (h1 _ _ e n).1 (h1 _ _ e n).2 (TIsL.move h1 h2 h3 (na.imp id (fun z => by simpa [noAli] using z)) t)
  | _, _, _, h3, _, .dct e t q => .dct (h3 _ _ (by simp) e) (t.move h1) q
  | _, _, _, _, _, .scr h => .scr (h.move h1)
  | _, _, _, _, na, .ali e => by
    rcases na with rfl | na
    · exact .ali e
    · simp [noAli] at na
theorem TIsL.move (h1 : ∀ b o, H b = some o → ¬ B b → H' b = some o ∧ ¬ B' b) (h2 : ∀ b o, H b = some o → ¬ Bb b → H' b = some o ∧ ¬ Bb' b) : ∀ {ts : List T} {vs : List V} {os : List Addr}, (∀ b o, b ∈ os → H b = some o → H' b = some o) →
    (σ' = σ ∨ noAliL ts = true) → TIsL K B Bb σ H ts vs os → TIsL K B' Bb' σ' H' ts vs os
  | _, _, _, _, _, .nil => .nil
  | _, _, _, h3, na, .cons r t =>
    .cons (TIs.move h1 h2 (fun b o hb => h3 b o (List.mem_append_left _ hb)) (na.imp id (fun z => by simp [noAliL] at z; exact z.1)) r)
      (TIsL.move h1 h2 (fun b o hb => h3 b o (List.mem_append_right _ hb)) (na.imp id (fun z => by simp [noAliL] at z; exact z.2)) t)
end
end

/-! ### the state of a body -/
/-- an error: its class, its fields (none: it has no dict of its own) -/
structure Exn where
  cls : Addr
  fs : Option (List (Str × D))
structure Ctx where
  X : Cx
  Wd : Exn → List T → Prop
  B0 : Addr → Prop
  H0 : Hp
  os0 : List Addr
  lent : List Nat
  sg : St
  cv : List Nat
abbrev Ctx.K (C : Ctx) : PySem.W.Frag := C.X.K
def Bar (C : Ctx) (ow : Nat → List Addr) (a : Addr) : Prop := (∃ k, a ∈ ow k) ∨ C.B0 a
def BarB (C : Ctx) (ow : Nat → List Addr) (a : Addr) : Prop := ∃ k, a ∈ ow k
/-- what may be changed -/
def Chg : HO → Prop
  | .lst _ => True
  | .dK _ => True
  | .ins _ _ _ => True
  | _ => False
structure Ctx.Ok (C : Ctx) : Prop where
  b0 : ∀ a, C.B0 a → ∃ o, C.H0 a = some o ∧ Chg o
  ob : ∀ a ∈ C.os0, ¬ C.B0 a
structure SI (C : Ctx) (σ : St) (H : Hp) (ρ : List T) (vs : List V) (τ : List T) (ow : Nat → List Addr) : Prop where
  ok : C.Ok
  ln : ρ.length = σ.length
  lt : τ.length = vs.length
  na : noAliL ρ = true
  cl : ∀ k t, (ρ ++ τ)[k]? = some t → (t = .emp ∧ k < ρ.length) ∨ ∃ v, (σ ++ vs.map some)[k]? = some (some v) ∧ TIs C.K (Bar C ow) (BarB C ow) (wipe σ C.cv) H t v (ow k)
  nd : ∀ k, (ow k).Nodup
  dj : ∀ j k a, j ≠ k → a ∈ ow j → a ∉ ow k
  ot : ∀ k a, a ∈ ow k → ∃ o, H a = some o ∧ Chg o
  fr : ∀ k a, a ∈ ow k → a ∈ C.os0 ∨ C.H0 a = none
  kp : ∀ b o, C.H0 b = some o → b ∉ C.os0 → H b = some o
  tr : ∀ b, C.H0 b ≠ none → H b ≠ none
  le : ∀ i ∈ C.lent, σ[i]? = C.sg[i]?

theorem noAliL_iff : ∀ {ts : List T}, noAliL ts = true ↔ ∀ (i : Nat) (t : T), ts[i]? = some t → noAli t = true
  | [] => by simp [noAliL]
  | t :: ts => by
    simp only [noAliL, Bool.and_eq_true]
    constructor
    · rintro ⟨h1, h2⟩ i u e
      cases i with
      | zero => simp at e; subst e; exact h1
      | succ i => exact noAliL_iff.mp h2 i u (by simpa using e)
    · intro h
      exact ⟨h 0 t rfl, noAliL_iff.mpr fun i u e => h (i + 1) u (by simpa using e)⟩

section
variable {C : Ctx} {σ σ' : St} {H H' : Hp} {ρ ρ' : List T} {vs vs' : List V} {τ τ' : List T} {ow ow' : Nat → List Addr}

theorem SI.nb0 (I : SI C σ H ρ vs τ ow) {k : Nat} {a : Addr} (h : a ∈ ow k) : ¬ C.B0 a := fun z => by
  rcases I.fr k a h with q | q
  · exact I.ok.ob a q z
  · obtain ⟨o, e, _⟩ := I.ok.b0 a z
    rw [q] at e; cases e

/-- THE STEP: cells in S are new, the others stand -/
theorem SI.next (I : SI C σ H ρ vs τ ow) (S : Nat → Prop) (ln : ρ'.length = σ'.length) (lt : τ'.length = vs'.length) (na : noAliL ρ' = true)
    (un : ∀ k, ¬ S k → ow' k = ow k)
    (cu : ∀ k t, ¬ S k → (ρ' ++ τ')[k]? = some t → (ρ ++ τ)[k]? = some t ∧ (σ' ++ vs'.map some)[k]? = (σ ++ vs.map some)[k]? ∧ (wipe σ' C.cv = wipe σ C.cv ∨ noAli t = true))
    (rl : ρ'.length = ρ.length) (hw : ∀ b o, H b = some o → (∀ k, S k → b ∉ ow k) → H' b = some o) (ht : ∀ b, H b ≠ none → H' b ≠ none)
    (src : ∀ k a, S k → a ∈ ow' k → (∃ j, S j ∧ a ∈ ow j) ∨ H a = none)
    (cn : (∀ b o, H b = some o → ¬ Bar C ow b → H' b = some o ∧ ¬ Bar C ow' b) → (∀ b o, H b = some o → ¬ BarB C ow b → H' b = some o ∧ ¬ BarB C ow' b) →
      ∀ k t, S k → (ρ' ++ τ')[k]? = some t → (t = .emp ∧ k < ρ'.length) ∨ ∃ v, (σ' ++ vs'.map some)[k]? = some (some v) ∧ TIs C.K (Bar C ow') (BarB C ow') (wipe σ' C.cv) H' t v (ow' k))
    (nd : ∀ k, S k → (ow' k).Nodup) (dj : ∀ j k a, S j → S k → j ≠ k → a ∈ ow' j → a ∉ ow' k) (ot : ∀ k a, S k → a ∈ ow' k → ∃ o, H' a = some o ∧ Chg o)
    (le : ∀ i ∈ C.lent, σ'[i]? = σ[i]?) : SI C σ' H' ρ' vs' τ' ow' := by
  have fresh : ∀ k a, a ∈ ow' k → (∃ j, a ∈ ow j) ∨ H a = none := fun k a h => by
    by_cases hk : S k
    · rcases src k a hk h with ⟨j, _, q⟩ | q
      · exact .inl ⟨j, q⟩
      · exact .inr q
    · rw [un k hk] at h; exact .inl ⟨k, h⟩
  have m1 : ∀ b o, H b = some o → ¬ Bar C ow b → H' b = some o ∧ ¬ Bar C ow' b := fun b o e n => by
    refine ⟨hw b o e fun k _ q => n (.inl ⟨k, q⟩), fun z => ?_⟩
    rcases z with ⟨k, z⟩ | z
    · rcases fresh k b z with q | q
      · exact n (.inl q)
      · rw [e] at q; cases q
    · exact n (.inr z)
  have m2 : ∀ b o, H b = some o → ¬ BarB C ow b → H' b = some o ∧ ¬ BarB C ow' b := fun b o e n => by
    refine ⟨hw b o e fun k _ q => n ⟨k, q⟩, fun z => ?_⟩
    obtain ⟨k, z⟩ := z
    rcases fresh k b z with q | q
    · exact n q
    · rw [e] at q; cases q
  refine ⟨I.ok, ln, lt, na, fun k t e => ?_, fun k => ?_, fun j k a hjk hj hk => ?_, fun k a h => ?_, fun k a h => ?_, fun b o e n => ?_, fun b n => ht b (I.tr b n), fun i hi => (le i hi).trans (I.le i hi)⟩
  · by_cases hk : S k
    · exact cn m1 m2 k t hk e
    · obtain ⟨e1, e2, e3⟩ := cu k t hk e
      rcases I.cl k t e1 with z | ⟨v, hv, r⟩
      · exact .inl (by rw [rl]; exact z)
      · refine .inr ⟨v, e2.trans hv, ?_⟩
        rw [un k hk]
        exact r.move m1 m2 (fun b o hb eb => hw b o eb fun j hj q => I.dj k j b (fun z => hk (z ▸ hj)) hb q) e3
  · by_cases hk : S k
    · exact nd k hk
    · rw [un k hk]; exact I.nd k
  · by_cases h1 : S j
    · by_cases h2 : S k
      · exact dj j k a h1 h2 hjk hj hk
      · rw [un k h2] at hk
        rcases src j a h1 hj with ⟨i, hi, q⟩ | q
        · exact I.dj i k a (fun z => h2 (z ▸ hi)) q hk
        · obtain ⟨o, e, _⟩ := I.ot k a hk
          rw [q] at e; cases e
    · rw [un j h1] at hj
      by_cases h2 : S k
      · rcases src k a h2 hk with ⟨i, hi, q⟩ | q
        · exact I.dj i j a (fun z => h1 (z ▸ hi)) q hj
        · obtain ⟨o, e, _⟩ := I.ot j a hj
          rw [q] at e; cases e
      · rw [un k h2] at hk
        exact I.dj j k a hjk hj hk
  · by_cases hk : S k
    · exact ot k a hk h
    · rw [un k hk] at h
      obtain ⟨o, e, c⟩ := I.ot k a h
      exact ⟨o, hw a o e fun j hj q => I.dj j k a (fun z => hk (z ▸ hj)) q h, c⟩
  · by_cases hk : S k
    · rcases src k a hk h with ⟨j, _, q⟩ | q
      · exact I.fr j a q
      · by_cases z : C.H0 a = none
        · exact .inr z
        · exact absurd q (I.tr a z)
    · rw [un k hk] at h; exact I.fr k a h
  · refine hw b o (I.kp b o e n) fun k _ q => ?_
    rcases I.fr k b q with z | z
    · exact n z
    · rw [e] at z; cases z
end
end Ds
namespace Ds
open PySem L2

section
variable {C : Ctx} {σ σ' : St} {H H' : Hp} {ρ ρ' : List T} {vs vs' xs ys : List V} {τ τ' ts us : List T} {ow ow' : Nat → List Addr}

def SS (C : Ctx) (σ : St) (H : Hp) (ρ : List T) (vs : List V) (τ : List T) : Prop := ∃ ow, SI C σ H ρ vs τ ow

theorem SI.len (I : SI C σ H ρ vs τ ow) : (ρ ++ τ).length = (σ ++ vs.map some).length := by
  simp [I.ln, I.lt]

/-- the temporaries on top are exchanged for others; nothing that stood is written -/
theorem SI.temps (I : SI C σ H ρ (vs ++ xs) (τ ++ ts) ow) (hτ : τ.length = vs.length) (hs : Same H H') (hu : us.length = ys.length) (no : Nat → List Addr) {ow' : Nat → List Addr}
    (eo : ow' = fun k => if k < ρ.length + τ.length then ow k else no (k - (ρ.length + τ.length)))
    (rel : (∀ b o, H b = some o → ¬ Bar C ow b → H' b = some o ∧ ¬ Bar C ow' b) → (∀ b o, H b = some o → ¬ BarB C ow b → H' b = some o ∧ ¬ BarB C ow' b) →
      ∀ j u, us[j]? = some u → ∃ v, ys[j]? = some v ∧ TIs C.K (Bar C ow') (BarB C ow') (wipe σ C.cv) H' u v (no j))
    (nd : ∀ j, (no j).Nodup) (dj : ∀ i j a, i ≠ j → a ∈ no i → a ∉ no j)
    (src : ∀ j a, a ∈ no j → (∃ i, ρ.length + τ.length ≤ i ∧ a ∈ ow i) ∨ H a = none) (ot : ∀ j a, a ∈ no j → ∃ o, H' a = some o ∧ Chg o) : SI C σ H' ρ (vs ++ ys) (τ ++ us) ow' := by
  have hn : ∀ k, ¬ (ρ.length + τ.length ≤ k) → k < ρ.length + τ.length := fun k h => by omega
  refine I.next (S := fun k => ρ.length + τ.length ≤ k) I.ln (by simp [hτ, hu]) I.na (fun k hk => ?_) (fun k t hk e => ?_) rfl (fun b o e _ => hs b o e) (fun b n => ?_) (fun k a hk h => ?_) (fun m1 m2 k t hk e => ?_)
    (fun k hk => ?_) (fun j k a h1 h2 hjk hj => ?_) (fun k a hk h => ?_) fun _ _ => rfl
  · rw [eo]; exact if_pos (hn k hk)
  · have hk' := hn k hk
    refine ⟨?_, ?_, .inl rfl⟩
    · rw [← List.append_assoc] at e ⊢
      rw [List.getElem?_append_left (by simp; omega)] at e
      rw [List.getElem?_append_left (by simp; omega)]; exact e
    · simp only [List.map_append, ← List.append_assoc]
      have z : k < (σ ++ List.map some vs).length := by simp [← I.ln, ← hτ]; omega
      exact (List.getElem?_append_left z).trans (List.getElem?_append_left z).symm
  · cases e : H b with
    | none => exact absurd e n
    | some o => rw [hs b o e]; simp
  · rw [eo] at h
    have h' : a ∈ no (k - (ρ.length + τ.length)) := by simpa [if_neg (show ¬ k < ρ.length + τ.length by omega)] using h
    rcases src _ a h' with ⟨i, hi, q⟩ | q
    · exact .inl ⟨i, hi, q⟩
    · exact .inr q
  · refine .inr ?_
    have e2 : us[k - (ρ.length + τ.length)]? = some t := by
      rw [← List.append_assoc, List.getElem?_append_right (by simp; omega)] at e
      simpa using e
    obtain ⟨v, hv, r⟩ := rel m1 m2 _ t e2
    refine ⟨v, ?_, ?_⟩
    · rw [List.map_append, ← List.append_assoc, List.getElem?_append_right (by simp [← I.ln, ← hτ]; omega)]
      simp only [List.length_append, List.length_map, ← I.ln, ← hτ, List.getElem?_map, hv, Option.map_some]
    · have q : ow' k = no (k - (ρ.length + τ.length)) := by rw [eo]; exact if_neg (by omega)
      rw [q]; exact r
  · rw [eo]; simp only [if_neg (show ¬ k < ρ.length + τ.length by omega)]; exact nd _
  · rw [eo] at hj ⊢
    simp only [if_neg (show ¬ j < ρ.length + τ.length by omega)] at hj
    simp only [if_neg (show ¬ k < ρ.length + τ.length by omega)]
    exact dj _ _ a (by omega) hj
  · rw [eo] at h
    simp only [if_neg (show ¬ k < ρ.length + τ.length by omega)] at h
    exact ot _ a h

/-- the cell of a temporary -/
theorem SI.temp (I : SI C σ H ρ vs τ ow) {j : Nat} {t : T} (e : τ[j]? = some t) : ∃ v, vs[j]? = some v ∧ TIs C.K (Bar C ow) (BarB C ow) (wipe σ C.cv) H t v (ow (ρ.length + j)) := by
  rcases I.cl (ρ.length + j) t (by rw [List.getElem?_append_right (by omega)]; simpa using e) with ⟨_, z⟩ | ⟨v, hv, r⟩
  · omega
  · refine ⟨v, ?_, r⟩
    rw [List.getElem?_append_right (by rw [I.ln]; omega)] at hv
    rw [← I.ln] at hv
    simp at hv
    exact hv
theorem SI.slot (I : SI C σ H ρ vs τ ow) {i : Nat} {t : T} (e : ρ[i]? = some t) : t = .emp ∨ ∃ v, σ[i]? = some (some v) ∧ TIs C.K (Bar C ow) (BarB C ow) (wipe σ C.cv) H t v (ow i) := by
  have hi := (List.getElem?_eq_some_iff.mp e).1
  rcases I.cl i t (by rw [List.getElem?_append_left hi]; exact e) with ⟨z, _⟩ | ⟨v, hv, r⟩
  · exact .inl z
  · refine .inr ⟨v, ?_, r⟩
    rw [List.getElem?_append_left (by rw [← I.ln]; exact hi)] at hv
    exact hv
theorem SI.top (I : SI C σ H ρ (vs ++ [v]) (τ ++ [t]) ow) : TIs C.K (Bar C ow) (BarB C ow) (wipe σ C.cv) H t v (ow (ρ.length + τ.length)) := by
  obtain ⟨w, hw, r⟩ := I.temp (j := τ.length) (t := t) (by simp)
  have hl := I.lt
  simp at hl
  rw [hl] at hw
  simp at hw
  subst hw; exact r
theorem SI.lt1 (I : SI C σ H ρ (vs ++ [v]) (τ ++ [t]) ow) : τ.length = vs.length := by
  have := I.lt; simpa using this

def o1 (o : List Addr) : Nat → List Addr
  | 0 => o
  | _ => []
/-- a temporary more -/
theorem SS.push {v : V} {t : T} (o : List Addr) (h : SS C σ H ρ vs τ) (hs : Same H H')
    (rel : ∀ ow ow' : Nat → List Addr, SI C σ H ρ vs τ ow → (∀ b o, H b = some o → ¬ Bar C ow b → H' b = some o ∧ ¬ Bar C ow' b) → (∀ b o, H b = some o → ¬ BarB C ow b → H' b = some o ∧ ¬ BarB C ow' b) →
      (∀ b, H b = none → ¬ Bar C ow b) → (∀ b, Bar C ow' b → Bar C ow b ∨ b ∈ o) → TIs C.K (Bar C ow') (BarB C ow') (wipe σ C.cv) H' t v o)
    (nd : o.Nodup) (fr : ∀ a ∈ o, H a = none) (ot : ∀ a ∈ o, ∃ u, H' a = some u ∧ Chg u) : SS C σ H' ρ (vs ++ [v]) (τ ++ [t]) := by
  obtain ⟨ow, I⟩ := h
  have I' : SI C σ H ρ (vs ++ []) (τ ++ []) ow := by simpa using I
  have nb : ∀ b, H b = none → ¬ Bar C ow b := fun b e z => by
    rcases z with ⟨k, z⟩ | z
    · obtain ⟨u, e2, _⟩ := I.ot k b z
      rw [e] at e2; cases e2
    · obtain ⟨u, e2, _⟩ := I.ok.b0 b z
      exact I.tr b (by rw [e2]; simp) e
  refine ⟨_, SI.temps (ow' := fun k => if k < ρ.length + τ.length then ow k else o1 o (k - (ρ.length + τ.length))) I' I.lt hs (by simp) (o1 o) rfl (fun m1 m2 j u e => ?_) (fun j => ?_) (fun i j a hij hi => ?_) (fun j a h => ?_) (fun j a h => ?_)⟩
  · cases j with
    | zero =>
      simp at e; subst e
      refine ⟨v, rfl, rel ow _ I m1 m2 nb fun b z => ?_⟩
      rcases z with ⟨k, z⟩ | z
      · by_cases hk : k < ρ.length + τ.length
        · simp only [if_pos hk] at z; exact .inl (.inl ⟨k, z⟩)
        · simp only [if_neg hk] at z
          cases hq : k - (ρ.length + τ.length) with
          | zero => rw [hq] at z; exact .inr z
          | succ m => rw [hq] at z; simp [o1] at z
      · exact .inl (.inr z)
    | succ j => simp at e
  · cases j with
    | zero => exact nd
    | succ j => exact List.nodup_nil
  · cases i with
    | zero => cases j with
      | zero => exact absurd rfl hij
      | succ j => simp [o1]
    | succ i => simp [o1] at hi
  · cases j with
    | zero => exact .inr (fr a h)
    | succ j => simp [o1] at h
  · cases j with
    | zero => exact ot a h
    | succ j => simp [o1] at h
/-- a temporary that owns nothing, the heap as it is -/
theorem SS.push0 {v : V} {t : T} (h : SS C σ H ρ vs τ) (rel : ∀ ow, SI C σ H ρ vs τ ow → TIs C.K (Bar C ow) (BarB C ow) (wipe σ C.cv) H t v []) : SS C σ H ρ (vs ++ [v]) (τ ++ [t]) :=
  h.push [] (Same.refl H) (fun ow ow' I m1 m2 _ _ => (rel ow I).move m1 m2 (fun _ _ z => by simp at z) (.inl rfl)) List.nodup_nil (fun _ z => by simp at z) fun _ z => by simp at z
/-- temporaries dropped -/
theorem SS.drop (h : SS C σ H ρ (vs ++ xs) (τ ++ ts)) (hτ : τ.length = vs.length) : SS C σ H ρ vs τ := by
  obtain ⟨ow, I⟩ := h
  have J := SI.temps (ow' := fun k => if k < ρ.length + τ.length then ow k else []) (us := []) (ys := []) I hτ (Same.refl H) rfl (fun _ => []) rfl (fun _ _ j u e => by simp at e) (fun _ => List.nodup_nil) (fun _ _ _ _ z => by simp at z) (fun _ _ z => by simp at z) fun _ _ z => by simp at z
  exact ⟨_, by simpa using J⟩
theorem SS.pop {v : V} {t : T} (h : SS C σ H ρ (vs ++ [v]) (τ ++ [t])) : SS C σ H ρ vs τ := by
  obtain ⟨ow, I⟩ := h
  exact SS.drop ⟨ow, I⟩ I.lt1
theorem SS.pop2 {u v : V} {s t : T} (h : SS C σ H ρ (vs ++ [u] ++ [v]) (τ ++ [s] ++ [t])) : SS C σ H ρ vs τ := h.pop.pop

/-! ### reading -/
mutual
def toD : T → Option D
  | .dat d => some d
  | .bor d => some d
  | .own ds => some (.list ds)
  | .lbo ds => some (.list ds)
  | .lst ts => (toDL ts).map .list
  | .tup ts => (toDL ts).map .tuple
  | .dct kvs => some (.dict (kvs.map fun p => (kD p.1, p.2)))
  | .scr _ => none
  | .ali _ => none
  | .emp => none
def toDL : List T → Option (List D)
  | [] => some []
  | t :: ts => (toD t).bind fun d => (toDL ts).map fun ds => d :: ds
end
mutual
def lk (ρ : List T) : T → Option D
  | .dat d => some d
  | .bor d => some d
  | .own ds => some (.list ds)
  | .lbo ds => some (.list ds)
  | .lst ts => (lkL ρ ts).map .list
  | .tup ts => (lkL ρ ts).map .tuple
  | .dct kvs => some (.dict (kvs.map fun p => (kD p.1, p.2)))
  | .scr _ => none
  | .ali i => (ρ[i]?).bind toD
  | .emp => none
def lkL (ρ : List T) : List T → Option (List D)
  | [] => some []
  | t :: ts => (lk ρ t).bind fun d => (lkL ρ ts).map fun ds => d :: ds
end
theorem zip_kvs : ∀ {kvs : List (Key × V)} {ds : List D}, ds.length = kvs.length → ((kvs.map (·.1)).zip ds).map (fun p => (kD p.1, p.2)) = (kvs.map fun p => kD p.1).zip ds
  | [], [], _ => rfl
  | [], _ :: _, h => by simp at h
  | _ :: _, [], h => by simp at h
  | p :: kvs, d :: ds, h => by
    have := zip_kvs (kvs := kvs) (ds := ds) (by simpa using h)
    simp only [List.map_cons, List.zip_cons_cons]
    rw [this]
section
variable {K : PySem.W.Frag} {B Bb : Addr → Prop}
mutual
theorem TIs.toD : ∀ {t : T} {v : V} {os : List Addr} {d : D}, TIs K B Bb σ H t v os → Ds.toD t = some d → DIs K N0 H d v
  | _, _, _, _, .dat h, e => by simp only [Ds.toD, Option.some.injEq] at e; subst e; exact h.free
  | _, _, _, _, .bor h, e => by simp only [Ds.toD, Option.some.injEq] at e; subst e; exact h.free
  | _, _, _, _, .own h t, e => by simp only [Ds.toD, Option.some.injEq] at e; subst e; exact .list h id t.free
  | _, _, _, _, .lbo h t, e => by simp only [Ds.toD, Option.some.injEq] at e; subst e; exact .list h id t.free
  | _, _, _, _, .lst h t, e => by
    simp only [Ds.toD, Option.map_eq_some_iff] at e
    obtain ⟨ds, e1, rfl⟩ := e
    exact .list h id (TIsL.toD t e1)
  | _, _, _, _, .tup h _ t, e => by
    simp only [Ds.toD, Option.map_eq_some_iff] at e
    obtain ⟨ds, e1, rfl⟩ := e
    exact .tuple (.inl ⟨.inl h, id⟩) (TIsL.toD t e1)
  | _, _, _, _, .dct h t q, e => by
    simp only [Ds.toD, Option.some.injEq] at e
    subst e; subst q
    exact .dict h id t.free (zip_kvs (by have := t.length; simpa using this))
  | _, _, _, _, .scr h, e => by simp [Ds.toD] at e
  | _, _, _, _, .ali h, e => by simp [Ds.toD] at e
theorem TIsL.toD : ∀ {ts : List T} {vs : List V} {os : List Addr} {ds : List D}, TIsL K B Bb σ H ts vs os → Ds.toDL ts = some ds → DIsL K N0 H ds vs
  | _, _, _, _, .nil, e => by simp only [Ds.toDL, Option.some.injEq] at e; subst e; exact .nil
  | _, _, _, _, .cons r t, e => by
    simp only [Ds.toDL, Option.bind_eq_some_iff, Option.map_eq_some_iff] at e
    obtain ⟨d, e1, ds, e2, rfl⟩ := e
    exact .cons (TIs.toD r e1) (TIsL.toD t e2)
end
mutual
theorem TIs.lk (hs : ∀ (i : Nat) (t : T) (v : V) (d : D), ρ[i]? = some t → σ[i]? = some (some v) → Ds.toD t = some d → DIs K N0 H d v) : ∀ {t : T} {v : V} {os : List Addr} {d : D}, TIs K B Bb σ H t v os → Ds.lk ρ t = some d → DIs K N0 H d v
  | _, _, _, _, .dat h, e => by simp only [Ds.lk, Option.some.injEq] at e; subst e; exact h.free
  | _, _, _, _, .bor h, e => by simp only [Ds.lk, Option.some.injEq] at e; subst e; exact h.free
  | _, _, _, _, .own h t, e => by simp only [Ds.lk, Option.some.injEq] at e; subst e; exact .list h id t.free
  | _, _, _, _, .lbo h t, e => by simp only [Ds.lk, Option.some.injEq] at e; subst e; exact .list h id t.free
  | _, _, _, _, .lst h t, e => by
    simp only [Ds.lk, Option.map_eq_some_iff] at e
    obtain ⟨ds, e1, rfl⟩ := e
    exact .list h id (TIsL.lk hs t e1)
  | _, _, _, _, .tup h _ t, e => by
    simp only [Ds.lk, Option.map_eq_some_iff] at e
    obtain ⟨ds, e1, rfl⟩ := e
    exact .tuple (.inl ⟨.inl h, id⟩) (TIsL.lk hs t e1)
  | _, _, _, _, .dct h t q, e => by
    simp only [Ds.lk, Option.some.injEq] at e
    subst e; subst q
    exact .dict h id t.free (zip_kvs (by have := t.length; simpa using this))
  | _, _, _, _, .scr h, e => by simp [Ds.lk] at e
  | _, _, _, _, .ali h, e => by
    simp only [Ds.lk, Option.bind_eq_some_iff] at e
    obtain ⟨t, e1, e2⟩ := e
    exact hs _ _ _ _ e1 h e2
theorem TIsL.lk (hs : ∀ (i : Nat) (t : T) (v : V) (d : D), ρ[i]? = some t → σ[i]? = some (some v) → Ds.toD t = some d → DIs K N0 H d v) : ∀ {ts : List T} {vs : List V} {os : List Addr} {ds : List D}, TIsL K B Bb σ H ts vs os → Ds.lkL ρ ts = some ds → DIsL K N0 H ds vs
  | _, _, _, _, .nil, e => by simp only [Ds.lkL, Option.some.injEq] at e; subst e; exact .nil
  | _, _, _, _, .cons r t, e => by
    simp only [Ds.lkL, Option.bind_eq_some_iff, Option.map_eq_some_iff] at e
    obtain ⟨d, e1, ds, e2, rfl⟩ := e
    exact .cons (TIs.lk hs r e1) (TIsL.lk hs t e2)
end
end
theorem SI.look (I : SI C σ H ρ vs τ ow) : ∀ (i : Nat) (t : T) (v : V) (d : D), ρ[i]? = some t → (wipe σ C.cv)[i]? = some (some v) → toD t = some d → DIs C.K N0 H d v := fun i t v d e e2 e3 => by
  have e2 := (wipe_some e2).1
  rcases I.slot e with rfl | ⟨w, hw, r⟩
  · simp [toD] at e3
  · rw [e2] at hw; cases hw
    exact r.toD e3
theorem SI.lkT (I : SI C σ H ρ vs τ ow) {j : Nat} {t : T} {v : V} {d : D} (e : τ[j]? = some t) (ev : vs[j]? = some v) (h : lk ρ t = some d) : DIs C.K N0 H d v := by
  obtain ⟨w, hw, r⟩ := I.temp e
  rw [ev] at hw; cases hw
  exact r.lk I.look h
theorem SI.lkTop {v : V} {t : T} {d : D} (I : SI C σ H ρ (vs ++ [v]) (τ ++ [t]) ow) (h : lk ρ t = some d) : DIs C.K N0 H d v := I.top.lk I.look h
theorem SS.lk1 {v : V} {t : T} {d : D} (I : SS C σ H ρ (vs ++ [v]) (τ ++ [t])) (h : lk ρ t = some d) : DIs C.K N0 H d v := let ⟨_, J⟩ := I; J.lkTop h
theorem SS.lk2 {u v : V} {s t : T} {d : D} (I : SS C σ H ρ (vs ++ [u] ++ [v]) (τ ++ [s] ++ [t])) (h : lk ρ s = some d) : DIs C.K N0 H d u := SS.lk1 I.pop h
end
end Ds
namespace Ds
open PySem L2

abbrev DQ := T → List T → Prop
abbrev DE := List T → DQ → Prop
abbrev DTt := List T → (Bool → List T → Prop) → Prop
abbrev DA := List T → (List T → List T → Prop) → Prop
def Sim (C : Ctx) (t : TE) (f : DE) : Prop := ∀ (σ : St) (H : Hp) (ρ : List T) (vs : List V) (τ : List T) (Qd : DQ) (Q : VK), SS C σ H ρ vs τ → f ρ Qd →
  (∀ v H' x ρ', SS C σ H' ρ' (vs ++ [v]) (τ ++ [x]) → Qd x ρ' → Q v H') → t σ H Q
def SimT (C : Ctx) (t : TT) (f : DTt) : Prop := ∀ (σ : St) (H : Hp) (ρ : List T) (vs : List V) (τ : List T) (Qd : Bool → List T → Prop) (Q : Bool → Hp → Prop), SS C σ H ρ vs τ → f ρ Qd →
  (∀ b H' ρ', SS C σ H' ρ' vs τ → Qd b ρ' → Q b H') → t σ H Q
def SimA (C : Ctx) (t : TA) (f : DA) : Prop := ∀ (σ : St) (H : Hp) (ρ : List T) (vs : List V) (τ : List T) (Qd : List T → List T → Prop) (Q : List V → Hp → Prop), SS C σ H ρ vs τ → f ρ Qd →
  (∀ xs H' ts ρ', SS C σ H' ρ' (vs ++ xs) (τ ++ ts) → ts.length = xs.length → Qd ts ρ' → Q xs H') → t σ H Q
structure DPE (C : Ctx) (e : Expr) (f : DE) : Prop where
  ex : ∃ t, PE C.X e t ∧ Sim C t f
structure DPT (C : Ctx) (e : Expr) (f : DTt) : Prop where
  ex : ∃ t, PT C.X e t ∧ SimT C t f
structure DPW (C : Ctx) (e : Expr) (f : DTt) : Prop where
  ex : ∃ t, PW C.X e t ∧ SimT C t f
structure DPA (C : Ctx) (es : List Expr) (f : DA) : Prop where
  ex : ∃ t, PA C.X es t ∧ SimA C t f

/-! ### scalars -/
def sv : D → Option V
  | .none => some .non
  | .bool b => some (.bl b)
  | .int i => some (.int i)
  | .str x => some (.str x)
  | _ => none
theorem sv_is {K B H d v} (h : sv d = some v) : DIs K B H d v := by
  cases d <;> simp [sv] at h <;> subst h
  · exact .none
  · exact .bool _
  · exact .int _
  · exact .str _
theorem sv_eq {K B H d u v} (q : DIs K B H d u) (h : sv d = some v) : u = v := by
  cases q <;> simp [sv] at h <;> exact h
theorem DIs.int_eq {K B H i v} (q : DIs K B H (.int i) v) : v = .int i := sv_eq q rfl
theorem DIs.bool_eq {K B H i v} (q : DIs K B H (.bool i) v) : v = .bl i := sv_eq q rfl
theorem DIs.str_eq {K B H i v} (q : DIs K B H (.str i) v) : v = .str i := sv_eq q rfl
theorem DIs.none_eq {K B H v} (q : DIs K B H .none v) : v = .non := sv_eq q rfl

def wD : Option D → (D → Prop) → Prop
  | some d, k => k d
  | none, _ => False
theorem wD_some {o : Option D} {k : D → Prop} (h : wD o k) : ∃ d, o = some d ∧ k d := by
  cases o with
  | none => exact h.elim
  | some d => exact ⟨d, rfl, h⟩
def wO {α : Type} : Option α → (α → Prop) → Prop
  | some d, k => k d
  | none, _ => False
theorem wO_some {α : Type} {o : Option α} {k : α → Prop} (h : wO o k) : ∃ d, o = some d ∧ k d := by
  cases o with
  | none => exact h.elim
  | some d => exact ⟨d, rfl, h⟩

/-! ### what borrowed data may be kept: what holds no list -/
mutual
def safe : D → Bool
  | .tuple ds => safeL ds
  | .list _ => false
  | .dict _ => false
  | _ => true
def safeL : List D → Bool
  | [] => true
  | d :: ds => safe d && safeL ds
end
section
variable {K : PySem.W.Frag} {B Bb : Addr → Prop} {H : Hp}
mutual
theorem DIs.safe (h : ∀ a xs, (H a = some (.tup xs) ∨ ∃ o, H a = some (.frz o (.tup xs))) → ¬ Bb a → ¬ B a) : ∀ {d : D} {v : V}, DIs K Bb H d v → Ds.safe d = true → DIs K B H d v
  | _, _, .none, _ => .none
  | _, _, .bool b, _ => .bool b
  | _, _, .int i, _ => .int i
  | _, _, .str x, _ => .str x
  | _, _, .list _ _ _, e => by simp [Ds.safe] at e
  | _, _, .dict _ _ _ _, e => by simp [Ds.safe] at e
  | _, _, .tuple hh t, e => by
    refine .tuple ?_ (DIsL.safe h t (by simpa [Ds.safe] using e))
    rcases hh with ⟨r, n⟩ | k
    · exact .inl ⟨r, h _ _ r n⟩
    · exact .inr k
theorem DIsL.safe (h : ∀ a xs, (H a = some (.tup xs) ∨ ∃ o, H a = some (.frz o (.tup xs))) → ¬ Bb a → ¬ B a) : ∀ {ds : List D} {vs : List V}, DIsL K Bb H ds vs → Ds.safeL ds = true → DIsL K B H ds vs
  | _, _, .nil, _ => .nil
  | _, _, .cons r t, e => by
    simp only [Ds.safeL, Bool.and_eq_true] at e
    exact .cons (DIs.safe h r e.1) (DIsL.safe h t e.2)
end
end
section
variable {C : Ctx} {σ : St} {H H' : Hp} {ρ ρ' : List T} {vs xs : List V} {τ ts : List T} {ow : Nat → List Addr}
theorem SI.tupOk (I : SI C σ H ρ vs τ ow) : ∀ a xs, (H a = some (.tup xs) ∨ ∃ o, H a = some (.frz o (.tup xs))) → ¬ BarB C ow a → ¬ Bar C ow a := fun a xs e n z => by
  have chg : ∀ o, H a = some o → Chg o → False := fun o q c => by
    rcases e with e | ⟨u, e⟩ <;> rw [e] at q <;> cases q <;> exact c
  rcases z with ⟨k, z⟩ | z
  · exact n ⟨k, z⟩
  · obtain ⟨o, e0, c⟩ := I.ok.b0 a z
    exact chg o (I.kp a o e0 fun q => I.ok.ob a q z) c
theorem SI.safe (I : SI C σ H ρ vs τ ow) {d : D} {v : V} (h : DIs C.K (BarB C ow) H d v) (e : Ds.safe d = true) : DIs C.K (Bar C ow) H d v := h.safe I.tupOk e
theorem SI.safeL (I : SI C σ H ρ vs τ ow) {ds : List D} (h : DIsL C.K (BarB C ow) H ds xs) (e : Ds.safeL ds = true) : DIsL C.K (Bar C ow) H ds xs := h.safe I.tupOk e

theorem TIs.dat_inv {K : PySem.W.Frag} {B Bb : Addr → Prop} {σ : St} {H : Hp} {d : D} {v : V} : ∀ {os : List Addr}, TIs K B Bb σ H (.dat d) v os → DIs K B H d v
  | _, .dat q => q
theorem TIs.bor_inv {K : PySem.W.Frag} {B Bb : Addr → Prop} {σ : St} {H : Hp} {d : D} {v : V} : ∀ {os : List Addr}, TIs K B Bb σ H (.bor d) v os → DIs K Bb H d v
  | _, .bor q => q
/-- a scalar pushed -/
theorem SS.sc {d : D} {v : V} (h : SS C σ H ρ vs τ) (e : sv d = some v) : SS C σ H ρ (vs ++ [v]) (τ ++ [.dat d]) := h.push0 fun _ _ => .dat (sv_is e)
theorem SS.int (h : SS C σ H ρ vs τ) (i : Int) : SS C σ H ρ (vs ++ [.int i]) (τ ++ [.dat (.int i)]) := h.sc rfl
theorem SS.bool (h : SS C σ H ρ vs τ) (i : Bool) : SS C σ H ρ (vs ++ [.bl i]) (τ ++ [.dat (.bool i)]) := h.sc rfl
theorem SS.str (h : SS C σ H ρ vs τ) (i : Str) : SS C σ H ρ (vs ++ [.str i]) (τ ++ [.dat (.str i)]) := h.sc rfl
theorem SS.non (h : SS C σ H ρ vs τ) : SS C σ H ρ (vs ++ [.non]) (τ ++ [.dat .none]) := h.sc rfl
end

/-! ### names, constants -/
def dC (d : D) : DE := fun ρ Q => Q (.dat d) ρ
def dVar (i : Nat) : DE := fun ρ Q => match ρ[i]? with
  | some (.dat d) => Q (.dat d) ρ
  | some (.bor d) => Q (.bor d) ρ
  | some .emp => False
  | none => False
  | some _ => Q (.ali i) ρ
section
variable {C : Ctx}
theorem sim_C {d : D} {v : V} (e : sv d = some v) : Sim C (tC v) (dC d) := fun _ _ _ _ _ _ _ I h k => k _ _ _ _ (I.sc e) h
theorem de_int {i j pos} : DPE C (.Constant (.int i) j pos) (dC (.int i)) := ⟨_, pe_int, sim_C rfl⟩
theorem de_bl {b j pos} : DPE C (.Constant (.bool b) j pos) (dC (.bool b)) := ⟨_, pe_bl, sim_C rfl⟩
theorem de_non {j pos} : DPE C (.Constant .none j pos) (dC .none) := ⟨_, pe_non, sim_C rfl⟩
theorem de_str {x j pos} : DPE C (.Constant (.str x) j pos) (dC (.str x)) := ⟨_, pe_str, sim_C rfl⟩
theorem de_glob {x : Str} {d : D} {v : V} {u : Value} {pos : Pos} (hg : Gl C.X x) (hm : C.X.mg x = some u) (r : RelV v u) (e : sv d = some v) (hd : (x == ("__debug__" : Str)) = false := by decide) : DPE C (.Name x pos) (dC d) :=
  ⟨_, pe_glob hg hm r hd, sim_C e⟩
theorem wipe_get {σ : St} {i : Nat} {x : Option V} : ∀ {vs : List Nat}, i ∉ vs → σ[i]? = some x → (wipe σ vs)[i]? = some x
  | [], _, e => e
  | v :: vs, h, e => by
    unfold wipe
    rw [List.getElem?_set_ne (fun z => h (by simp [z]))]
    exact wipe_get (fun z => h (by simp [z])) e
theorem sim_var (i : Nat) (nc : i ∉ C.cv) : Sim C (tVar i) (dVar i) := fun σ H ρ vs τ Qd Q I h k => by
  unfold dVar at h
  obtain ⟨ow, J⟩ := id I
  cases e : ρ[i]? with
  | none => rw [e] at h; exact h.elim
  | some t =>
    rw [e] at h
    rcases J.slot e with rfl | ⟨v, hv, _⟩
    · exact h.elim
    · have go : Qd (.ali i) ρ → tVar i σ H Q := fun h => ⟨v, hv, k v H _ ρ (I.push0 fun ow' J' => .ali (wipe_get nc hv)) h⟩
      cases t with
      | dat d => exact ⟨v, hv, k v H _ ρ (I.push0 fun ow' J' => by
          rcases J'.slot e with z | ⟨w, hw, r⟩
          · cases z
          · rw [hv] at hw; cases hw
            exact .dat r.dat_inv) h⟩
      | bor d => exact ⟨v, hv, k v H _ ρ (I.push0 fun ow' J' => by
          rcases J'.slot e with z | ⟨w, hw, r⟩
          · cases z
          · rw [hv] at hw; cases hw
            exact .bor r.bor_inv) h⟩
      | emp => exact h.elim
      | own _ => exact go h
      | lbo _ => exact go h
      | lst _ => exact go h
      | tup _ => exact go h
      | dct _ => exact go h
      | scr _ => exact go h
      | ali _ => exact go h
theorem de_var (i : Nat) {x : Str} {pos : Pos} (nc : i ∉ C.cv := by decide) (hN : C.X.N[i]? = some x := by rfl) (hv : Vis C.X.env.scope x := by first | exact Or.inl rfl | exact Or.inr (Or.inl rfl) | exact Or.inr (Or.inr rfl)) (hd : (x == ("__debug__" : Str)) = false := by decide)
    (hcd : (x == ("__classdict__" : Str)) = false := by decide) : DPE C (.Name x pos) (dVar i) := ⟨_, pe_var hN hv hd hcd, sim_var i nc⟩

/-! ### operators by values -/
abbrev DO2 := List T → T → T → DQ → Prop
abbrev DO1 := List T → T → DQ → Prop
def dOp (f : DO2) (fa fb : DE) : DE := fun ρ Q => fa ρ fun x ρ1 => fb ρ1 fun y ρ2 => f ρ2 x y Q
def dUn (f : DO1) (fa : DE) : DE := fun ρ Q => fa ρ fun x ρ1 => f ρ1 x Q
def SimR2 (C : Ctx) (r : R2) (f : DO2) : Prop := ∀ (σ : St) (H : Hp) (ρ : List T) (vs : List V) (τ : List T) (u v : V) (x y : T) (Qd : DQ) (Q : VK), SS C σ H ρ (vs ++ [u] ++ [v]) (τ ++ [x] ++ [y]) → f ρ x y Qd →
  (∀ w H' z ρ', SS C σ H' ρ' (vs ++ [w]) (τ ++ [z]) → Qd z ρ' → Q w H') → r u v H Q
def SimR1 (C : Ctx) (r : V → Hp → VK → Prop) (f : DO1) : Prop := ∀ (σ : St) (H : Hp) (ρ : List T) (vs : List V) (τ : List T) (u : V) (x : T) (Qd : DQ) (Q : VK), SS C σ H ρ (vs ++ [u]) (τ ++ [x]) → f ρ x Qd →
  (∀ w H' z ρ', SS C σ H' ρ' (vs ++ [w]) (τ ++ [z]) → Qd z ρ' → Q w H') → r u H Q
variable {a b : Expr} {fa fb : DE} {pos : Pos}
theorem sim_op {r : R2} {f : DO2} {ta tb : TE} (h : SimR2 C r f) (ha : Sim C ta fa) (hb : Sim C tb fb) : Sim C (tOp r ta tb) (dOp f fa fb) := fun σ H ρ vs τ Qd Q I q k =>
  ha σ H ρ vs τ _ _ I q fun u H1 x ρ1 I1 q1 => hb σ H1 ρ1 _ _ _ _ I1 q1 fun v H2 y ρ2 I2 q2 => h σ H2 ρ2 vs τ u v x y Qd Q I2 q2 k
theorem sim_un {r : V → Hp → VK → Prop} {f : DO1} {ta : TE} (h : SimR1 C r f) (ha : Sim C ta fa) : Sim C (tUn r ta) (dUn f fa) := fun σ H ρ vs τ Qd Q I q k =>
  ha σ H ρ vs τ _ _ I q fun u H1 x ρ1 I1 q1 => h σ H1 ρ1 vs τ u x Qd Q I1 q1 k
theorem de_op {op : Operator} {r : R2} {f : DO2} (ho : OpR C.X (binaryOp op) r) (hs : SimR2 C r f) (ha : DPE C a fa) (hb : DPE C b fb) : DPE C (.BinOp a op b pos) (dOp f fa fb) :=
  let ⟨_, pa, sa⟩ := ha.ex; let ⟨_, pb, sb⟩ := hb.ex; ⟨_, pe_op ho pa pb, sim_op hs sa sb⟩
theorem de_cmp {op : CmpOp} {r : R2} {f : DO2} (ho : OpR C.X (compareOp op) r) (hs : SimR2 C r f) (ha : DPE C a fa) (hb : DPE C b fb) (hm : behindInMarks op b = false) : DPE C (.Compare a [op] [b] pos) (dOp f fa fb) :=
  let ⟨_, pa, sa⟩ := ha.ex; let ⟨_, pb, sb⟩ := hb.ex; ⟨_, pe_cmpR ho pa pb hm, sim_op hs sa sb⟩
theorem de_unop {op : UnaryOp} {r : V → Hp → VK → Prop} {f : DO1} (ho : UnR C.X (unaryOp op) r) (hs : SimR1 C r f) (ha : DPE C a fa) : DPE C (.UnaryOp op a pos) (dUn f fa) :=
  let ⟨_, pa, sa⟩ := ha.ex; ⟨_, pe_un ho pa, sim_un hs sa⟩
theorem OpR.or {X : Cx} {f : Value → Value → Sem Value} {r r' : R2} (h : OpR X f r) (h' : OpR X f r') : OpR X f (fun x y H Q => r x y H Q ∨ r' x y H Q) := by
  intro pins s σ H x y v u Q I rx ry q
  rcases q with q | q
  · exact h pins s σ H x y v u Q I rx ry q
  · exact h' pins s σ H x y v u Q I rx ry q
theorem CallR.or {X : Cx} {f : Value} {r r' : List V → Hp → VK → Prop} (h : CallR X f r) (h' : CallR X f r') : CallR X f (fun x H Q => r x H Q ∨ r' x H Q) := by
  intro pins s σ H x v Q I rx q
  rcases q with q | q
  · exact h pins s σ H x v Q I rx q
  · exact h' pins s σ H x v Q I rx q

/-- a pure operator: two data, a scalar -/
def pu2 (f : D → D → (D → Prop) → Prop) : DO2 := fun ρ x y Q => wD (lk ρ x) fun d => wD (lk ρ y) fun e => f d e fun w => Q (.dat w) ρ
def pu1 (f : D → (D → Prop) → Prop) : DO1 := fun ρ x Q => wD (lk ρ x) fun d => f d fun w => Q (.dat w) ρ
theorem sim_pu2 {r : R2} {f : D → D → (D → Prop) → Prop} (h : ∀ (H : Hp) (d e : D) (u v : V) (Qd : D → Prop) (Q : VK), DIs C.K N0 H d u → DIs C.K N0 H e v → f d e Qd → (∀ w z, sv w = some z → Qd w → Q z H) → r u v H Q) : SimR2 C r (pu2 f) := by
  intro σ H ρ vs τ u v x y Qd Q I q k
  obtain ⟨d, e1, q⟩ := wD_some q
  obtain ⟨e, e2, q⟩ := wD_some q
  exact h H d e u v _ Q (I.lk2 e1) (I.lk1 e2) q fun w z hz hq => k z H _ ρ (I.pop2.sc hz) hq
theorem sim_pu1 {r : V → Hp → VK → Prop} {f : D → (D → Prop) → Prop} (h : ∀ (H : Hp) (d : D) (u : V) (Qd : D → Prop) (Q : VK), DIs C.K N0 H d u → f d Qd → (∀ w z, sv w = some z → Qd w → Q z H) → r u H Q) : SimR1 C r (pu1 f) := by
  intro σ H ρ vs τ u x Qd Q I q k
  obtain ⟨d, e1, q⟩ := wD_some q
  exact h H d u _ Q (I.lk1 e1) q fun w z hz hq => k z H _ ρ (I.pop.sc hz) hq
/-- ints alone -/
def fII (g : Int → Int → (D → Prop) → Prop) : D → D → (D → Prop) → Prop := fun d e k => match d, e with
  | .int i, .int j => g i j k
  | _, _ => False
theorem sim_fII {r : R2} {g : Int → Int → (D → Prop) → Prop} (h : ∀ (H : Hp) (i j : Int) (Qd : D → Prop) (Q : VK), g i j Qd → (∀ w z, sv w = some z → Qd w → Q z H) → r (.int i) (.int j) H Q) : SimR2 C r (pu2 (fII g)) := by
  refine sim_pu2 fun H d e u v Qd Q du ev q k => ?_
  cases d <;> cases e <;> first | exact q.elim | skip
  rw [du.int_eq, ev.int_eq]
  exact h H _ _ Qd Q q k
abbrev dSub : DO2 := pu2 (fII fun i j k => k (.int (i - j)))
theorem de_sub (ha : DPE C a fa) (hb : DPE C b fb) : DPE C (.BinOp a .Sub b pos) (dOp dSub fa fb) :=
  de_op op_sub (sim_fII fun H i j Qd Q q k => ⟨i, j, rfl, rfl, k _ _ rfl q⟩) ha hb
abbrev dMod : DO2 := pu2 (fII fun i j k => 0 < j ∧ k (.int (i % j)))
theorem de_mod (ha : DPE C a fa) (hb : DPE C b fb) : DPE C (.BinOp a .Mod b pos) (dOp dMod fa fb) :=
  de_op op_mod (sim_fII fun H i j Qd Q q k => ⟨i, j, rfl, rfl, q.1, k _ _ rfl q.2⟩) ha hb
abbrev dFdiv : DO2 := pu2 (fII fun i j k => CDivW i j ∧ k (.int (i / j)))
theorem de_fdiv (ha : DPE C a fa) (hb : DPE C b fb) : DPE C (.BinOp a .FloorDiv b pos) (dOp dFdiv fa fb) :=
  de_op op_fdivW (sim_fII fun H i j Qd Q q k => ⟨i, j, rfl, rfl, q.1, k _ _ rfl q.2⟩) ha hb
abbrev dPow : DO2 := pu2 (fII fun i j k => CPow i j ∧ k (.int (i ^ j.toNat)))
theorem de_pow (ha : DPE C a fa) (hb : DPE C b fb) : DPE C (.BinOp a .Pow b pos) (dOp dPow fa fb) :=
  de_op op_pow (sim_fII fun H i j Qd Q q k => ⟨i, j, rfl, rfl, q.1, k _ _ rfl q.2⟩) ha hb
abbrev dLt : DO2 := pu2 (fII fun i j k => k (.bool (decide (i < j))))
theorem de_lt (ha : DPE C a fa) (hb : DPE C b fb) : DPE C (.Compare a [.Lt] [b] pos) (dOp dLt fa fb) :=
  de_cmp op_lt (sim_fII fun H i j Qd Q q k => ⟨i, j, rfl, rfl, k _ _ rfl q⟩) ha hb (nobehind _ (by decide) (by decide))
abbrev dLe : DO2 := pu2 (fII fun i j k => k (.bool (decide (i ≤ j))))
theorem de_le (ha : DPE C a fa) (hb : DPE C b fb) : DPE C (.Compare a [.LtE] [b] pos) (dOp dLe fa fb) :=
  de_cmp op_le (sim_fII fun H i j Qd Q q k => ⟨i, j, rfl, rfl, k _ _ rfl q⟩) ha hb (nobehind _ (by decide) (by decide))
abbrev dGt : DO2 := pu2 (fII fun i j k => k (.bool (decide (j < i))))
theorem de_gt (ha : DPE C a fa) (hb : DPE C b fb) : DPE C (.Compare a [.Gt] [b] pos) (dOp dGt fa fb) :=
  de_cmp op_gt (sim_fII fun H i j Qd Q q k => ⟨i, j, rfl, rfl, k _ _ rfl q⟩) ha hb (nobehind _ (by decide) (by decide))
abbrev dGe : DO2 := pu2 (fII fun i j k => k (.bool (decide (j ≤ i))))
theorem de_ge (ha : DPE C a fa) (hb : DPE C b fb) : DPE C (.Compare a [.GtE] [b] pos) (dOp dGe fa fb) :=
  de_cmp op_ge (sim_fII fun H i j Qd Q q k => ⟨i, j, rfl, rfl, k _ _ rfl q⟩) ha hb (nobehind _ (by decide) (by decide))
def dNeg : DO1 := pu1 fun d k => match d with
  | .int i => k (.int (-i))
  | _ => False
theorem de_neg (ha : DPE C a fa) : DPE C (.UnaryOp .USub a pos) (dUn dNeg fa) :=
  de_unop un_neg (sim_pu1 fun H d u Qd Q du q k => by
    cases d <;> first | exact q.elim | skip
    rw [du.int_eq]
    exact ⟨_, rfl, k _ _ rfl q⟩) ha

/-! ### == over data -/
mutual
theorem DIs.dp {K : PySem.W.Frag} {B : Addr → Prop} {H : Hp} : ∀ {d : D} {v : V}, DIs K B H d v → d.canLay0 = true → Dp K H v d
  | _, _, .none, _ => .non
  | _, _, .bool b, _ => .bl b
  | _, _, .int i, _ => .int i
  | _, _, .str x, _ => .str x
  | _, _, .list h _ t, e => .lst (.of h) (DIsL.dp t (by simpa [PyData.canLay0] using e))
  | _, _, .tuple h t, e => .tup h.sq (DIsL.dp t (by simpa [PyData.canLay0] using e))
  | _, _, .dict _ _ _ _, e => by simp [PyData.canLay0] at e
theorem DIsL.dp {K : PySem.W.Frag} {B : Addr → Prop} {H : Hp} : ∀ {ds : List D} {vs : List V}, DIsL K B H ds vs → PyData.canLayAll0 ds = true → DpAll K H vs ds
  | _, _, .nil, _ => .nil
  | _, _, .cons r t, e => by
    simp only [PyData.canLayAll0, Bool.and_eq_true] at e
    exact .cons (DIs.dp r e.1) (DIsL.dp t e.2)
end
theorem DIs.dpS {K : PySem.W.Frag} {B : Addr → Prop} {H : Hp} {d : D} {v : V} (h : DIs K B H d v) (e : SeqAt.shaped d = true) : Dp K H v d := h.dp (SeqAt.canLay_of_shaped e)
abbrev dEq : DO2 := pu2 fun d e k => match d, e with
  | .str x, .str y => k (.bool (decide (x = y)))
  | d, e => SeqAt.shaped d = true ∧ SeqAt.shaped e = true ∧ k (.bool (PyData.eqv d e))
abbrev dNe : DO2 := pu2 fun d e k => match d, e with
  | .str x, .str y => k (.bool (!decide (x = y)))
  | d, e => SeqAt.shaped d = true ∧ SeqAt.shaped e = true ∧ k (.bool (!PyData.eqv d e))
theorem dec_strV (x y : Str) : decide (V.str x = V.str y) = decide (x = y) := by
  by_cases h : x = y
  · rw [h, decide_eq_true rfl, decide_eq_true rfl]
  · rw [decide_eq_false h, decide_eq_false fun z => h (V.str.inj z)]
theorem sim_eqD (hu : C.X.A.units + 64 < cLine) : OpR C.X (compareOp .Eq) (fun x y H Q => rEq x y H Q ∨ rEqD C.X.K x y H Q) ∧ SimR2 C (fun x y H Q => rEq x y H Q ∨ rEqD C.X.K x y H Q) dEq :=
  ⟨OpR.or op_eq (op_eqD hu), sim_pu2 fun H d e u v Qd Q du ev q k => by
    split at q
    · refine .inl ⟨by rw [du.str_eq, ev.str_eq]; rfl, ?_⟩
      rw [du.str_eq, ev.str_eq, dec_strV]
      exact k _ _ rfl q
    · exact .inr ⟨_, _, du.dpS q.1, ev.dpS q.2.1, q.1, q.2.1, k _ _ rfl q.2.2⟩⟩
theorem sim_neD (hu : C.X.A.units + 64 < cLine) : OpR C.X (compareOp .NotEq) (fun x y H Q => rNe x y H Q ∨ rNeD C.X.K x y H Q) ∧ SimR2 C (fun x y H Q => rNe x y H Q ∨ rNeD C.X.K x y H Q) dNe :=
  ⟨OpR.or op_ne (op_neD hu), sim_pu2 fun H d e u v Qd Q du ev q k => by
    split at q
    · refine .inl ⟨by rw [du.str_eq, ev.str_eq]; rfl, ?_⟩
      rw [du.str_eq, ev.str_eq, dec_strV]
      exact k _ _ rfl q
    · exact .inr ⟨_, _, du.dpS q.1, ev.dpS q.2.1, q.1, q.2.1, k _ _ rfl q.2.2⟩⟩
theorem de_eq (hu : C.X.A.units + 64 < cLine) (ha : DPE C a fa) (hb : DPE C b fb) : DPE C (.Compare a [.Eq] [b] pos) (dOp dEq fa fb) :=
  de_cmp (sim_eqD hu).1 (sim_eqD hu).2 ha hb (nobehind _ (by decide) (by decide))
theorem de_ne (hu : C.X.A.units + 64 < cLine) (ha : DPE C a fa) (hb : DPE C b fb) : DPE C (.Compare a [.NotEq] [b] pos) (dOp dNe fa fb) :=
  de_cmp (sim_neD hu).1 (sim_neD hu).2 ha hb (nobehind _ (by decide) (by decide))
/-- x in xs, data at any depth -/
abbrev dIn : DO2 := pu2 fun d e k => match e with
  | .list ds => SeqAt.shaped d = true ∧ SeqAt.shaped (.list ds) = true ∧ k (.bool (ds.any fun z => PyData.eqv z d))
  | _ => False
abbrev dNotIn : DO2 := pu2 fun d e k => match e with
  | .list ds => SeqAt.shaped d = true ∧ SeqAt.shaped (.list ds) = true ∧ k (.bool (!ds.any fun z => PyData.eqv z d))
  | _ => False
theorem de_in (hu : C.X.A.units + 65 < cLine) (ha : DPE C a fa) (hb : DPE C b fb) (hm : behindInMarks .In b = false := by rfl) : DPE C (.Compare a [.In] [b] pos) (dOp dIn fa fb) :=
  de_cmp (op_inD hu) (sim_pu2 fun H d e u v Qd Q du ev q k => by
    cases e <;> first | exact q.elim | skip
    exact ⟨d, _, du.dpS q.1, ev.dpS q.2.1, q.1, q.2.1, k _ _ rfl q.2.2⟩) ha hb hm
theorem de_notIn (hu : C.X.A.units + 65 < cLine) (ha : DPE C a fa) (hb : DPE C b fb) (hm : behindInMarks .NotIn b = false := by rfl) : DPE C (.Compare a [.NotIn] [b] pos) (dOp dNotIn fa fb) :=
  de_cmp (op_notInD hu) (sim_pu2 fun H d e u v Qd Q du ev q k => by
    cases e <;> first | exact q.elim | skip
    exact ⟨d, _, du.dpS q.1, ev.dpS q.2.1, q.1, q.2.1, k _ _ rfl q.2.2⟩) ha hb hm
/-- is None -/
def isN : D → Bool
  | .none => true
  | _ => false
theorem isN_eq {K B H d v} (h : DIs K B H d v) : decide (v = V.non) = isN d := by
  cases h <;> simp [isN]
abbrev dIsN : DO2 := pu2 fun d e k => match e with
  | .none => k (.bool (isN d))
  | _ => False
abbrev dIsNotN : DO2 := pu2 fun d e k => match e with
  | .none => k (.bool (!isN d))
  | _ => False
theorem de_isN (ha : DPE C a fa) (hb : DPE C b fb) : DPE C (.Compare a [.Is] [b] pos) (dOp dIsN fa fb) :=
  de_cmp op_isN (sim_pu2 fun H d e u v Qd Q du ev q k => by
    cases e <;> first | exact q.elim | skip
    refine ⟨ev.none_eq, ?_⟩
    rw [isN_eq du]
    exact k _ _ rfl q) ha hb (nobehind _ (by decide) (by decide))
theorem de_isNotN (ha : DPE C a fa) (hb : DPE C b fb) : DPE C (.Compare a [.IsNot] [b] pos) (dOp dIsNotN fa fb) :=
  de_cmp op_notN (sim_pu2 fun H d e u v Qd Q du ev q k => by
    cases e <;> first | exact q.elim | skip
    refine ⟨ev.none_eq, ?_⟩
    rw [isN_eq du]
    exact k _ _ rfl q) ha hb (nobehind _ (by decide) (by decide))
/-- is True, is False, of bools -/
abbrev dIsB : DO2 := pu2 fun d e k => match d, e with
  | .bool x, .bool y => k (.bool (decide (x = y)))
  | _, _ => False
abbrev dIsNotB : DO2 := pu2 fun d e k => match d, e with
  | .bool x, .bool y => k (.bool (!decide (x = y)))
  | _, _ => False
theorem de_isB (ha : DPE C a fa) (hb : DPE C b fb) : DPE C (.Compare a [.Is] [b] pos) (dOp dIsB fa fb) :=
  de_cmp op_isBl (sim_pu2 fun H d e u v Qd Q du ev q k => by
    cases d <;> cases e <;> first | exact q.elim | skip
    exact ⟨_, _, du.bool_eq, ev.bool_eq, k _ _ rfl q⟩) ha hb (nobehind _ (by decide) (by decide))
theorem de_isNotB (ha : DPE C a fa) (hb : DPE C b fb) : DPE C (.Compare a [.IsNot] [b] pos) (dOp dIsNotB fa fb) :=
  de_cmp op_notBl (sim_pu2 fun H d e u v Qd Q du ev q k => by
    cases d <;> cases e <;> first | exact q.elim | skip
    exact ⟨_, _, du.bool_eq, ev.bool_eq, k _ _ rfl q⟩) ha hb (nobehind _ (by decide) (by decide))
end
end Ds
namespace Ds
open PySem L2

theorem gather {K : PySem.W.Frag} {B Bb : Addr → Prop} {σ : St} {H : Hp} : ∀ (ts : List T) (xs : List V) (f : Nat → List Addr), ts.length = xs.length → (∀ (j : Nat) (t : T), ts[j]? = some t → ∃ v, xs[j]? = some v ∧ TIs K B Bb σ H t v (f j)) →
    (∀ j, (f j).Nodup) → (∀ i j a, i ≠ j → a ∈ f i → a ∉ f j) → ∃ os, TIsL K B Bb σ H ts xs os ∧ os.Nodup ∧ ∀ a, a ∈ os → ∃ j, j < ts.length ∧ a ∈ f j
  | [], [], f, _, _, _, _ => ⟨[], .nil, List.nodup_nil, fun _ z => by simp at z⟩
  | [], _ :: _, _, h, _, _, _ => by simp at h
  | _ :: _, [], _, h, _, _, _ => by simp at h
  | t :: ts, x :: xs, f, h, r, nd, dj => by
    obtain ⟨v, hv, r0⟩ := r 0 t rfl
    simp at hv; subst hv
    obtain ⟨os, q, n2, s⟩ := gather ts xs (fun j => f (j + 1)) (by simpa using h) (fun j u e => r (j + 1) u (by simpa using e)) (fun j => nd _) fun i j a hij => dj _ _ a (by omega)
    refine ⟨f 0 ++ os, .cons r0 q, List.nodup_append.mpr ⟨nd 0, n2, fun a ha b hb e => ?_⟩, fun a ha => ?_⟩
    · subst e
      obtain ⟨j, _, hj⟩ := s a hb
      exact dj 0 (j + 1) a (by omega) ha hj
    · rcases List.mem_append.mp ha with ha | ha
      · exact ⟨0, by simp, ha⟩
      · obtain ⟨j, hj, q⟩ := s a ha
        exact ⟨j + 1, by simpa using hj, q⟩

def datL : List T → Option (List D)
  | [] => some []
  | t :: ts => match t with
    | .dat d => (datL ts).map fun ds => d :: ds
    | _ => none
theorem datL_is {K : PySem.W.Frag} {B Bb : Addr → Prop} {σ : St} {H : Hp} : ∀ {ts : List T} {vs : List V} {os : List Addr} {ds : List D}, TIsL K B Bb σ H ts vs os → datL ts = some ds → DIsL K B H ds vs
  | _, _, _, _, .nil, e => by simp [datL] at e; subst e; exact .nil
  | t :: _, _, _, _, .cons r q, e => by
    unfold datL at e
    cases t with
    | dat d =>
      simp only [Option.map_eq_some_iff] at e
      obtain ⟨ds, e1, rfl⟩ := e
      exact .cons r.dat_inv (datL_is q e1)
    | _ => simp at e
def small {α : Type} : Nat → List α → Bool
  | _, [] => true
  | 0, _ :: _ => false
  | n + 1, _ :: t => small n t
theorem small_le {α : Type} : ∀ {n : Nat} {l : List α}, small n l = true → l.length ≤ n
  | _, [], _ => Nat.zero_le _
  | 0, _ :: _, h => by simp [small] at h
  | n + 1, _ :: t, h => by have := small_le (n := n) (l := t) (by simpa [small] using h); simp; omega
def mkLK (ts : List T) : T := match datL ts with
  | some ds => .own ds
  | none => .lst ts
def mkTK (ts : List T) : T := match datL ts with
  | some ds => .dat (.tuple ds)
  | none => .tup ts

section
variable {C : Ctx} {σ σ' : St} {H H' : Hp} {ρ ρ' : List T} {vs vs' xs ys : List V} {τ τ' ts us : List T} {ow : Nat → List Addr}

theorem SI.nbar (I : SI C σ H ρ vs τ ow) {b : Addr} (e : H b = none) : ¬ Bar C ow b := fun z => by
  rcases z with ⟨k, z⟩ | z
  · obtain ⟨u, e2, _⟩ := I.ot k b z
    rw [e] at e2; cases e2
  · obtain ⟨u, e2, _⟩ := I.ok.b0 b z
    exact I.tr b (by rw [e2]; simp) e
theorem same_upd {p : Addr} {o : HO} (e : H p = none) : Same H (upd H p o) := fun b u q => by rw [upd_ne (ne_of_none q e)]; exact q
theorem SI.gather (I : SI C σ H ρ (vs ++ xs) (τ ++ ts) ow) (hτ : τ.length = vs.length) : ∃ os, TIsL C.K (Bar C ow) (BarB C ow) (wipe σ C.cv) H ts xs os ∧ os.Nodup ∧ ∀ a, a ∈ os → ∃ j, ρ.length + τ.length ≤ j ∧ a ∈ ow j := by
  have hl := I.lt
  simp at hl
  obtain ⟨os, r, n, s⟩ := Ds.gather (K := C.K) (B := Bar C ow) (Bb := BarB C ow) (σ := wipe σ C.cv) (H := H) ts xs (fun j => ow (ρ.length + τ.length + j)) (by omega) (fun j t e => by
    obtain ⟨v, hv, r⟩ := I.temp (j := τ.length + j) (t := t) (by rw [List.getElem?_append_right (by omega)]; simpa using e)
    rw [hτ, List.getElem?_append_right (by omega)] at hv
    simp at hv
    exact ⟨v, hv, by rw [Nat.add_assoc]; exact r⟩) (fun j => I.nd _) fun i j a hij => I.dj _ _ a (by omega)
  exact ⟨os, r, n, fun a ha => by
    obtain ⟨j, _, q⟩ := s a ha
    exact ⟨_, by omega, q⟩⟩
/-- barred from below n -/
def Low (C : Ctx) (ow : Nat → List Addr) (n : Nat) (b : Addr) : Prop := (∃ k, k < n ∧ b ∈ ow k) ∨ C.B0 b
theorem Low.bar {ow : Nat → List Addr} {n : Nat} {b : Addr} (h : Low C ow n b) : Bar C ow b := h.elim (fun ⟨k, _, q⟩ => .inl ⟨k, q⟩) .inr
/-- the temporaries on top become one that owns nothing new -/
theorem SI.one' (I : SI C σ H ρ (vs ++ xs) (τ ++ ts) ow) (hτ : τ.length = vs.length) (hs : Same H H') (v : V) (t : T) (o : List Addr)
    (rel : ∀ ow' : Nat → List Addr, (∀ b o, H b = some o → ¬ Bar C ow b → H' b = some o ∧ ¬ Bar C ow' b) → (∀ b o, H b = some o → ¬ BarB C ow b → H' b = some o ∧ ¬ BarB C ow' b) →
      (∀ b, Bar C ow' b → Low C ow (ρ.length + τ.length) b ∨ b ∈ o) → TIs C.K (Bar C ow') (BarB C ow') (wipe σ C.cv) H' t v o)
    (nd : o.Nodup) (src : ∀ a, a ∈ o → (∃ i, ρ.length + τ.length ≤ i ∧ a ∈ ow i) ∨ H a = none) (ot : ∀ a, a ∈ o → ∃ u, H' a = some u ∧ Chg u) : SS C σ H' ρ (vs ++ [v]) (τ ++ [t]) := by
  refine ⟨_, SI.temps (ow' := fun k => if k < ρ.length + τ.length then ow k else o1 o (k - (ρ.length + τ.length))) I hτ hs (by simp) (o1 o) rfl (fun m1 m2 j u e => ?_) (fun j => ?_) (fun i j a hij hi => ?_) (fun j a h => ?_) (fun j a h => ?_)⟩
  · cases j with
    | zero =>
      simp at e; subst e
      refine ⟨v, rfl, rel _ m1 m2 fun b z => ?_⟩
      rcases z with ⟨k, z⟩ | z
      · by_cases hk : k < ρ.length + τ.length
        · simp only [if_pos hk] at z; exact .inl (.inl ⟨k, hk, z⟩)
        · simp only [if_neg hk] at z
          cases hq : k - (ρ.length + τ.length) with
          | zero => rw [hq] at z; exact .inr z
          | succ m => rw [hq] at z; simp [o1] at z
      · exact .inl (.inr z)
    | succ j => simp at e
  · cases j with
    | zero => exact nd
    | succ j => exact List.nodup_nil
  · cases i with
    | zero => cases j with
      | zero => exact absurd rfl hij
      | succ j => simp [o1]
    | succ i => simp [o1] at hi
  · cases j with
    | zero => exact src a h
    | succ j => simp [o1] at h
  · cases j with
    | zero => exact ot a h
    | succ j => simp [o1] at h
theorem SI.one (I : SI C σ H ρ (vs ++ xs) (τ ++ ts) ow) (hτ : τ.length = vs.length) (hs : Same H H') (v : V) (t : T) (o : List Addr)
    (rel : ∀ ow' : Nat → List Addr, (∀ b o, H b = some o → ¬ Bar C ow b → H' b = some o ∧ ¬ Bar C ow' b) → (∀ b o, H b = some o → ¬ BarB C ow b → H' b = some o ∧ ¬ BarB C ow' b) →
      (∀ b, Bar C ow' b → Bar C ow b ∨ b ∈ o) → TIs C.K (Bar C ow') (BarB C ow') (wipe σ C.cv) H' t v o)
    (nd : o.Nodup) (src : ∀ a, a ∈ o → (∃ i, ρ.length + τ.length ≤ i ∧ a ∈ ow i) ∨ H a = none) (ot : ∀ a, a ∈ o → ∃ u, H' a = some u ∧ Chg u) : SS C σ H' ρ (vs ++ [v]) (τ ++ [t]) :=
  I.one' hτ hs v t o (fun ow' m1 m2 hb => rel ow' m1 m2 fun b z => (hb b z).imp Low.bar id) nd src ot
/-- a new list of data -/
theorem SI.newL (I : SI C σ H ρ (vs ++ xs) (τ ++ ts) ow) (hτ : τ.length = vs.length) {p : Addr} (hp : H p = none) {zs : List V} {ds : List D} (r : DIsL C.K (Bar C ow) H ds zs) : SS C σ (upd H p (.lst zs)) ρ (vs ++ [.ref p]) (τ ++ [.own ds]) :=
  I.one hτ (same_upd hp) _ _ [p] (fun ow' m1 m2 _ => .own upd_same (r.move m1)) (by simp) (fun a h => by simp at h; subst h; exact .inr hp) fun a h => by simp at h; subst h; exact ⟨_, upd_same, trivial⟩
theorem SI.newLB (I : SI C σ H ρ (vs ++ xs) (τ ++ ts) ow) (hτ : τ.length = vs.length) {p : Addr} (hp : H p = none) {zs : List V} {ds : List D} (r : DIsL C.K (BarB C ow) H ds zs) : SS C σ (upd H p (.lst zs)) ρ (vs ++ [.ref p]) (τ ++ [.lbo ds]) :=
  I.one hτ (same_upd hp) _ _ [p] (fun ow' m1 m2 _ => .lbo upd_same (r.move m2)) (by simp) (fun a h => by simp at h; subst h; exact .inr hp) fun a h => by simp at h; subst h; exact ⟨_, upd_same, trivial⟩
/-- a new tuple of data -/
theorem SI.newT (I : SI C σ H ρ (vs ++ xs) (τ ++ ts) ow) (hτ : τ.length = vs.length) {p : Addr} (hp : H p = none) {zs : List V} {ds : List D} (r : DIsL C.K (Bar C ow) H ds zs) : SS C σ (upd H p (.tup zs)) ρ (vs ++ [.ref p]) (τ ++ [.dat (.tuple ds)]) :=
  I.one hτ (same_upd hp) _ _ [] (fun ow' m1 m2 hb => .dat (.tuple (.inl ⟨.inl upd_same, fun z => (hb p z).elim (I.nbar hp) (by simp)⟩) (r.move m1))) (by simp) (fun a h => by simp at h) fun a h => by simp at h
theorem SI.nbarB (I : SI C σ H ρ vs τ ow) {b : Addr} (e : H b = none) : ¬ BarB C ow b := fun z => I.nbar e (.inl z)
theorem BarB.bar {ow : Nat → List Addr} {b : Addr} (h : BarB C ow b) : Bar C ow b := .inl h
theorem SI.newTB (I : SI C σ H ρ (vs ++ xs) (τ ++ ts) ow) (hτ : τ.length = vs.length) {p : Addr} (hp : H p = none) {zs : List V} {ds : List D} (r : DIsL C.K (BarB C ow) H ds zs) : SS C σ (upd H p (.tup zs)) ρ (vs ++ [.ref p]) (τ ++ [.bor (.tuple ds)]) :=
  I.one hτ (same_upd hp) _ _ [] (fun ow' m1 m2 hb => .bor (.tuple (.inl ⟨.inl upd_same, fun z => (hb p z.bar).elim (I.nbar hp) (by simp)⟩) (r.move m2))) (by simp) (fun a h => by simp at h) fun a h => by simp at h
/-- plain data instead of the temporaries on top -/
theorem SI.oneD (I : SI C σ H ρ (vs ++ xs) (τ ++ ts) ow) (hτ : τ.length = vs.length) {v : V} {d : D} (r : DIs C.K (Bar C ow) H d v) : SS C σ H ρ (vs ++ [v]) (τ ++ [.dat d]) :=
  I.one hτ (Same.refl H) _ _ [] (fun ow' m1 m2 hb => .dat (r.move m1)) (by simp) (fun a h => by simp at h) fun a h => by simp at h
theorem SI.oneB (I : SI C σ H ρ (vs ++ xs) (τ ++ ts) ow) (hτ : τ.length = vs.length) {v : V} {d : D} (r : DIs C.K (BarB C ow) H d v) : SS C σ H ρ (vs ++ [v]) (τ ++ [.bor d]) :=
  I.one hτ (Same.refl H) _ _ [] (fun ow' m1 m2 hb => .bor (r.move m2)) (by simp) (fun a h => by simp at h) fun a h => by simp at h
theorem SI.dispLK (I : SI C σ H ρ (vs ++ xs) (τ ++ ts) ow) (hτ : τ.length = vs.length) {p : Addr} (hp : H p = none) : SS C σ (upd H p (.lst xs)) ρ (vs ++ [.ref p]) (τ ++ [mkLK ts]) := by
  obtain ⟨os, r, n, s⟩ := I.gather hτ
  unfold mkLK
  cases e : datL ts with
  | some ds => exact I.newL hτ hp (datL_is r e)
  | none =>
    refine I.one hτ (same_upd hp) _ _ (p :: os) (fun ow' m1 m2 _ => .lst upd_same (r.move m1 m2 (fun b o hb e => same_upd hp b o e) (.inl rfl))) ?_ (fun a h => ?_) fun a h => ?_
    · refine List.nodup_cons.mpr ⟨fun z => ?_, n⟩
      obtain ⟨j, _, q⟩ := s p z
      obtain ⟨u, e2, _⟩ := I.ot j p q
      rw [hp] at e2; cases e2
    · rcases List.mem_cons.mp h with rfl | h
      · exact .inr hp
      · obtain ⟨j, hj, q⟩ := s a h
        exact .inl ⟨j, hj, q⟩
    · rcases List.mem_cons.mp h with rfl | h
      · exact ⟨_, upd_same, trivial⟩
      · obtain ⟨j, hj, q⟩ := s a h
        obtain ⟨u, e2, c⟩ := I.ot j a q
        exact ⟨u, same_upd hp _ _ e2, c⟩
theorem SI.dispTK (I : SI C σ H ρ (vs ++ xs) (τ ++ ts) ow) (hτ : τ.length = vs.length) {p : Addr} (hp : H p = none) : SS C σ (upd H p (.tup xs)) ρ (vs ++ [.ref p]) (τ ++ [mkTK ts]) := by
  obtain ⟨os, r, n, s⟩ := I.gather hτ
  unfold mkTK
  cases e : datL ts with
  | some ds => exact I.newT hτ hp (datL_is r e)
  | none =>
    have np : p ∉ os := fun z => by
      obtain ⟨j, _, q⟩ := s p z
      obtain ⟨u, e2, _⟩ := I.ot j p q
      rw [hp] at e2; cases e2
    refine I.one hτ (same_upd hp) _ _ os (fun ow' m1 m2 hb => .tup upd_same (fun z => (hb p z).elim (I.nbar hp) np) (r.move m1 m2 (fun b o hb e => same_upd hp b o e) (.inl rfl))) n (fun a h => ?_) fun a h => ?_
    · obtain ⟨j, hj, q⟩ := s a h
      exact .inl ⟨j, hj, q⟩
    · obtain ⟨j, hj, q⟩ := s a h
      obtain ⟨u, e2, c⟩ := I.ot j a q
      exact ⟨u, same_upd hp _ _ e2, c⟩

theorem SS.lenA (I : SS C σ H ρ (vs ++ xs) (τ ++ ts)) (h : ts.length = xs.length) : τ.length = vs.length := by
  obtain ⟨ow, J⟩ := I
  have := J.lt
  simp at this
  omega
end

/-! ### argument lists, displays -/
def dNil : DA := fun ρ Q => Q [] ρ
def dCons (fa : DE) (fr : DA) : DA := fun ρ Q => fa ρ fun x ρ1 => fr ρ1 fun xs ρ2 => Q (x :: xs) ρ2
section
variable {C : Ctx} {e : Expr} {es : List Expr} {fe : DE} {fs : DA} {pos : Pos}
theorem da_nil : DPA C [] dNil := ⟨_, pa_nil, fun σ H ρ vs τ Qd Q I h k => k [] H [] ρ (by simpa using I) rfl h⟩
theorem da_cons (ha : DPE C e fe) (hr : DPA C es fs) (hs : starEach (e :: es) C.X.env = (false, eval e C.X.env) :: starEach es C.X.env := by rfl) : DPA C (e :: es) (dCons fe fs) :=
  let ⟨_, pa, sa⟩ := ha.ex; let ⟨_, pr, sr⟩ := hr.ex
  ⟨_, pa_cons pa pr hs, fun σ H ρ vs τ Qd Q I h k => sa σ H ρ vs τ _ _ I h fun v H1 x ρ1 I1 q1 => sr σ H1 ρ1 _ _ _ _ I1 q1 fun xs H2 ts ρ2 I2 hl q2 =>
    k (v :: xs) H2 (x :: ts) ρ2 (by simpa using I2) (by simpa using hl) q2⟩
end

/-! ### a slot moved out, a slot frozen -/
mutual
/-- as data that may be kept -/
def frz : T → Option D
  | .dat d => some d
  | .bor d => match safe d with
    | true => some d
    | false => none
  | .own ds => some (.list ds)
  | .lst ts => (frzL ts).map .list
  | .tup ts => (frzL ts).map .tuple
  | .dct kvs => some (.dict (kvs.map fun p => (kD p.1, p.2)))
  | .lbo _ => none
  | .scr _ => none
  | .ali _ => none
  | .emp => none
def frzL : List T → Option (List D)
  | [] => some []
  | t :: ts => (frz t).bind fun d => (frzL ts).map fun ds => d :: ds
end
section
variable {K : PySem.W.Frag} {B B' Bb : Addr → Prop} {σ : St} {H : Hp}
mutual
theorem TIs.frz (ht : ∀ a xs, (H a = some (.tup xs) ∨ ∃ o, H a = some (.frz o (.tup xs))) → ¬ Bb a → ¬ B a) (h1 : ∀ b o, H b = some o → ¬ B b → ¬ B' b) : ∀ {t : T} {v : V} {os : List Addr} {d : D}, (∀ a ∈ os, ¬ B' a) → TIs K B Bb σ H t v os → Ds.frz t = some d → DIs K B' H d v
  | _, _, _, _, _, .dat h, e => by simp only [Ds.frz, Option.some.injEq] at e; subst e; exact h.move fun b o q n => ⟨q, h1 b o q n⟩
  | _, _, _, d, _, .bor (d := d') h, e => by
    unfold Ds.frz at e
    cases z : Ds.safe d' with
    | false => rw [z] at e; simp at e
    | true => rw [z] at e; simp at e; subst e; exact (h.safe ht z).move fun b o q n => ⟨q, h1 b o q n⟩
  | _, _, _, _, no, .own h t, e => by simp only [Ds.frz, Option.some.injEq] at e; subst e; exact .list h (no _ (by simp)) (t.move fun b o q n => ⟨q, h1 b o q n⟩)
  | _, _, _, _, no, .lst h t, e => by
    simp only [Ds.frz, Option.map_eq_some_iff] at e
    obtain ⟨ds, e1, rfl⟩ := e
    exact .list h (no _ (by simp)) (TIsL.frz ht h1 (fun a ha => no a (by simp [ha])) t e1)
  | _, _, _, _, no, .tup h n t, e => by
    simp only [Ds.frz, Option.map_eq_some_iff] at e
    obtain ⟨ds, e1, rfl⟩ := e
    exact .tuple (.inl ⟨.inl h, h1 _ _ h n⟩) (TIsL.frz ht h1 no t e1)
  | _, _, _, _, no, .dct h t q, e => by
    simp only [Ds.frz, Option.some.injEq] at e
    subst e; subst q
    exact .dict h (no _ (by simp)) (t.move fun b o q n => ⟨q, h1 b o q n⟩) (zip_kvs (by have := t.length; simpa using this))
  | _, _, _, _, _, .lbo _ _, e => by simp [Ds.frz] at e
  | _, _, _, _, _, .scr h, e => by simp [Ds.frz] at e
  | _, _, _, _, _, .ali h, e => by simp [Ds.frz] at e
theorem TIsL.frz (ht : ∀ a xs, (H a = some (.tup xs) ∨ ∃ o, H a = some (.frz o (.tup xs))) → ¬ Bb a → ¬ B a) (h1 : ∀ b o, H b = some o → ¬ B b → ¬ B' b) : ∀ {ts : List T} {vs : List V} {os : List Addr} {ds : List D}, (∀ a ∈ os, ¬ B' a) → TIsL K B Bb σ H ts vs os → Ds.frzL ts = some ds → DIsL K B' H ds vs
  | _, _, _, _, _, .nil, e => by simp only [Ds.frzL, Option.some.injEq] at e; subst e; exact .nil
  | _, _, _, _, no, .cons r t, e => by
    simp only [Ds.frzL, Option.bind_eq_some_iff, Option.map_eq_some_iff] at e
    obtain ⟨d, e1, ds, e2, rfl⟩ := e
    exact .cons (TIs.frz ht h1 (fun a ha => no a (by simp [ha])) r e1) (TIsL.frz ht h1 (fun a ha => no a (by simp [ha])) t e2)
end
end
theorem frzL_of_datL : ∀ {ts : List T} {ds : List D}, datL ts = some ds → frzL ts = some ds
  | [], _, e => by simp only [datL, Option.some.injEq] at e; subst e; rfl
  | t :: ts, _, e => by
    unfold datL at e
    cases t with
    | dat d =>
      simp only [Option.map_eq_some_iff] at e
      obtain ⟨ds, e1, rfl⟩ := e
      simp only [frzL, frz, frzL_of_datL e1, Option.bind_some, Option.map_some]
    | _ => simp at e
/-- a new list; what its items own is given up -/
def mkL (ts : List T) : T := match frzL ts with
  | some ds => .own ds
  | none => .lst ts
def mkT (ts : List T) : T := match frzL ts with
  | some ds => .dat (.tuple ds)
  | none => .tup ts
section
variable {C : Ctx} {σ : St} {H : Hp} {ρ : List T} {vs xs : List V} {τ ts : List T} {ow : Nat → List Addr}
theorem SI.tupOk0 (I : SI C σ H ρ vs τ ow) : ∀ a xs, (H a = some (.tup xs) ∨ ∃ o, H a = some (.frz o (.tup xs))) → ¬ BarB C ow a → ¬ Bar C ow a := fun a xs e n z => by
  rcases z with z | z
  · exact n z
  · obtain ⟨o, e2, c⟩ := I.ok.b0 a z
    have ha : a ∉ C.os0 := fun q => I.ok.ob a q z
    have := I.kp a o e2 ha
    rcases e with e | ⟨o2, e⟩
    · rw [e] at this; cases this; exact c
    · rw [e] at this; cases this; exact c
/-- the items as data, once what they own is given up -/
theorem SI.frzA (I : SI C σ H ρ (vs ++ xs) (τ ++ ts) ow) (hτ : τ.length = vs.length) {ds : List D} (e : frzL ts = some ds) {o : List Addr} (ho : ∀ a ∈ o, H a = none) {ow' : Nat → List Addr} (hb : ∀ b, Bar C ow' b → Low C ow (ρ.length + τ.length) b ∨ b ∈ o) : DIsL C.K (Bar C ow') H ds xs := by
  obtain ⟨os, r, n, s⟩ := I.gather hτ
  refine r.frz I.tupOk0 (fun b u eb nb z => ?_) (fun a ha z => ?_) e
  · rcases hb b z with q | q
    · exact nb q.bar
    · rw [ho b q] at eb; cases eb
  · obtain ⟨j, hj, q⟩ := s a ha
    rcases hb a z with (⟨k, hk, q2⟩ | q2) | q2
    · exact I.dj k j a (by omega) q2 q
    · exact I.nb0 q q2
    · obtain ⟨u, e2, _⟩ := I.ot j a q
      rw [ho a q2] at e2; cases e2
theorem SI.dispL (I : SI C σ H ρ (vs ++ xs) (τ ++ ts) ow) (hτ : τ.length = vs.length) {p : Addr} (hp : H p = none) : SS C σ (upd H p (.lst xs)) ρ (vs ++ [.ref p]) (τ ++ [mkL ts]) := by
  unfold mkL
  cases e : frzL ts with
  | some ds =>
    refine I.one' hτ (same_upd hp) _ _ [p] (fun ow' m1 m2 hb => .own upd_same ((I.frzA hτ e (o := [p]) (fun a ha => by simp at ha; rw [ha]; exact hp) hb).move fun b o eb nb => ⟨same_upd hp b o eb, nb⟩)) (by simp) (fun a h => by simp at h; subst h; exact .inr hp) fun a h => by simp at h; subst h; exact ⟨_, upd_same, trivial⟩
  | none =>
    have := I.dispLK hτ hp
    unfold mkLK at this
    cases e2 : datL ts with
    | none => rw [e2] at this; exact this
    | some ds => rw [frzL_of_datL e2] at e; cases e
theorem SI.dispT (I : SI C σ H ρ (vs ++ xs) (τ ++ ts) ow) (hτ : τ.length = vs.length) {p : Addr} (hp : H p = none) : SS C σ (upd H p (.tup xs)) ρ (vs ++ [.ref p]) (τ ++ [mkT ts]) := by
  unfold mkT
  cases e : frzL ts with
  | some ds =>
    refine I.one' hτ (same_upd hp) _ _ [] (fun ow' m1 m2 hb => .dat (.tuple (.inl ⟨.inl upd_same, fun z => (hb p z).elim (fun q => I.nbar hp q.bar) (by simp)⟩) ((I.frzA hτ e (o := []) (fun a ha => by simp at ha) hb).move fun b o eb nb => ⟨same_upd hp b o eb, nb⟩))) (by simp) (fun a h => by simp at h) fun a h => by simp at h
  | none =>
    have := I.dispTK hτ hp
    unfold mkTK at this
    cases e2 : datL ts with
    | none => rw [e2] at this; exact this
    | some ds => rw [frzL_of_datL e2] at e; cases e
end
section
variable {C : Ctx} {es : List Expr} {fs : DA} {pos : Pos}
def dLst (f : DA) : DE := fun ρ Q => f ρ fun ts ρ' => match small 1000 ts with
  | true => Q (mkL ts) ρ'
  | false => False
def dTup (f : DA) : DE := fun ρ Q => f ρ fun ts ρ' => match small 1000 ts with
  | true => Q (mkT ts) ρ'
  | false => False
theorem small_ok {ts : List T} {P : Prop} (h : match small 1000 ts with | true => P | false => False) : ts.length ≤ sizeLine ∧ P := by
  cases e : small 1000 ts with
  | false => rw [e] at h; exact h.elim
  | true => rw [e] at h; exact ⟨Nat.le_trans (small_le e) (by decide), h⟩
theorem de_lst (h : DPA C es fs) : DPE C (.List es pos) (dLst fs) :=
  let ⟨_, pa, sa⟩ := h.ex
  ⟨_, pe_lst pa, fun σ H ρ vs τ Qd Q I q k => sa σ H ρ vs τ _ _ I q fun xs H1 ts ρ1 I1 hl q1 => by
    obtain ⟨z, q1⟩ := small_ok q1
    refine ⟨by omega, fun p hp => ?_⟩
    obtain ⟨ow, J⟩ := id I1
    exact k _ _ _ _ (J.dispL (I1.lenA hl) hp) q1⟩
theorem de_tup {x1} (h : DPA C es fs) : DPE C (.Tuple es x1 pos) (dTup fs) :=
  let ⟨_, pa, sa⟩ := h.ex
  ⟨_, pe_tup pa, fun σ H ρ vs τ Qd Q I q k => sa σ H ρ vs τ _ _ I q fun xs H1 ts ρ1 I1 hl q1 => by
    obtain ⟨z, q1⟩ := small_ok q1
    refine ⟨by omega, fun p hp => ?_⟩
    obtain ⟨ow, J⟩ := id I1
    exact k _ _ _ _ (J.dispT (I1.lenA hl) hp) q1⟩
def dTupK (f : DA) : DE := fun ρ Q => f ρ fun ts ρ' => match small 1000 ts with
  | true => Q (mkTK ts) ρ'
  | false => False
theorem de_tupK {x1} (h : DPA C es fs) : DPE C (.Tuple es x1 pos) (dTupK fs) :=
  let ⟨_, pa, sa⟩ := h.ex
  ⟨_, pe_tup pa, fun σ H ρ vs τ Qd Q I q k => sa σ H ρ vs τ _ _ I q fun xs H1 ts ρ1 I1 hl q1 => by
    obtain ⟨z, q1⟩ := small_ok q1
    refine ⟨by omega, fun p hp => ?_⟩
    obtain ⟨ow, J⟩ := id I1
    exact k _ _ _ _ (J.dispTK (I1.lenA hl) hp) q1⟩
end
theorem noAliL_set : ∀ {ρ : List T} {i : Nat} {t : T}, noAliL ρ = true → noAli t = true → noAliL (ρ.set i t) = true
  | [], _, _, h, _ => h
  | _ :: _, 0, _, h, e => by simp [noAliL] at h ⊢; exact ⟨e, h.2⟩
  | _ :: _, i + 1, _, h, e => by simp [noAliL] at h ⊢; exact ⟨h.1, noAliL_set h.2 e⟩

section
variable {C : Ctx} {σ σ' : St} {H H' : Hp} {ρ ρ' : List T} {vs vs' xs ys : List V} {τ τ' ts us : List T} {ow : Nat → List Addr}
/-- slot i changed by the slot's own, and a temporary more; the heap as it is -/
theorem SI.slotPush (I : SI C σ H ρ vs τ ow) {i : Nat} {t t' x : T} {v : V} {oi on : List Addr} (ei : ρ[i]? = some t) (ev : σ[i]? = some (some v)) (na : noAli t' = true)
    (rel : ∀ ow' : Nat → List Addr, (∀ b o, H b = some o → ¬ Bar C ow b → H b = some o ∧ ¬ Bar C ow' b) → (∀ b o, H b = some o → ¬ BarB C ow b → H b = some o ∧ ¬ BarB C ow' b) → (∀ b, Bar C ow' b → b ∈ ow i → b ∈ oi ∨ b ∈ on) →
      (t' = .emp ∨ TIs C.K (Bar C ow') (BarB C ow') (wipe σ C.cv) H t' v oi) ∧ TIs C.K (Bar C ow') (BarB C ow') (wipe σ C.cv) H x v on)
    (n1 : oi.Nodup) (n2 : on.Nodup) (dj : ∀ a, a ∈ oi → a ∉ on) (s1 : ∀ a, a ∈ oi → a ∈ ow i) (s2 : ∀ a, a ∈ on → a ∈ ow i) : SS C σ H (ρ.set i t') (vs ++ [v]) (τ ++ [x]) := by
  have hi := (List.getElem?_eq_some_iff.mp ei).1
  let n := ρ.length + τ.length
  have hin : i ≠ n := by omega
  refine ⟨fun k => if k = i then oi else if k = n then on else if k < n then ow k else [], I.next (S := fun k => k = i ∨ n ≤ k) (by simp [I.ln]) (by simp [I.lt]) (noAliL_set I.na na) (fun k hk => ?_) (fun k u hk e => ?_) (by simp)
    (fun b o e _ => e) (fun b z => z) (fun k a hk h => ?_) (fun m1 m2 k u hk e => ?_) (fun k hk => ?_) (fun j k a hj hk hjk h => ?_) (fun k a hk h => ?_) (fun _ _ => rfl)⟩
  · have h1 : k ≠ i := fun z => hk (.inl z)
    have h2 : k < n := by by_cases z : k < n; exact z; exact absurd (.inr (by omega)) hk
    simp only [if_neg h1, if_neg (show k ≠ n by omega), if_pos h2]
  · have h1 : k ≠ i := fun z => hk (.inl z)
    have h2 : k < n := by by_cases z : k < n; exact z; exact absurd (.inr (by omega)) hk
    refine ⟨?_, ?_, .inl rfl⟩
    · rw [← List.append_assoc, List.getElem?_append_left (by simp; omega)] at e
      by_cases hk2 : k < ρ.length
      · rw [List.getElem?_append_left (by simpa using hk2), List.getElem?_set_ne (Ne.symm h1)] at e
        rw [List.getElem?_append_left hk2]; exact e
      · rw [List.getElem?_append_right (by simp; omega)] at e
        rw [List.getElem?_append_right (by omega)]
        simpa using e
    · rw [List.map_append, ← List.append_assoc, List.getElem?_append_left (by simp [← I.ln, ← I.lt]; omega)]
  · rcases hk with rfl | hk
    · simp only [if_true] at h
      exact .inl ⟨_, .inl rfl, s1 a h⟩
    · simp only [if_neg (show k ≠ i by omega)] at h
      by_cases z : k = n
      · simp only [z, if_true] at h
        exact .inl ⟨i, .inl rfl, s2 a h⟩
      · simp [if_neg z, show ¬ k < n by omega] at h
  · have R := rel _ m1 m2 fun b hb hbi => ?_
    rotate_left
    · rcases hb with ⟨k, hb⟩ | hb
      · by_cases z1 : k = i
        · simp only [z1, if_true] at hb; exact .inl hb
        · by_cases z2 : k = n
          · simp only [z2, if_neg (Ne.symm hin), if_true] at hb; exact .inr hb
          · simp only [if_neg z1, if_neg z2] at hb
            by_cases z3 : k < n
            · simp only [if_pos z3] at hb; exact absurd hb (I.dj i k b (Ne.symm z1) hbi)
            · simp [if_neg z3] at hb
      · exact absurd hb (I.nb0 hbi)
    rcases hk with rfl | hk
    · rw [List.getElem?_append_left (by simpa using hi), List.getElem?_set_self hi] at e
      cases e
      rcases R.1 with z | z
      · exact .inl ⟨z, by simpa using hi⟩
      · refine .inr ⟨v, ?_, ?_⟩
        · rw [List.getElem?_append_left (by rw [← I.ln]; exact hi)]; exact ev
        · simp only [if_true]; exact z
    · by_cases z : k = n
      · rw [z] at e ⊢
        rw [← List.append_assoc, List.getElem?_append_right (by simp; omega)] at e
        simp [n] at e
        subst e
        refine .inr ⟨v, ?_, ?_⟩
        · rw [List.map_append, ← List.append_assoc, List.getElem?_append_right (by simp [← I.ln, ← I.lt]; omega)]
          simp [← I.ln, ← I.lt, n]
        · simp only [if_neg (Ne.symm hin), if_true]; exact R.2
      · have : k < (ρ.set i t' ++ (τ ++ [x])).length := (List.getElem?_eq_some_iff.mp e).1
        simp at this
        omega
  · rcases hk with rfl | hk
    · simp only [if_true]; exact n1
    · simp only [if_neg (show k ≠ i by omega)]
      by_cases z : k = n
      · simp only [z, if_true]; exact n2
      · simp [if_neg z, show ¬ k < n by omega]
  · rcases hj with rfl | hj
    · simp only [if_true] at h
      simp only [if_neg (Ne.symm hjk)]
      by_cases z : k = n
      · simp only [z, if_true]; exact dj a h
      · have : n ≤ k := hk.resolve_left (Ne.symm hjk)
        simp [if_neg z, show ¬ k < n by omega]
    · simp only [if_neg (show j ≠ i by omega)] at h
      by_cases z : j = n
      · simp only [z, if_true] at h
        rcases hk with rfl | hk
        · simp only [if_true]; exact fun q => dj a q h
        · simp [show k ≠ i by omega, show k ≠ n by omega, show ¬ k < n by omega]
      · simp [if_neg z, show ¬ j < n by omega] at h
  · have : ∃ j, a ∈ ow j := by
      rcases hk with rfl | hk
      · simp only [if_true] at h; exact ⟨_, s1 a h⟩
      · simp only [if_neg (show k ≠ i by omega)] at h
        by_cases z : k = n
        · simp only [z, if_true] at h; exact ⟨i, s2 a h⟩
        · simp [if_neg z, show ¬ k < n by omega] at h
    obtain ⟨j, q⟩ := this
    exact I.ot j a q
end
/-- reading a slot, its list frozen for good -/
def dVarF (i : Nat) : DE := fun ρ Q => match ρ[i]? with
  | some (.dat d) => Q (.dat d) ρ
  | some (.bor d) => Q (.bor d) ρ
  | some .emp => False
  | none => False
  | some t => wD (frz t) fun d => Q (.dat d) (ρ.set i (.dat d))
/-- reading a slot, what it owns moved out -/
def dVarM (i : Nat) : DE := fun ρ Q => match ρ[i]? with
  | some .emp => False
  | none => False
  | some t => Q t (ρ.set i .emp)
section
variable {C : Ctx}
theorem sim_varF (i : Nat) : Sim C (tVar i) (dVarF i) := fun σ H ρ vs τ Qd Q I h k => by
  unfold dVarF at h
  obtain ⟨ow, J⟩ := id I
  cases e : ρ[i]? with
  | none => rw [e] at h; exact h.elim
  | some t =>
    rw [e] at h
    rcases J.slot e with rfl | ⟨v, hv, r⟩
    · exact h.elim
    · have go : wD (frz t) (fun d => Qd (.dat d) (ρ.set i (.dat d))) → tVar i σ H Q := fun h => by
        obtain ⟨d, e2, h⟩ := wD_some h
        refine ⟨v, hv, k v H _ _ (J.slotPush (t' := .dat d) (x := .dat d) (oi := []) (on := []) e hv rfl (fun ow' m1 m2 hb => ?_) (by simp) (by simp) (fun a z => by simp at z) (fun a z => by simp at z) fun a z => by simp at z) h⟩
        have q : DIs C.K (Bar C ow') H d v := r.frz J.tupOk (fun b o q n => (m1 b o q n).2) (fun a ha z => by rcases hb a z ha with w | w <;> simp at w) e2
        exact ⟨.inr (.dat q), .dat q⟩
      have at_ : ∀ {t : T} {d : D}, ρ[i]? = some t → t = .dat d → Qd (.dat d) ρ → tVar i σ H Q := fun {t d} et ed h => ⟨v, hv, k v H _ ρ (I.push0 fun ow' J' => by
          rcases J'.slot et with z | ⟨w, hw, r⟩
          · rw [ed] at z; cases z
          · rw [hv] at hw; cases hw
            rw [ed] at r
            exact .dat r.dat_inv) h⟩
      cases t with
      | dat d => exact at_ e rfl h
      | bor d => exact ⟨v, hv, k v H _ ρ (I.push0 fun ow' J' => by
          rcases J'.slot e with z | ⟨w, hw, r⟩
          · cases z
          · rw [hv] at hw; cases hw
            exact .bor r.bor_inv) h⟩
      | emp => exact h.elim
      | own _ => exact go h
      | lbo _ => exact go h
      | lst _ => exact go h
      | tup _ => exact go h
      | dct _ => exact go h
      | scr _ => exact go h
      | ali _ => exact go h
theorem sim_varM (i : Nat) : Sim C (tVar i) (dVarM i) := fun σ H ρ vs τ Qd Q I h k => by
  unfold dVarM at h
  obtain ⟨ow, J⟩ := id I
  cases e : ρ[i]? with
  | none => rw [e] at h; exact h.elim
  | some t =>
    rw [e] at h
    rcases J.slot e with rfl | ⟨v, hv, r⟩
    · exact h.elim
    · have go : Qd t (ρ.set i .emp) → tVar i σ H Q := fun h => by
        refine ⟨v, hv, k v H _ _ (J.slotPush (t' := .emp) (x := t) (oi := []) (on := ow i) e hv rfl (fun ow' m1 m2 hb => ⟨.inl rfl, r.move m1 m2 (fun _ _ _ q => q) (.inl rfl)⟩) (by simp) (J.nd i) (fun a z => by simp at z) (fun a z => by simp at z) fun a z => z) h⟩
      cases t <;> first | exact h.elim | exact go h
variable {x : Str} {pos : Pos}
theorem de_varF (i : Nat) (hN : C.X.N[i]? = some x := by rfl) (hv : Vis C.X.env.scope x := by first | exact Or.inl rfl | exact Or.inr (Or.inl rfl) | exact Or.inr (Or.inr rfl)) (hd : (x == ("__debug__" : Str)) = false := by decide)
    (hcd : (x == ("__classdict__" : Str)) = false := by decide) : DPE C (.Name x pos) (dVarF i) := ⟨_, pe_var hN hv hd hcd, sim_varF i⟩
theorem de_varM (i : Nat) (hN : C.X.N[i]? = some x := by rfl) (hv : Vis C.X.env.scope x := by first | exact Or.inl rfl | exact Or.inr (Or.inl rfl) | exact Or.inr (Or.inr rfl)) (hd : (x == ("__debug__" : Str)) = false := by decide)
    (hcd : (x == ("__classdict__" : Str)) = false := by decide) : DPE C (.Name x pos) (dVarM i) := ⟨_, pe_var hN hv hd hcd, sim_varM i⟩
end
end Ds
namespace Ds
open PySem L2

/-- through an alias -/
def dr (ρ : List T) : T → T
  | .ali i => (ρ[i]?).getD .emp
  | t => t
section
variable {C : Ctx} {σ : St} {H H' : Hp} {ρ ρ' : List T} {vs xs : List V} {τ ts : List T} {ow : Nat → List Addr} {x y : T} {u v : V}
theorem SI.dr (I : SI C σ H ρ vs τ ow) {j : Nat} (e : τ[j]? = some x) (ev : vs[j]? = some v) : dr ρ x = .emp ∨ ∃ os, TIs C.K (Bar C ow) (BarB C ow) (wipe σ C.cv) H (dr ρ x) v os := by
  obtain ⟨w, hw, r⟩ := I.temp e
  rw [ev] at hw; cases hw
  generalize ow (ρ.length + j) = os at r
  cases r with
  | ali h =>
    rename_i i
    have ed : Ds.dr ρ (.ali i) = (ρ[i]?).getD .emp := rfl
    rw [ed]
    cases e2 : ρ[i]? with
    | none => exact .inl rfl
    | some t =>
      rcases I.slot e2 with rfl | ⟨w, hw, r⟩
      · exact .inl rfl
      · rw [(wipe_some h).1] at hw; cases hw
        exact .inr ⟨_, r⟩
  | dat h => exact .inr ⟨_, .dat h⟩
  | bor h => exact .inr ⟨_, .bor h⟩
  | own h t => exact .inr ⟨_, .own h t⟩
  | lbo h t => exact .inr ⟨_, .lbo h t⟩
  | lst h t => exact .inr ⟨_, .lst h t⟩
  | tup h n t => exact .inr ⟨_, .tup h n t⟩
  | dct h t q => exact .inr ⟨_, .dct h t q⟩
  | scr h => exact .inr ⟨_, .scr h⟩
theorem SI.dr1 (I : SI C σ H ρ (vs ++ [v]) (τ ++ [x]) ow) : Ds.dr ρ x = .emp ∨ ∃ os, TIs C.K (Bar C ow) (BarB C ow) (wipe σ C.cv) H (Ds.dr ρ x) v os := I.dr (j := τ.length) (by simp) (by rw [I.lt1]; simp)
theorem SI.dr2 (I : SI C σ H ρ (vs ++ [u] ++ [v]) (τ ++ [x] ++ [y]) ow) : Ds.dr ρ x = .emp ∨ ∃ os, TIs C.K (Bar C ow) (BarB C ow) (wipe σ C.cv) H (Ds.dr ρ x) u os := by
  have h := I.lt1
  simp at h
  exact I.dr (j := τ.length) (by simp) (by rw [h]; simp)

/-- the items of a list whose items may be kept -/
def wL (t : T) (k : List D → Prop) : Prop := match t with
  | .own ds => k ds
  | .dat (.list ds) => k ds
  | .bor (.list ds) => safeL ds = true ∧ k ds
  | .lbo ds => safeL ds = true ∧ k ds
  | .lst ts => wO (datL ts) k
  | _ => False
theorem SI.wL (I : SI C σ H ρ vs τ ow) {t : T} {os : List Addr} {k : List D → Prop} (r : TIs C.K (Bar C ow) (BarB C ow) (wipe σ C.cv) H t v os) (h : Ds.wL t k) : ∃ l xs ds, v = .ref l ∧ H l = some (.lst xs) ∧ DIsL C.K (Bar C ow) H ds xs ∧ k ds := by
  cases r with
  | own e t => exact ⟨_, _, _, rfl, e, t, h⟩
  | lbo e t => exact ⟨_, _, _, rfl, e, I.safeL t h.1, h.2⟩
  | lst e t =>
    obtain ⟨ds, e2, h⟩ := wO_some h
    exact ⟨_, _, _, rfl, e, datL_is t e2, h⟩
  | dat d =>
    cases d with
    | list e n t => exact ⟨_, _, _, rfl, e, t, h⟩
    | _ => exact h.elim
  | bor d =>
    cases d with
    | list e n t => exact ⟨_, _, _, rfl, e, I.safeL t h.1, h.2⟩
    | _ => exact h.elim
  | _ => exact h.elim
def wT (t : T) (k : List D → Prop) : Prop := match t with
  | .dat (.tuple ds) => k ds
  | .bor (.tuple ds) => safeL ds = true ∧ k ds
  | .tup ts => wO (datL ts) k
  | _ => False
theorem SI.wT (I : SI C σ H ρ vs τ ow) {t : T} {os : List Addr} {k : List D → Prop} (r : TIs C.K (Bar C ow) (BarB C ow) (wipe σ C.cv) H t v os) (h : Ds.wT t k) : ∃ l xs ds, v = .ref l ∧ TB C.K (Bar C ow) H l xs ∧ DIsL C.K (Bar C ow) H ds xs ∧ k ds := by
  cases r with
  | tup e n t =>
    obtain ⟨ds, e2, h⟩ := wO_some h
    exact ⟨_, _, _, rfl, .inl ⟨.inl e, n⟩, datL_is t e2, h⟩
  | dat d =>
    cases d with
    | tuple e t => exact ⟨_, _, _, rfl, e, t, h⟩
    | _ => exact h.elim
  | bor d =>
    cases d with
    | tuple e t =>
      refine ⟨_, _, _, rfl, ?_, I.safeL t h.1, h.2⟩
      rcases e with ⟨r, n⟩ | k
      · exact .inl ⟨r, I.tupOk _ _ r n⟩
      · exact .inr k
    | _ => exact h.elim
  | _ => exact h.elim
theorem wL_emp {k : List D → Prop} (h : Ds.wL .emp k) : False := h
theorem wT_emp {k : List D → Prop} (h : Ds.wT .emp k) : False := h
end

section
variable {C : Ctx} {a b : Expr} {fa fb : DE} {pos : Pos}
/-- a + b -/
def dAdd : DO2 := fun ρ x y Q => match lk ρ x, lk ρ y with
  | some (.int i), some (.int j) => Q (.dat (.int (i + j))) ρ
  | some (.str i), some (.str j) => i.length + j.length ≤ sizeLine ∧ Q (.dat (.str (i ++ j))) ρ
  | some (.list _), some (.list _) => wL (dr ρ x) fun ds => wL (dr ρ y) fun es => ds.length + es.length ≤ sizeLine ∧ Q (.own (ds ++ es)) ρ
  | some (.tuple _), some (.tuple _) => wT (dr ρ x) fun ds => wT (dr ρ y) fun es => ds.length + es.length ≤ sizeLine ∧ Q (.dat (.tuple (ds ++ es))) ρ
  | _, _ => False
theorem DIsL.nil_inv {K : PySem.W.Frag} {B : Addr → Prop} {H : Hp} {ds : List D} (h : DIsL K B H ds []) : ds = [] := by cases h; rfl
theorem op_addAll : OpR C.X (binaryOp .Add) (fun x y H Q => (∃ i j, x = .int i ∧ y = .int j ∧ Q (.int (i + j)) H) ∨ (∃ i j, x = .str i ∧ y = .str j ∧ i.length + j.length ≤ sizeLine ∧ Q (.str (i ++ j)) H) ∨ rCat x y H Q ∨ rCatA C.X.K x y H Q) :=
  OpR.or op_add (OpR.or op_add_str (OpR.or op_cat op_catA))
theorem de_add (ha : DPE C a fa) (hb : DPE C b fb) : DPE C (.BinOp a .Add b pos) (dOp dAdd fa fb) :=
  de_op op_addAll (by
    intro σ H ρ vs τ u v x y Qd Q I q k
    unfold dAdd at q
    cases e1 : lk ρ x with
    | none => rw [e1] at q; exact q.elim
    | some d =>
      cases e2 : lk ρ y with
      | none => rw [e1, e2] at q; cases d <;> exact q.elim
      | some e =>
        rw [e1, e2] at q
        have du := I.lk2 e1
        have ev := I.lk1 e2
        obtain ⟨ow, J⟩ := id I
        have hτ : τ.length = vs.length := by have := J.lt; simp at this; omega
        have J' : SI C σ H ρ (vs ++ [u, v]) (τ ++ [x, y]) ow := by simpa using J
        cases d <;> cases e <;> first | exact q.elim | skip
        · rw [du.int_eq, ev.int_eq]
          exact .inl ⟨_, _, rfl, rfl, k _ _ _ _ (I.pop2.int _) q⟩
        · rw [du.str_eq, ev.str_eq]
          exact .inr (.inl ⟨_, _, rfl, rfl, q.1, k _ _ _ _ (I.pop2.str _) q.2⟩)
        · rcases J.dr2 with z | ⟨o1, r1⟩
          · rw [z] at q; exact q.elim
          · rcases J.dr1 with z | ⟨o2, r2⟩
            · obtain ⟨_, _, _, _, _, _, q⟩ := J.wL r1 q
              rw [z] at q; exact q.elim
            · obtain ⟨l, zs, ds, rfl, hl, d1, q⟩ := J.wL r1 q
              obtain ⟨l2, zs2, es, rfl, hl2, d2, q⟩ := J.wL r2 q
              refine .inr (.inr (.inl ⟨l, l2, zs, zs2, rfl, rfl, hl, hl2, by rw [← d1.length, ← d2.length]; exact q.1, fun p hp => ?_⟩))
              exact k _ _ _ _ (J'.newL hτ hp (d1.append d2)) q.2
        · rcases J.dr2 with z | ⟨o1, r1⟩
          · rw [z] at q; exact q.elim
          · rcases J.dr1 with z | ⟨o2, r2⟩
            · obtain ⟨_, _, _, _, _, _, q⟩ := J.wT r1 q
              rw [z] at q; exact q.elim
            · obtain ⟨l, zs, ds, rfl, hl, d1, q⟩ := J.wT r1 q
              obtain ⟨l2, zs2, es, rfl, hl2, d2, q⟩ := J.wT r2 q
              refine .inr (.inr (.inr ⟨l, l2, zs, zs2, rfl, rfl, hl.sq, hl2.sq, by rw [← d1.length, ← d2.length]; exact q.1, fun z => ?_, fun z1 z2 => ?_, fun z1 z2 p hp => ?_⟩))
              · subst z
                refine k _ _ _ _ (J'.oneD hτ (d := .tuple (ds ++ es)) ?_) q.2
                rw [d1.nil_inv]; exact .tuple hl2 d2
              · subst z2
                refine k _ _ _ _ (J'.oneD hτ (d := .tuple (ds ++ es)) ?_) q.2
                rw [d2.nil_inv, List.append_nil]; exact .tuple hl d1
              · exact k _ _ _ _ (J'.newT hτ hp (d1.append d2)) q.2) ha hb

/-- a * b: ints; a list, a tuple times an int -/
def dMul : DO2 := fun ρ x y Q => match lk ρ x, lk ρ y with
  | some (.int i), some (.int j) => CMulW i j ∧ Q (.dat (.int (i * j))) ρ
  | some (.list _), some (.int k) => wL (dr ρ x) fun ds => (-(2 ^ 63) ≤ k ∧ k < 2 ^ 63 ∧ ds.length * k.toNat ≤ sizeLine) ∧ Q (.own (List.replicate k.toNat ds).flatten) ρ
  | some (.tuple _), some (.int k) => wT (dr ρ x) fun ds => (ds ≠ [] ∧ 2 ≤ k ∧ k ≤ 1000 ∧ ds.length ≤ 1000) ∧ Q (.dat (.tuple (List.replicate k.toNat ds).flatten)) ρ
  | _, _ => False
theorem DIsL.rep {K : PySem.W.Frag} {B : Addr → Prop} {H : Hp} {ds : List D} {vs : List V} (h : DIsL K B H ds vs) : ∀ k : Nat, DIsL K B H (List.replicate k ds).flatten (List.replicate k vs).flatten
  | 0 => .nil
  | k + 1 => by
    rw [List.replicate_succ, List.replicate_succ, List.flatten_cons, List.flatten_cons]
    exact h.append (h.rep k)
theorem op_mulAll : OpR C.X (binaryOp .Mult) (fun x y H Q => rI CMulW (fun i j => .int (i * j)) x y H Q ∨ rRep x y H Q ∨ rRepT C.X.K x y H Q) := OpR.or op_mulW (OpR.or op_rep op_repT)
theorem de_mul (ha : DPE C a fa) (hb : DPE C b fb) : DPE C (.BinOp a .Mult b pos) (dOp dMul fa fb) :=
  de_op op_mulAll (by
    intro σ H ρ vs τ u v x y Qd Q I q k
    unfold dMul at q
    cases e1 : lk ρ x with
    | none => rw [e1] at q; exact q.elim
    | some d =>
      cases e2 : lk ρ y with
      | none => rw [e1, e2] at q; cases d <;> exact q.elim
      | some e =>
        rw [e1, e2] at q
        have du := I.lk2 e1
        have ev := I.lk1 e2
        obtain ⟨ow, J⟩ := id I
        have hτ : τ.length = vs.length := by have := J.lt; simp at this; omega
        have J' : SI C σ H ρ (vs ++ [u, v]) (τ ++ [x, y]) ow := by simpa using J
        cases d <;> cases e <;> first | exact q.elim | skip
        · rw [du.int_eq, ev.int_eq]
          exact .inl ⟨_, _, rfl, rfl, q.1, k _ _ _ _ (I.pop2.int _) q.2⟩
        · rcases J.dr2 with z | ⟨o1, r1⟩
          · rw [z] at q; exact q.elim
          · obtain ⟨l, zs, ds, rfl, hl, d1, q⟩ := J.wL r1 q
            rw [ev.int_eq]
            refine .inr (.inl ⟨l, _, zs, rfl, rfl, hl, q.1.1, q.1.2.1, by rw [← d1.length]; exact q.1.2.2, fun p hp => ?_⟩)
            exact k _ _ _ _ (J'.newL hτ hp (d1.rep _)) q.2
        · rcases J.dr2 with z | ⟨o1, r1⟩
          · rw [z] at q; exact q.elim
          · obtain ⟨l, zs, ds, rfl, hl, d1, q⟩ := J.wT r1 q
            rw [ev.int_eq]
            refine .inr (.inr ⟨l, _, zs, rfl, rfl, hl.sq, fun z => q.1.1 ?_, q.1.2.1, q.1.2.2.1, by rw [← d1.length]; exact q.1.2.2.2, fun p hp => ?_⟩)
            · subst z; exact d1.nil_inv
            · exact k _ _ _ _ (J'.newT hτ hp (d1.rep _)) q.2) ha hb

/-! ### a[i] -/
theorem atI_getD {K : PySem.W.Frag} {B : Addr → Prop} {H : Hp} {ds : List D} {zs : List V} {i : Int} {d : D} (h : DIsL K B H ds zs) (e : atI ds i = some d) : ∃ v, atI zs i = some v ∧ DIs K B H d v := by
  unfold atI at e ⊢
  rw [h.length] at e
  cases e2 : ixN zs.length i with
  | none => rw [e2] at e; simp at e
  | some j =>
    rw [e2] at e
    exact h.get e
theorem TIsL.getX {K : PySem.W.Frag} {B Bb : Addr → Prop} {σ : St} {H : Hp} : ∀ {ts : List T} {vs : List V} {os : List Addr} {j : Nat} {t : T}, TIsL K B Bb σ H ts vs os → ts[j]? = some t → ∃ v o, vs[j]? = some v ∧ TIs K B Bb σ H t v o
  | _, _, _, _, _, .nil, e => by simp at e
  | _, _, _, 0, _, .cons r _, e => by simp at e; subst e; exact ⟨_, _, rfl, r⟩
  | _, _, _, j + 1, _, .cons _ t, e => by
    obtain ⟨v, o, h1, h2⟩ := TIsL.getX (j := j) t (by simpa using e)
    exact ⟨v, o, by simpa using h1, h2⟩
theorem atI_getT {K : PySem.W.Frag} {B Bb : Addr → Prop} {σ : St} {H : Hp} {ts : List T} {zs : List V} {os : List Addr} {i : Int} {t : T} (h : TIsL K B Bb σ H ts zs os) (e : atI ts i = some t) : ∃ v o, atI zs i = some v ∧ TIs K B Bb σ H t v o := by
  unfold atI at e ⊢
  rw [h.length] at e
  cases e2 : ixN zs.length i with
  | none => rw [e2] at e; simp at e
  | some j =>
    rw [e2] at e
    exact h.getX e
def wI : Option D → (Int → Prop) → Prop
  | some (.int i), k => k i
  | _, _ => False
theorem wI_some {o : Option D} {k : Int → Prop} (h : wI o k) : ∃ i, o = some (.int i) ∧ k i := by
  unfold wI at h
  split at h
  · exact ⟨_, rfl, h⟩
  · exact h.elim
/-- an item that is data, or borrowed -/
def kT (t : T) (k : T → Prop) : Prop := match t with
  | .dat d => k (.dat d)
  | .bor d => k (.bor d)
  | _ => False
/-- an item by its place, from the end where the place is negative; it computes -/
def gI {α : Type} (l : List α) : Int → Option α
  | .ofNat k => l[k]?
  | .negSucc k => l.reverse[k]?
theorem gI_at {α : Type} (l : List α) (i : Int) : gI l i = atI l i := by
  cases i with
  | ofNat k =>
    show l[k]? = _
    unfold atI ixN
    rw [if_pos (by simp)]
    by_cases h : k < l.length
    · rw [if_pos (by simpa using h)]; rfl
    · rw [if_neg (by simpa using h), List.getElem?_eq_none (by omega)]; rfl
  | negSucc k =>
    show l.reverse[k]? = _
    unfold atI ixN
    rw [if_neg (by omega)]
    by_cases h : k < l.length
    · rw [if_pos (by omega), List.getElem?_reverse h]
      show _ = l[(Int.negSucc k + (l.length : Int)).toNat]?
      congr 1
      omega
    · rw [if_neg (by omega), List.getElem?_eq_none (by simpa using h)]; rfl
def dIx : DO2 := fun ρ x y Q => wI (lk ρ y) fun i => match dr ρ x with
  | .dat (.list ds) => wO (gI ds i) fun d => Q (.dat d) ρ
  | .dat (.tuple ds) => wO (gI ds i) fun d => Q (.dat d) ρ
  | .own ds => wO (gI ds i) fun d => Q (.dat d) ρ
  | .bor (.list ds) => wO (gI ds i) fun d => Q (.bor d) ρ
  | .bor (.tuple ds) => wO (gI ds i) fun d => Q (.bor d) ρ
  | .lbo ds => wO (gI ds i) fun d => Q (.bor d) ρ
  | .lst ts => wO (gI ts i) fun t => kT t fun t => Q t ρ
  | .tup ts => wO (gI ts i) fun t => kT t fun t => Q t ρ
  | .dat (.str z) => z.length ≤ sizeLine ∧ wO (gI z.cps.toList i) fun c => Q (.dat (.str ⟨#[c]⟩)) ρ
  | .bor (.str z) => z.length ≤ sizeLine ∧ wO (gI z.cps.toList i) fun c => Q (.dat (.str ⟨#[c]⟩)) ρ
  | _ => False
theorem sim_ix : SimR2 C (rIx C.K) dIx := by
  intro σ H ρ vs τ u v x y Qd Q I q k
  unfold dIx at q
  simp only [gI_at] at q
  obtain ⟨i, e2, q⟩ := wI_some q
  have ev := I.lk1 e2
  rw [ev.int_eq]
  obtain ⟨ow, J⟩ := id I
  have hτ : τ.length = vs.length := by have := J.lt; simp at this; omega
  have J' : SI C σ H ρ (vs ++ [u, v]) (τ ++ [x, y]) ow := by simpa using J
  have kk : ∀ {t : T} {w : V} {o : List Addr}, TIs C.K (Bar C ow) (BarB C ow) (wipe σ C.cv) H t w o → kT t (fun t => Qd t ρ) → Q w H := fun {t w o} r h => by
    cases r with
    | dat d => exact k _ _ _ _ (J'.oneD hτ d) h
    | bor d => exact k _ _ _ _ (J'.oneB hτ d) h
    | _ => exact h.elim
  rcases J.dr2 with z | ⟨os, r⟩
  · rw [z] at q; exact q.elim
  · generalize Ds.dr ρ x = t at q r
    cases r with
    | dat d =>
      cases d with
      | list e n t =>
        obtain ⟨d, ed, q⟩ := wO_some q
        obtain ⟨w, hw, dw⟩ := atI_getD t ed
        exact .inl ⟨_, _, _, w, rfl, rfl, .of e, hw, k _ _ _ _ (J'.oneD hτ dw) q⟩
      | tuple e t =>
        obtain ⟨d, ed, q⟩ := wO_some q
        obtain ⟨w, hw, dw⟩ := atI_getD t ed
        exact .inr (.inl ⟨_, _, _, w, rfl, rfl, e.sq, hw, k _ _ _ _ (J'.oneD hτ dw) q⟩)
      | str z =>
        obtain ⟨hz, q⟩ := q
        obtain ⟨c, ec, q⟩ := wO_some q
        exact .inr (.inr ⟨z, _, c, rfl, rfl, hz, ec, k _ _ _ _ (I.pop2.str _) q⟩)
      | _ => exact q.elim
    | bor d =>
      cases d with
      | list e n t =>
        obtain ⟨d, ed, q⟩ := wO_some q
        obtain ⟨w, hw, dw⟩ := atI_getD t ed
        exact .inl ⟨_, _, _, w, rfl, rfl, .of e, hw, k _ _ _ _ (J'.oneB hτ dw) q⟩
      | tuple e t =>
        obtain ⟨d, ed, q⟩ := wO_some q
        obtain ⟨w, hw, dw⟩ := atI_getD t ed
        exact .inr (.inl ⟨_, _, _, w, rfl, rfl, e.sq, hw, k _ _ _ _ (J'.oneB hτ dw) q⟩)
      | str z =>
        obtain ⟨hz, q⟩ := q
        obtain ⟨c, ec, q⟩ := wO_some q
        exact .inr (.inr ⟨z, _, c, rfl, rfl, hz, ec, k _ _ _ _ (I.pop2.str _) q⟩)
      | _ => exact q.elim
    | own e t =>
      obtain ⟨d, ed, q⟩ := wO_some q
      obtain ⟨w, hw, dw⟩ := atI_getD t ed
      exact .inl ⟨_, _, _, w, rfl, rfl, .of e, hw, k _ _ _ _ (J'.oneD hτ dw) q⟩
    | lbo e t =>
      obtain ⟨d, ed, q⟩ := wO_some q
      obtain ⟨w, hw, dw⟩ := atI_getD t ed
      exact .inl ⟨_, _, _, w, rfl, rfl, .of e, hw, k _ _ _ _ (J'.oneB hτ dw) q⟩
    | lst e t =>
      obtain ⟨d, ed, q⟩ := wO_some q
      obtain ⟨w, o, hw, dw⟩ := atI_getT t ed
      exact .inl ⟨_, _, _, w, rfl, rfl, .of e, hw, kk dw q⟩
    | tup e n t =>
      obtain ⟨d, ed, q⟩ := wO_some q
      obtain ⟨w, o, hw, dw⟩ := atI_getT t ed
      exact .inr (.inl ⟨_, _, _, w, rfl, rfl, .of e, hw, kk dw q⟩)
    | _ => exact q.elim
theorem de_ix (ha : DPE C a fa) (hb : DPE C b fb) (hs : PlainIx b := by exact fun _ _ => rfl) : DPE C (.Subscript a b pos) (dOp dIx fa fb) :=
  let ⟨_, pa, sa⟩ := ha.ex; let ⟨_, pb, sb⟩ := hb.ex; ⟨_, pe_ix ix_seq pa pb hs, sim_op sim_ix sa sb⟩

/-! ### a[i:j] -/
def cut {α : Type} (xs : List α) (lo hi : Option Int) : List α := (xs.drop (HT.sIx xs.length 0 lo)).take (HT.sIx xs.length xs.length hi - HT.sIx xs.length 0 lo)
theorem DIsL.cut {K : PySem.W.Frag} {B : Addr → Prop} {H : Hp} {ds : List D} {vs : List V} (h : DIsL K B H ds vs) (lo hi : Option Int) : DIsL K B H (Ds.cut ds lo hi) (cutV vs lo hi) := by
  unfold Ds.cut cutV
  rw [h.length]
  exact (h.drop _).take _
theorem cut_map (ns : List Int) (lo hi : Option Int) : cutV (ns.map V.int) lo hi = (cut ns lo hi).map V.int := by
  unfold cut cutV
  simp
theorem ints_is {K : PySem.W.Frag} {B : Addr → Prop} {H : Hp} : ∀ {ns : List Int}, DIsL K B H (ns.map PyData.int) (ns.map V.int)
  | [] => .nil
  | _ :: _ => .cons (.int _) ints_is
abbrev DOp := List T → (Option Int → List T → Prop) → Prop
def SimO (C : Ctx) (t : TO) (f : DOp) : Prop := ∀ (σ : St) (H : Hp) (ρ : List T) (vs : List V) (τ : List T) (Qd : Option Int → List T → Prop) (Q : Option Int → Hp → Prop), SS C σ H ρ vs τ → f ρ Qd →
  (∀ o H' ρ', SS C σ H' ρ' vs τ → Qd o ρ' → Q o H') → t σ H Q
structure DPO (C : Ctx) (e : Option Expr) (f : DOp) : Prop where
  ex : ∃ t, PO C.X e t ∧ SimO C t f
def dNoPart : DOp := fun ρ Q => Q none ρ
def dPart (f : DE) : DOp := fun ρ Q => f ρ fun x ρ1 => wI (lk ρ1 x) fun i => Q (some i) ρ1
theorem do_none : DPO C none dNoPart := ⟨_, po_none, fun σ H ρ vs τ Qd Q I h k => k _ _ _ I h⟩
theorem do_some {e : Expr} {f : DE} (h : DPE C e f) : DPO C (some e) (dPart f) :=
  let ⟨_, p, s⟩ := h.ex
  ⟨_, po_some p, fun σ H ρ vs τ Qd Q I q k => s σ H ρ vs τ _ _ I q fun v H1 x ρ1 I1 q1 => by
    obtain ⟨i, e1, q1⟩ := wI_some q1
    exact ⟨i, (I1.lk1 e1).int_eq, k _ _ _ I1.pop q1⟩⟩
def dSl (fa : DE) (fl fh : DOp) : DE := fun ρ Q => fa ρ fun x ρ1 => fl ρ1 fun lo ρ2 => fh ρ2 fun hi ρ3 => match dr ρ3 x with
  | .own ds => Q (.own (cut ds lo hi)) ρ3
  | .dat (.list ds) => Q (.own (cut ds lo hi)) ρ3
  | .bor (.list ds) => Q (.lbo (cut ds lo hi)) ρ3
  | .lbo ds => Q (.lbo (cut ds lo hi)) ρ3
  | .lst ts => wO (datL ts) fun ds => Q (.own (cut ds lo hi)) ρ3
  | .dat (.tuple ds) => Q (.dat (.tuple (cut ds lo hi))) ρ3
  | .bor (.tuple ds) => Q (.bor (.tuple (cut ds lo hi))) ρ3
  | .scr ns => Q (.own ((cut ns lo hi).map .int)) ρ3
  | .dat (.str z) => z.length ≤ sizeLine ∧ Q (.dat (.str (cutS z lo hi))) ρ3
  | .bor (.str z) => z.length ≤ sizeLine ∧ Q (.dat (.str (cutS z lo hi))) ρ3
  | _ => False
theorem cut_whole {α : Type} {xs : List α} {lo hi : Option Int} (h : HT.sIx xs.length 0 lo = 0 ∧ HT.sIx xs.length xs.length hi = xs.length) : cut xs lo hi = xs := by
  unfold cut
  rw [h.1, h.2]; simp
theorem de_slice {lo hi : Option Expr} {fl fh : DOp} {p2 : Pos} (ha : DPE C a fa) (hl : DPO C lo fl) (hh : DPO C hi fh) : DPE C (.Subscript a (.Slice lo hi none p2) pos) (dSl fa fl fh) :=
  let ⟨_, pa, sa⟩ := ha.ex; let ⟨_, pl, sl⟩ := hl.ex; let ⟨_, ph, sh⟩ := hh.ex
  ⟨_, pe_slice (sl_list.or (sl_tupA.or sl_str)) pa pl ph, fun σ H ρ vs τ Qd Q I q k => sa σ H ρ vs τ _ _ I q fun v H1 x ρ1 I1 q1 => sl σ H1 ρ1 _ _ _ _ I1 q1 fun l H2 ρ2 I2 q2 => sh σ H2 ρ2 _ _ _ _ I2 q2 fun h H3 ρ3 I3 q3 => by
    obtain ⟨ow, J⟩ := id I3
    rcases J.dr1 with z | ⟨os, r⟩
    · rw [z] at q3; exact q3.elim
    · generalize Ds.dr ρ3 x = t at q3 r
      cases r with
      | own e t => exact .inl ⟨_, _, rfl, .of e, fun p hp => k _ _ _ _ (J.newL J.lt1 hp (t.cut _ _)) q3⟩
      | lbo e t => exact .inl ⟨_, _, rfl, .of e, fun p hp => k _ _ _ _ (J.newLB J.lt1 hp (t.cut _ _)) q3⟩
      | lst e t =>
        obtain ⟨ds, e2, q3⟩ := wO_some q3
        exact .inl ⟨_, _, rfl, .of e, fun p hp => k _ _ _ _ (J.newL J.lt1 hp ((datL_is t e2).cut _ _)) q3⟩
      | scr e => exact .inl ⟨_, _, rfl, e.sq, fun p hp => by
          rw [cut_map]
          exact k _ _ _ _ (J.newL J.lt1 hp ints_is) q3⟩
      | dat d =>
        cases d with
        | list e n t => exact .inl ⟨_, _, rfl, .of e, fun p hp => k _ _ _ _ (J.newL J.lt1 hp (t.cut _ _)) q3⟩
        | tuple e t =>
          refine .inr (.inl ⟨_, _, rfl, e.sq, fun w => ?_, fun w p hp => k _ _ _ _ (J.newT J.lt1 hp (t.cut _ _)) q3⟩)
          rw [← t.length] at w
          refine k _ _ _ _ (J.oneD J.lt1 (.tuple e t)) ?_
          have q4 := q3
          dsimp only at q4
          rw [cut_whole w] at q4; exact q4
        | str z => exact .inr (.inr ⟨z, rfl, q3.1, k _ _ _ _ (I3.pop.str _) q3.2⟩)
        | _ => exact q3.elim
      | bor d =>
        cases d with
        | list e n t => exact .inl ⟨_, _, rfl, .of e, fun p hp => k _ _ _ _ (J.newLB J.lt1 hp (t.cut _ _)) q3⟩
        | tuple e t =>
          refine .inr (.inl ⟨_, _, rfl, e.sq, fun w => ?_, fun w p hp => k _ _ _ _ (J.newTB J.lt1 hp (t.cut _ _)) q3⟩)
          rw [← t.length] at w
          refine k _ _ _ _ (J.oneB J.lt1 (.tuple e t)) ?_
          have q4 := q3
          dsimp only at q4
          rw [cut_whole w] at q4; exact q4
        | str z => exact .inr (.inr ⟨z, rfl, q3.1, k _ _ _ _ (I3.pop.str _) q3.2⟩)
        | _ => exact q3.elim
      | _ => exact q3.elim⟩
end
end Ds
namespace Ds
open PySem L2

/-- p where b is true, q where it is false -/
structure br (b : Bool) (p q : Prop) : Prop where
  t : b = true → p
  f : b = false → q
theorem br_split {b : Bool} {p q : Prop} (h1 : b = true → p) (h2 : b = false → q) : br b p q := ⟨h1, h2⟩
theorem br_dec {c p q : Prop} [Decidable c] (h1 : c → p) (h2 : ¬ c → q) : br (decide c) p q := ⟨fun h => h1 (of_decide_eq_true h), fun h => h2 (of_decide_eq_false h)⟩
theorem br_ndec {c p q : Prop} [Decidable c] (h1 : ¬ c → p) (h2 : c → q) : br (!decide c) p q := ⟨fun h => h1 (of_decide_eq_false (by simpa using h)), fun h => h2 (of_decide_eq_true (by simpa using h))⟩
theorem br_t {b : Bool} {p q : Prop} (e : b = true) (h : p) : br b p q := ⟨fun _ => h, fun z => by rw [e] at z; cases z⟩
theorem br_f {b : Bool} {p q : Prop} (e : b = false) (h : q) : br b p q := ⟨fun z => (by rw [e] at z; cases z), fun _ => h⟩
def wB : Option D → (Bool → Prop) → Prop
  | some (.bool b), k => k b
  | _, _ => False
theorem wB_some {o : Option D} {k : Bool → Prop} (h : wB o k) : ∃ i, o = some (.bool i) ∧ k i := by
  unfold wB at h
  split at h
  · exact ⟨_, rfl, h⟩
  · exact h.elim

section
variable {C : Ctx} {a b c : Expr} {rest : List Expr} {fa fb fc : DE} {ta tb : DTt} {pos : Pos}
def tVal (f : DE) : DTt := fun ρ Q => f ρ fun x ρ1 => wB (lk ρ1 x) fun b => Q b ρ1
theorem dt_val (h : DPE C a fa) (he : ∀ whole, isTrue a C.X.env whole = (do let v ← whole; standAt a.pos; holding [v] (truthy v)) := by intro _; rfl) : DPT C a (tVal fa) :=
  let ⟨_, p, s⟩ := h.ex
  ⟨_, pt_val p he, fun σ H ρ vs τ Qd Q I q k => s σ H ρ vs τ _ _ I q fun v H1 x ρ1 I1 q1 => by
    obtain ⟨b, e, q1⟩ := wB_some q1
    exact ⟨b, (I1.lk1 e).bool_eq, k _ _ _ I1.pop q1⟩⟩
def dAndT (t u : DTt) : DTt := fun ρ Q => t ρ fun b ρ1 => br b (u ρ1 Q) (Q false ρ1)
def dOrT (t u : DTt) : DTt := fun ρ Q => t ρ fun b ρ1 => br b (Q true ρ1) (u ρ1 Q)
def dNotT (t : DTt) : DTt := fun ρ Q => t ρ fun b ρ1 => Q (!b) ρ1
theorem dt_not (h : DPT C a ta) : DPT C (.UnaryOp .Not a pos) (dNotT ta) :=
  let ⟨_, p, s⟩ := h.ex
  ⟨_, pt_not p, fun σ H ρ vs τ Qd Q I q k => s σ H ρ vs τ _ _ I q fun b H1 ρ1 I1 q1 => k _ _ _ I1 q1⟩
theorem dw_and1 (h : DPT C a ta) : DPW C (.BoolOp .And [a] pos) ta := let ⟨_, p, s⟩ := h.ex; ⟨_, pw_and1 p, s⟩
theorem dw_or1 (h : DPT C a ta) : DPW C (.BoolOp .Or [a] pos) ta := let ⟨_, p, s⟩ := h.ex; ⟨_, pw_or1 p, s⟩
theorem dw_and (h : DPT C a ta) (h2 : DPW C (.BoolOp .And (b :: rest) pos) tb) : DPW C (.BoolOp .And (a :: b :: rest) pos) (dAndT ta tb) :=
  let ⟨_, p, s⟩ := h.ex; let ⟨_, p2, s2⟩ := h2.ex
  ⟨_, pw_and p p2, fun σ H ρ vs τ Qd Q I q k => s σ H ρ vs τ _ _ I q fun b H1 ρ1 I1 q1 => by
    cases b with
    | true => rw [if_pos rfl]; exact s2 σ H1 ρ1 vs τ Qd Q I1 (q1.t rfl) k
    | false => rw [if_neg (by decide)]; exact k _ _ _ I1 (q1.f rfl)⟩
theorem dw_or (h : DPT C a ta) (h2 : DPW C (.BoolOp .Or (b :: rest) pos) tb) : DPW C (.BoolOp .Or (a :: b :: rest) pos) (dOrT ta tb) :=
  let ⟨_, p, s⟩ := h.ex; let ⟨_, p2, s2⟩ := h2.ex
  ⟨_, pw_or p p2, fun σ H ρ vs τ Qd Q I q k => s σ H ρ vs τ _ _ I q fun b H1 ρ1 I1 q1 => by
    cases b with
    | true => rw [if_pos rfl]; exact k _ _ _ I1 (q1.t rfl)
    | false => rw [if_neg (by decide)]; exact s2 σ H1 ρ1 vs τ Qd Q I1 (q1.f rfl) k⟩
theorem DPW.t (h : DPW C a ta) : DPT C a ta := let ⟨_, p, s⟩ := h.ex; ⟨_, p.pt, s⟩
/-- the same as values (bools) -/
def dAndV (fa fb : DE) : DE := fun ρ Q => fa ρ fun x ρ1 => wB (lk ρ1 x) fun b => br b (fb ρ1 Q) (Q (.dat (.bool false)) ρ1)
def dOrV (fa fb : DE) : DE := fun ρ Q => fa ρ fun x ρ1 => wB (lk ρ1 x) fun b => br b (Q (.dat (.bool true)) ρ1) (fb ρ1 Q)
def dNotV (fa : DE) : DE := fun ρ Q => fa ρ fun x ρ1 => wB (lk ρ1 x) fun b => Q (.dat (.bool (!b))) ρ1
theorem de_one {op} (h : DPE C a fa) : DPE C (.BoolOp op [a] pos) fa := let ⟨_, p, s⟩ := h.ex; ⟨_, pe_one p, s⟩
theorem de_and (h : DPE C a fa) (h2 : DPE C (.BoolOp .And (b :: rest) pos) fb) : DPE C (.BoolOp .And (a :: b :: rest) pos) (dAndV fa fb) :=
  let ⟨_, p, s⟩ := h.ex; let ⟨_, p2, s2⟩ := h2.ex
  ⟨_, pe_and p p2, fun σ H ρ vs τ Qd Q I q k => s σ H ρ vs τ _ _ I q fun v H1 x ρ1 I1 q1 => by
    obtain ⟨b, e, q1⟩ := wB_some q1
    refine ⟨b, (I1.lk1 e).bool_eq, ?_⟩
    cases b with
    | true => rw [if_pos rfl]; exact s2 σ H1 ρ1 vs τ Qd Q I1.pop (q1.t rfl) k
    | false => rw [if_neg (by decide)]; exact k _ _ _ _ (I1.pop.bool _) (q1.f rfl)⟩
theorem de_or (h : DPE C a fa) (h2 : DPE C (.BoolOp .Or (b :: rest) pos) fb) : DPE C (.BoolOp .Or (a :: b :: rest) pos) (dOrV fa fb) :=
  let ⟨_, p, s⟩ := h.ex; let ⟨_, p2, s2⟩ := h2.ex
  ⟨_, pe_or p p2, fun σ H ρ vs τ Qd Q I q k => s σ H ρ vs τ _ _ I q fun v H1 x ρ1 I1 q1 => by
    obtain ⟨b, e, q1⟩ := wB_some q1
    refine ⟨b, (I1.lk1 e).bool_eq, ?_⟩
    cases b with
    | true => rw [if_pos rfl]; exact k _ _ _ _ (I1.pop.bool _) (q1.t rfl)
    | false => rw [if_neg (by decide)]; exact s2 σ H1 ρ1 vs τ Qd Q I1.pop (q1.f rfl) k⟩
theorem de_not (h : DPE C a fa) : DPE C (.UnaryOp .Not a pos) (dNotV fa) :=
  let ⟨_, p, s⟩ := h.ex
  ⟨_, pe_not p, fun σ H ρ vs τ Qd Q I q k => s σ H ρ vs τ _ _ I q fun v H1 x ρ1 I1 q1 => by
    obtain ⟨b, e, q1⟩ := wB_some q1
    exact ⟨b, (I1.lk1 e).bool_eq, k _ _ _ _ (I1.pop.bool _) q1⟩⟩
def dIf (t : DTt) (fa fb : DE) : DE := fun ρ Q => t ρ fun b ρ1 => br b (fa ρ1 Q) (fb ρ1 Q)
theorem de_if (h : DPT C c ta) (ha : DPE C a fa) (hb : DPE C b fb) : DPE C (.IfExp c a b pos) (dIf ta fa fb) :=
  let ⟨_, p, s⟩ := h.ex; let ⟨_, pa, sa⟩ := ha.ex; let ⟨_, pb, sb⟩ := hb.ex
  ⟨_, pe_ifExp p pa pb, fun σ H ρ vs τ Qd Q I q k => s σ H ρ vs τ _ _ I q fun b H1 ρ1 I1 q1 => by
    cases b with
    | true => rw [if_pos rfl]; exact sa σ H1 ρ1 vs τ Qd Q I1 (q1.t rfl) k
    | false => rw [if_neg (by decide)]; exact sb σ H1 ρ1 vs τ Qd Q I1 (q1.f rfl) k⟩
/-- a < b <= c and the like, of ints -/
def dChain (p1 p2 : Int → Int → Bool) (fa fb fc : DE) : DE := fun ρ Q => fa ρ fun x ρ1 => fb ρ1 fun y ρ2 => wI (lk ρ2 x) fun i => wI (lk ρ2 y) fun j =>
  br (p1 i j) (fc ρ2 fun z ρ3 => wI (lk ρ3 z) fun k => Q (.dat (.bool (p2 j k))) ρ3) (Q (.dat (.bool false)) ρ2)
theorem de_chain {op op' : CmpOp} {p1 p2 : Int → Int → Bool} (h1 : OpR C.X (compareOp op) (rI0 fun i j => .bl (p1 i j))) (h2 : OpR C.X (compareOp op') (rI0 fun i j => .bl (p2 i j))) (ha : DPE C a fa) (hb : DPE C b fb) (hc : DPE C c fc)
    (hm : lastMarks [op, op'] [b, c] = false := by with_unfolding_all rfl) : DPE C (.Compare a [op, op'] [b, c] pos) (dChain p1 p2 fa fb fc) :=
  let ⟨_, pa, sa⟩ := ha.ex; let ⟨_, pb, sb⟩ := hb.ex; let ⟨_, pc, sc⟩ := hc.ex
  ⟨_, pe_chain h1 h2 pa pb pc hm, fun σ H ρ vs τ Qd Q I q k => sa σ H ρ vs τ _ _ I q fun u H1 x ρ1 I1 q1 => sb σ H1 ρ1 _ _ _ _ I1 q1 fun v H2 y ρ2 I2 q2 => by
    obtain ⟨i, e1, q2⟩ := wI_some q2
    obtain ⟨j, e2, q2⟩ := wI_some q2
    have hy := (I2.lk1 e2).int_eq
    refine ⟨i, j, (I2.lk2 e1).int_eq, hy, _, rfl, ?_⟩
    generalize p1 i j = bb at q2 ⊢
    cases bb with
    | true =>
      rw [if_pos rfl]
      refine sc σ H2 ρ2 vs τ _ _ I2.pop2 (q2.t rfl) fun w H3 z ρ3 I3 q3 => ?_
      obtain ⟨n, e3, q3⟩ := wI_some q3
      exact ⟨j, n, hy, (I3.lk1 e3).int_eq, k _ _ _ _ (I3.pop.bool _) q3⟩
    | false => rw [if_neg (by decide)]; exact k _ _ _ _ (I2.pop2.bool _) (q2.f rfl)⟩
end

/-! ### calls of built-ins by values -/
abbrev DOn := List T → List T → DQ → Prop
def SimC (C : Ctx) (r : List V → Hp → VK → Prop) (f : DOn) : Prop := ∀ (σ : St) (H : Hp) (ρ : List T) (vs : List V) (τ : List T) (xs : List V) (ts : List T) (Qd : DQ) (Q : VK), SS C σ H ρ (vs ++ xs) (τ ++ ts) → ts.length = xs.length → τ.length = vs.length → f ρ ts Qd →
  (∀ w H' z ρ', SS C σ H' ρ' (vs ++ [w]) (τ ++ [z]) → Qd z ρ' → Q w H') → r xs H Q
def dCB (f : DOn) (fs : DA) : DE := fun ρ Q => fs ρ fun ts ρ1 => f ρ1 ts Q
section
variable {C : Ctx} {x : Str} {p pos : Pos} {e : Expr} {es : List Expr} {fs : DA} {id T : String} {r : List V → Hp → VK → Prop} {f : DOn}
theorem sim_cb {t : TA} (h : SimC C r f) (ha : SimA C t fs) : Sim C (tCB r t) (dCB f fs) := fun σ H ρ vs τ Qd Q I q k =>
  ha σ H ρ vs τ _ _ I q fun xs H1 ts ρ1 I1 hl q1 => h σ H1 ρ1 vs τ xs ts Qd Q I1 hl (I1.lenA hl) q1 k
theorem de_callB (hc : CallR C.X (.builtin id) r) (hs : SimC C r f) (hg : Gl C.X x) (hm : C.X.mg x = none) (hv : bootBuiltins x = some (.builtin id)) (ha : DPA C (e :: es) fs) (hn : x ≠ "__name__" := by decide) (hdb : (x == ("__debug__" : Str)) = false := by decide)
    (he : starEach (e :: es) C.X.env = (false, eval e C.X.env) :: starEach es C.X.env := by rfl) (hpl : (backTo pos (starEach es C.X.env)).any (·.1) = false := by rfl) : DPE C (.Call (.Name x p) (e :: es) [] pos) (dCB f fs) :=
  let ⟨_, pa, sa⟩ := ha.ex; ⟨_, pe_callB hc hg hm hv pa hn hdb he hpl, sim_cb hs sa⟩
theorem de_callTy (hc : CallR C.X (.type T) r) (hs : SimC C r f) (hg : Gl C.X x) (hm : C.X.mg x = none) (hv : bootBuiltins x = some (.type T)) (ha : DPA C (e :: es) fs) (hn : x ≠ "__name__" := by decide) (hdb : (x == ("__debug__" : Str)) = false := by decide)
    (he : starEach (e :: es) C.X.env = (false, eval e C.X.env) :: starEach es C.X.env := by rfl) (hpl : (backTo pos (starEach es C.X.env)).any (·.1) = false := by rfl) : DPE C (.Call (.Name x p) (e :: es) [] pos) (dCB f fs) :=
  let ⟨_, pa, sa⟩ := ha.ex; ⟨_, pe_callTy hc hg hm hv pa hn hdb he hpl, sim_cb hs sa⟩
end
section
variable {C : Ctx} {σ : St} {H : Hp} {ρ : List T} {vs xs : List V} {τ ts : List T}
theorem SS.lkA (I : SS C σ H ρ (vs ++ xs) (τ ++ ts)) (hτ : τ.length = vs.length) {j : Nat} {t : T} {d : D} (e : ts[j]? = some t) (h : lk ρ t = some d) : ∃ v, xs[j]? = some v ∧ DIs C.K N0 H d v := by
  obtain ⟨ow, J⟩ := I
  obtain ⟨v, hv, r⟩ := J.temp (j := τ.length + j) (t := t) (by rw [List.getElem?_append_right (by omega)]; simpa using e)
  rw [hτ, List.getElem?_append_right (by omega)] at hv
  simp at hv
  exact ⟨v, hv, r.lk J.look h⟩
theorem len1 {t : T} (h : [t].length = xs.length) : ∃ v, xs = [v] := by
  match xs, h with
  | [v], _ => exact ⟨v, rfl⟩
theorem len2 {t u : T} (h : [t, u].length = xs.length) : ∃ v w, xs = [v, w] := by
  match xs, h with
  | [v, w], _ => exact ⟨v, w, rfl⟩
/-- one argument, data, a scalar back -/
def cu1 (f : D → (D → Prop) → Prop) : DOn := fun ρ ts Q => match ts with
  | [x] => wD (lk ρ x) fun d => f d fun w => Q (.dat w) ρ
  | _ => False
def cu2 (f : D → D → (D → Prop) → Prop) : DOn := fun ρ ts Q => match ts with
  | [x, y] => wD (lk ρ x) fun d => wD (lk ρ y) fun e => f d e fun w => Q (.dat w) ρ
  | _ => False
theorem sim_cu1 {r : List V → Hp → VK → Prop} {f : D → (D → Prop) → Prop} (h : ∀ (H : Hp) (d : D) (u : V) (Qd : D → Prop) (Q : VK), DIs C.K N0 H d u → f d Qd → (∀ w z, sv w = some z → Qd w → Q z H) → r [u] H Q) : SimC C r (cu1 f) := by
  intro σ H ρ vs τ xs ts Qd Q I hl hτ q k
  unfold cu1 at q
  split at q
  · obtain ⟨v, rfl⟩ := len1 hl
    obtain ⟨d, e1, q⟩ := wD_some q
    exact h H d v _ Q (SS.lk1 I e1) q fun w z hz hq => k z H _ ρ (SS.sc (SS.pop I) hz) hq
  · exact q.elim
theorem sim_cu2 {r : List V → Hp → VK → Prop} {f : D → D → (D → Prop) → Prop} (h : ∀ (H : Hp) (d e : D) (u v : V) (Qd : D → Prop) (Q : VK), DIs C.K N0 H d u → DIs C.K N0 H e v → f d e Qd → (∀ w z, sv w = some z → Qd w → Q z H) → r [u, v] H Q) : SimC C r (cu2 f) := by
  intro σ H ρ vs τ xs ts Qd Q I hl hτ q k
  unfold cu2 at q
  split at q
  · obtain ⟨v, w, rfl⟩ := len2 hl
    obtain ⟨d, e1, q⟩ := wD_some q
    obtain ⟨e, e2, q⟩ := wD_some q
    obtain ⟨v', hv, d1⟩ := I.lkA hτ (j := 0) rfl e1
    obtain ⟨w', hw, d2⟩ := I.lkA hτ (j := 1) rfl e2
    simp at hv hw
    subst hv hw
    exact h H d e _ _ _ Q d1 d2 q fun w z hz hq => k z H _ ρ (SS.sc (I.drop hτ) hz) hq
  · exact q.elim

/-! ### len -/
def dLen : DOn := fun ρ ts Q => match ts with
  | [x] => match dr ρ x with
    | .scr ns => Q (.dat (.int ns.length)) ρ
    | _ => wD (lk ρ x) fun d => match d with
      | .list ds => Q (.dat (.int ds.length)) ρ
      | .tuple ds => Q (.dat (.int ds.length)) ρ
      | .str z => z.length ≤ sizeLine ∧ Q (.dat (.int z.length)) ρ
      | _ => False
  | _ => False
theorem sim_len : SimC C (fun xs H Q => ∃ x n, xs = [x] ∧ LenV C.K x H n ∧ Q (.int n) H) dLen := by
  intro σ H ρ vs τ xs ts Qd Q I hl hτ q k
  unfold dLen at q
  split at q
  · rename_i x
    obtain ⟨v, rfl⟩ := len1 hl
    have main : wD (lk ρ x) (fun d => match d with
      | .list ds => Qd (.dat (.int ds.length)) ρ
      | .tuple ds => Qd (.dat (.int ds.length)) ρ
      | .str z => z.length ≤ sizeLine ∧ Qd (.dat (.int z.length)) ρ
      | _ => False) → ∃ x n, [v] = [x] ∧ LenV C.K x H n ∧ Q (.int n) H := fun q => by
      obtain ⟨d, e1, q⟩ := wD_some q
      have dv := SS.lk1 I e1
      cases dv with
      | list e n t => exact ⟨_, _, rfl, .inl ⟨_, .of e, rfl⟩, k _ _ _ _ (SS.int (SS.pop I) _) (by rw [← t.length]; exact q)⟩
      | tuple e t => exact ⟨_, _, rfl, .inr ⟨_, e.sq, rfl⟩, k _ _ _ _ (SS.int (SS.pop I) _) (by rw [← t.length]; exact q)⟩
      | str z => exact ⟨_, _, rfl, ⟨q.1, rfl⟩, k _ _ _ _ (SS.int (SS.pop I) _) q.2⟩
      | _ => exact q.elim
    split at q
    · rename_i ns e
      obtain ⟨ow, J⟩ := id I
      rcases SI.dr1 J with z | ⟨os, r⟩
      · rw [e] at z; cases z
      · rw [e] at r
        cases r with
        | scr h => exact ⟨_, _, rfl, .inl ⟨_, h.sq, rfl⟩, k _ _ _ _ (SS.int (SS.pop I) _) (by rw [List.length_map]; exact q)⟩
    · exact main q
  · exact q.elim
end
section
variable {C : Ctx} {p pos : Pos} {e : Expr} {fs : DA}
theorem de_len (hg : Gl C.X "len") (hm : C.X.mg "len" = none) (ha : DPA C [e] fs) (he : starEach [e] C.X.env = [(false, eval e C.X.env)] := by rfl) : DPE C (.Call (.Name "len" p) [e] [] pos) (dCB dLen fs) :=
  de_callB call_len sim_len hg hm PySem.boot_len ha (by decide) (by decide) he
end

/-! ### numbers -/
section
variable {C : Ctx}
def fInt (g : Int → (D → Prop) → Prop) : D → (D → Prop) → Prop := fun d k => match d with
  | .int i => g i k
  | _ => False
abbrev dAbs : DOn := cu1 (fInt fun i k => k (.int (if i < 0 then -i else i)))
theorem sim_abs : SimC C (fun xs H Q => ∃ i, xs = [.int i] ∧ Q (.int (if i < 0 then -i else i)) H) dAbs := sim_cu1 fun H d u Qd Q du q k => by
  cases d <;> first | exact q.elim | skip
  exact ⟨_, by rw [du.int_eq], k _ _ rfl q⟩
abbrev dMin2 : DOn := cu2 (fII fun i j k => k (.int (if j < i then j else i)))
abbrev dMax2 : DOn := cu2 (fII fun i j k => k (.int (if j > i then j else i)))
theorem sim_min2 : SimC C (fun xs H Q => ∃ i j, xs = [.int i, .int j] ∧ Q (.int (if j < i then j else i)) H) dMin2 := sim_cu2 fun H d e u v Qd Q du ev q k => by
  cases d <;> cases e <;> first | exact q.elim | skip
  exact ⟨_, _, by rw [du.int_eq, ev.int_eq], k _ _ rfl q⟩
theorem sim_max2 : SimC C (fun xs H Q => ∃ i j, xs = [.int i, .int j] ∧ Q (.int (if j > i then j else i)) H) dMax2 := sim_cu2 fun H d e u v Qd Q du ev q k => by
  cases d <;> cases e <;> first | exact q.elim | skip
  exact ⟨_, _, by rw [du.int_eq, ev.int_eq], k _ _ rfl q⟩
abbrev dInt : DOn := cu1 fun d k => match d with
  | .int i => k (.int i)
  | .bool b => k (.int (if b then 1 else 0))
  | _ => False
theorem sim_int : SimC C (fun xs H Q => (∃ i, xs = [.int i] ∧ Q (.int i) H) ∨ ∃ k, xs = [.bl k] ∧ Q (.int (if k then 1 else 0)) H) dInt := sim_cu1 fun H d u Qd Q du q k => by
  cases d <;> first | exact q.elim | skip
  · exact .inr ⟨_, by rw [du.bool_eq], k _ _ rfl q⟩
  · exact .inl ⟨_, by rw [du.int_eq], k _ _ rfl q⟩
/-- a list, a tuple of ints -/
def wInts (o : Option D) (k : List Int → Prop) : Prop := ∃ ns : List Int, o = some (.list (ns.map .int)) ∧ k ns
theorem ints_inv {K : PySem.W.Frag} {B : Addr → Prop} {H : Hp} : ∀ {ns : List Int} {vs : List V}, DIsL K B H (ns.map PyData.int) vs → vs = ns.map V.int
  | [], _, h => by cases h; rfl
  | n :: ns, _, h => by
    cases h with
    | cons r t => rw [r.int_eq, ints_inv t]; rfl
def ci1 (f : List Int → (D → Prop) → Prop) : DOn := fun ρ ts Q => match ts with
  | [x] => wInts (lk ρ x) fun ns => f ns fun w => Q (.dat w) ρ
  | _ => False
theorem sim_ci1 {r : List V → Hp → VK → Prop} {f : List Int → (D → Prop) → Prop} (h : ∀ (H : Hp) (ns : List Int) (a : Addr) (Qd : D → Prop) (Q : VK), SqL C.K H a (ns.map V.int) → f ns Qd → (∀ w z, sv w = some z → Qd w → Q z H) → r [.ref a] H Q) : SimC C r (ci1 f) := by
  intro σ H ρ vs τ xs ts Qd Q I hl hτ q k
  unfold ci1 at q
  split at q
  · obtain ⟨v, rfl⟩ := len1 hl
    obtain ⟨ns, e1, q⟩ := q
    have dv := SS.lk1 I e1
    cases dv with
    | list e n t =>
      rw [ints_inv t] at e
      exact h H ns _ _ Q (.of e) q fun w z hz hq => k z H _ ρ (SS.sc (SS.pop I) hz) hq
  · exact q.elim
abbrev dSum : DOn := ci1 fun ns k => k (.int ns.sum)
theorem sim_sum : SimC C (rSum C.K) dSum := sim_ci1 fun H ns a Qd Q h q k => ⟨a, ns, rfl, h, k _ _ rfl q⟩
def minI : List Int → Int
  | [] => 0
  | a :: r => r.foldl min a
def maxI : List Int → Int
  | [] => 0
  | a :: r => r.foldl max a
theorem minI_le : ∀ (r : List Int) (a : Int), r.foldl min a ≤ a ∧ (∀ y, y ∈ r → r.foldl min a ≤ y) ∧ (r.foldl min a = a ∨ r.foldl min a ∈ r)
  | [], a => ⟨Int.le_refl _, fun _ z => by simp at z, .inl rfl⟩
  | b :: r, a => by
    obtain ⟨h1, h2, h3⟩ := minI_le r (min a b)
    have e : (b :: r).foldl min a = r.foldl min (min a b) := rfl
    rw [e]
    refine ⟨by omega, fun y hy => ?_, ?_⟩
    · rcases List.mem_cons.mp hy with rfl | hy
      · omega
      · exact h2 y hy
    · rcases h3 with h3 | h3
      · by_cases z : a ≤ b
        · left; omega
        · right; rw [h3, show min a b = b by omega]; simp
      · right; exact List.mem_cons_of_mem _ h3
theorem maxI_ge : ∀ (r : List Int) (a : Int), a ≤ r.foldl max a ∧ (∀ y, y ∈ r → y ≤ r.foldl max a) ∧ (r.foldl max a = a ∨ r.foldl max a ∈ r)
  | [], a => ⟨Int.le_refl _, fun _ z => by simp at z, .inl rfl⟩
  | b :: r, a => by
    obtain ⟨h1, h2, h3⟩ := maxI_ge r (max a b)
    have e : (b :: r).foldl max a = r.foldl max (max a b) := rfl
    rw [e]
    refine ⟨by omega, fun y hy => ?_, ?_⟩
    · rcases List.mem_cons.mp hy with rfl | hy
      · omega
      · exact h2 y hy
    · rcases h3 with h3 | h3
      · by_cases z : b ≤ a
        · left; omega
        · right; rw [h3, show max a b = b by omega]; simp
      · right; exact List.mem_cons_of_mem _ h3
theorem minI_of {ns : List Int} {m : Int} (h : m ∈ ns) (h2 : ∀ y, y ∈ ns → m ≤ y) : m = minI ns := by
  cases ns with
  | nil => simp at h
  | cons a r =>
    obtain ⟨a1, a2, a3⟩ := minI_le r a
    show m = r.foldl min a
    have := h2 a (by simp)
    rcases List.mem_cons.mp h with rfl | h
    · rcases a3 with a3 | a3
      · omega
      · have := h2 _ (List.mem_cons_of_mem _ a3); omega
    · have l1 := a2 m h
      rcases a3 with a3 | a3
      · omega
      · have := h2 _ (List.mem_cons_of_mem _ a3); omega
theorem maxI_of {ns : List Int} {m : Int} (h : m ∈ ns) (h2 : ∀ y, y ∈ ns → y ≤ m) : m = maxI ns := by
  cases ns with
  | nil => simp at h
  | cons a r =>
    obtain ⟨a1, a2, a3⟩ := maxI_ge r a
    show m = r.foldl max a
    have := h2 a (by simp)
    rcases List.mem_cons.mp h with rfl | h
    · rcases a3 with a3 | a3
      · omega
      · have := h2 _ (List.mem_cons_of_mem _ a3); omega
    · have l1 := a2 m h
      rcases a3 with a3 | a3
      · omega
      · have := h2 _ (List.mem_cons_of_mem _ a3); omega
abbrev dMinL : DOn := ci1 fun ns k => ns ≠ [] ∧ k (.int (minI ns))
abbrev dMaxL : DOn := ci1 fun ns k => ns ≠ [] ∧ k (.int (maxI ns))
theorem sim_minL : SimC C (rMin C.K) dMinL := sim_ci1 fun H ns a Qd Q h q k => ⟨a, ns, rfl, h, List.length_pos_iff.mpr q.1, fun m hm hy => by rw [minI_of hm hy]; exact k _ _ rfl q.2⟩
theorem sim_maxL : SimC C (rMax C.K) dMaxL := sim_ci1 fun H ns a Qd Q h q k => ⟨a, ns, rfl, h, List.length_pos_iff.mpr q.1, fun m hm hy => by rw [maxI_of hm hy]; exact k _ _ rfl q.2⟩
theorem bools_inv {K : PySem.W.Frag} {B : Addr → Prop} {H : Hp} : ∀ {ns : List Bool} {vs : List V}, DIsL K B H (ns.map PyData.bool) vs → vs = ns.map V.bl
  | [], _, h => by cases h; rfl
  | n :: ns, _, h => by
    cases h with
    | cons r t => rw [r.bool_eq, bools_inv t]; rfl
def cb1 (f : List Bool → Bool) : DOn := fun ρ ts Q => match ts with
  | [x] => ∃ bs : List Bool, lk ρ x = some (.list (bs.map .bool)) ∧ Q (.dat (.bool (f bs))) ρ
  | _ => False
theorem sim_cb1 {r : List V → Hp → VK → Prop} {f : List Bool → Bool} (h : ∀ (H : Hp) (bs : List Bool) (a : Addr) (Q : VK), SqL C.K H a (bs.map V.bl) → Q (.bl (f bs)) H → r [.ref a] H Q) : SimC C r (cb1 f) := by
  intro σ H ρ vs τ xs ts Qd Q I hl hτ q k
  unfold cb1 at q
  split at q
  · obtain ⟨v, rfl⟩ := len1 hl
    obtain ⟨ns, e1, q⟩ := q
    have dv := SS.lk1 I e1
    cases dv with
    | list e n t =>
      rw [bools_inv t] at e
      exact h H ns _ Q (.of e) (k _ H _ ρ (SS.bool (SS.pop I) _) q)
  · exact q.elim
abbrev dAll : DOn := cb1 fun bs => bs.all id
abbrev dAny : DOn := cb1 fun bs => bs.any id
theorem sim_all : SimC C (rAll C.K) dAll := sim_cb1 fun H bs a Q h q => ⟨a, bs, rfl, h, q⟩
theorem sim_any : SimC C (rAny C.K) dAny := sim_cb1 fun H bs a Q h q => ⟨a, bs, rfl, h, q⟩
end
section
variable {C : Ctx} {p pos : Pos} {e e2 : Expr} {fs : DA}
theorem de_abs (hg : Gl C.X "abs") (hm : C.X.mg "abs" = none) (ha : DPA C [e] fs) (he : starEach [e] C.X.env = [(false, eval e C.X.env)] := by rfl) : DPE C (.Call (.Name "abs" p) [e] [] pos) (dCB dAbs fs) :=
  de_callB call_abs sim_abs hg hm (by decide +kernel) ha (by decide) (by decide) he
theorem de_min2 (hg : Gl C.X "min") (hm : C.X.mg "min" = none) (hc : C.X.calm = true) (ha : DPA C [e, e2] fs) (he : starEach [e, e2] C.X.env = (false, eval e C.X.env) :: starEach [e2] C.X.env := by rfl) (hp : (backTo pos (starEach [e2] C.X.env)).any (·.1) = false := by rfl) :
    DPE C (.Call (.Name "min" p) [e, e2] [] pos) (dCB dMin2 fs) := de_callB (call_min2 hc) sim_min2 hg hm (by decide +kernel) ha (by decide) (by decide) he hp
theorem de_max2 (hg : Gl C.X "max") (hm : C.X.mg "max" = none) (hc : C.X.calm = true) (ha : DPA C [e, e2] fs) (he : starEach [e, e2] C.X.env = (false, eval e C.X.env) :: starEach [e2] C.X.env := by rfl) (hp : (backTo pos (starEach [e2] C.X.env)).any (·.1) = false := by rfl) :
    DPE C (.Call (.Name "max" p) [e, e2] [] pos) (dCB dMax2 fs) := de_callB (call_max2 hc) sim_max2 hg hm (by decide +kernel) ha (by decide) (by decide) he hp
theorem de_minL (hg : Gl C.X "min") (hm : C.X.mg "min" = none) (hc : C.X.calm = true) (ha : DPA C [e] fs) (he : starEach [e] C.X.env = [(false, eval e C.X.env)] := by rfl) : DPE C (.Call (.Name "min" p) [e] [] pos) (dCB dMinL fs) :=
  de_callB (cr_min hc) sim_minL hg hm (by decide +kernel) ha (by decide) (by decide) he
theorem de_maxL (hg : Gl C.X "max") (hm : C.X.mg "max" = none) (hc : C.X.calm = true) (ha : DPA C [e] fs) (he : starEach [e] C.X.env = [(false, eval e C.X.env)] := by rfl) : DPE C (.Call (.Name "max" p) [e] [] pos) (dCB dMaxL fs) :=
  de_callB (cr_max hc) sim_maxL hg hm (by decide +kernel) ha (by decide) (by decide) he
theorem de_sum (hg : Gl C.X "sum") (hm : C.X.mg "sum" = none) (hc : C.X.calm = true) (ha : DPA C [e] fs) (he : starEach [e] C.X.env = [(false, eval e C.X.env)] := by rfl) : DPE C (.Call (.Name "sum" p) [e] [] pos) (dCB dSum fs) :=
  de_callB (cr_sum hc) sim_sum hg hm (by decide +kernel) ha (by decide) (by decide) he
theorem de_all (hg : Gl C.X "all") (hm : C.X.mg "all" = none) (hc : C.X.calm = true) (ha : DPA C [e] fs) (he : starEach [e] C.X.env = [(false, eval e C.X.env)] := by rfl) : DPE C (.Call (.Name "all" p) [e] [] pos) (dCB dAll fs) :=
  de_callB (cr_all hc) sim_all hg hm (by decide +kernel) ha (by decide) (by decide) he
theorem de_any (hg : Gl C.X "any") (hm : C.X.mg "any" = none) (hc : C.X.calm = true) (ha : DPA C [e] fs) (he : starEach [e] C.X.env = [(false, eval e C.X.env)] := by rfl) : DPE C (.Call (.Name "any" p) [e] [] pos) (dCB dAny fs) :=
  de_callB (cr_any hc) sim_any hg hm (by decide +kernel) ha (by decide) (by decide) he
theorem de_int1 (hg : Gl C.X "int") (hm : C.X.mg "int" = none) (ha : DPA C [e] fs) (he : starEach [e] C.X.env = [(false, eval e C.X.env)] := by rfl) : DPE C (.Call (.Name "int" p) [e] [] pos) (dCB dInt fs) :=
  de_callTy call_int1 sim_int hg hm (by decide +kernel) ha (by decide) (by decide) he
end
end Ds
namespace Ds
open PySem L2

theorem noAliL_append : ∀ {a b : List T}, noAliL (a ++ b) = (noAliL a && noAliL b)
  | [], _ => by simp [noAliL]
  | x :: a, b => by simp [noAliL, noAliL_append, Bool.and_assoc]
theorem wipe_get_in {σ : St} {i : Nat} : ∀ {is : List Nat}, i ∈ is → i < σ.length → (wipe σ is)[i]? = some none
  | [], h, _ => by simp at h
  | j :: is, h, hi => by
    unfold wipe
    by_cases z : j = i
    · subst z
      exact List.getElem?_set_self (by rw [wipe_length]; exact hi)
    · rw [List.getElem?_set_ne z]
      exact wipe_get_in (by simpa [Ne.symm z] using h) hi
theorem wipe_out {σ : St} {i : Nat} : ∀ {is : List Nat}, i ∉ is → (wipe σ is)[i]? = σ[i]?
  | [], _ => rfl
  | j :: is, h => by
    unfold wipe
    rw [List.getElem?_set_ne (fun z => h (by simp [z])), wipe_out (fun z => h (by simp [z]))]
theorem wipe_ext {σ σ' : St} {is : List Nat} (hl : σ.length = σ'.length) (h : ∀ i, i ∉ is → σ[i]? = σ'[i]?) : wipe σ is = wipe σ' is := by
  refine List.ext_getElem? fun i => ?_
  by_cases hi : i ∈ is
  · by_cases z : i < σ.length
    · rw [wipe_get_in hi z, wipe_get_in hi (by omega)]
    · rw [List.getElem?_eq_none (by rw [wipe_length]; omega), List.getElem?_eq_none (by rw [wipe_length]; omega)]
  · rw [wipe_out hi, wipe_out hi, h i hi]
theorem set_wipe {σ : St} {i : Nat} {x : Option V} {own : List Nat} (h : i ∈ own) : wipe (σ.set i x) own = wipe σ own := wipe_ext (by simp) fun j hj => List.getElem?_set_ne fun z => hj (by rw [← z]; exact h)
section
variable {C : Ctx} {σ σ' : St} {H H' : Hp} {ρ ρ' : List T} {vs vs' xs ys : List V} {τ τ' ts us : List T} {ow : Nat → List Addr} {v w : V} {t x : T}
/-- the top goes into slot i -/
theorem SS.assign (h : SS C σ H ρ (vs ++ [v]) (τ ++ [t])) {i : Nat} (hi : i < ρ.length) (nt : noAli t = true) (nτ : noAliL τ = true ∨ i ∈ C.cv) (nl : i ∉ C.lent) : SS C (σ.set i (some v)) H (ρ.set i t) vs τ := by
  obtain ⟨ow, I⟩ := h
  have hτ := I.lt1
  let n := ρ.length + τ.length
  have hin : i ≠ n := by omega
  have top := I.top
  refine ⟨fun k => if k = i then ow n else if k < n then ow k else [], I.next (S := fun k => k = i ∨ n ≤ k) (by simp [I.ln]) hτ (noAliL_set I.na nt) (fun k hk => ?_) (fun k u hk e => ?_) (by simp) (fun b o e _ => e) (fun b z => z)
    (fun k a hk h => ?_) (fun m1 m2 k u hk e => ?_) (fun k hk => ?_) (fun j k a hj hk hjk h => ?_) (fun k a hk h => ?_) (fun j hj => ?_)⟩
  · have h1 : k ≠ i := fun z => hk (.inl z)
    have h2 : k < n := by by_cases z : k < n; exact z; exact absurd (.inr (by omega)) hk
    simp only [if_neg h1, if_pos h2]
  · have h1 : k ≠ i := fun z => hk (.inl z)
    have h2 : k < n := by by_cases z : k < n; exact z; exact absurd (.inr (by omega)) hk
    have e1 : (ρ ++ τ)[k]? = some u := by
      by_cases hk2 : k < ρ.length
      · rw [List.getElem?_append_left (by simpa using hk2), List.getElem?_set_ne (Ne.symm h1)] at e
        rw [List.getElem?_append_left hk2]; exact e
      · rw [List.getElem?_append_right (by simp; omega)] at e
        rw [List.getElem?_append_right (by omega)]
        simpa using e
    refine ⟨?_, ?_, ?_⟩
    · rw [← List.append_assoc, List.getElem?_append_left (by simp; omega)]; exact e1
    · have e3 : (σ ++ List.map some (vs ++ [v]))[k]? = (σ ++ List.map some vs)[k]? := by
        rw [List.map_append, ← List.append_assoc]
        exact List.getElem?_append_left (by simp [← I.ln, ← hτ]; omega)
      rw [e3]
      by_cases hk2 : k < ρ.length
      · have a1 : k < (σ.set i (some v)).length := by simp [← I.ln]; exact hk2
        have a2 : k < σ.length := by rw [← I.ln]; exact hk2
        exact (List.getElem?_append_left a1).trans ((List.getElem?_set_ne (Ne.symm h1)).trans (List.getElem?_append_left a2).symm)
      · have a1 : (σ.set i (some v)).length ≤ k := by simp [← I.ln]; omega
        have a2 : σ.length ≤ k := by rw [← I.ln]; omega
        refine (List.getElem?_append_right a1).trans (Eq.trans ?_ (List.getElem?_append_right a2).symm)
        simp
    · rcases nτ with nτ | nc
      · have all : noAliL (ρ ++ τ) = true := by rw [noAliL_append, I.na, nτ]; rfl
        exact .inr (noAliL_iff.mp all k u e1)
      · exact .inl (set_wipe nc)
  · rcases hk with rfl | hk
    · simp only [if_true] at h; exact .inl ⟨n, .inr (Nat.le_refl _), h⟩
    · simp [if_neg (show k ≠ i by omega), show ¬ k < n by omega] at h
  · rcases hk with rfl | hk
    · rw [List.getElem?_append_left (by simpa using hi), List.getElem?_set_self hi] at e
      cases e
      refine .inr ⟨v, ?_, ?_⟩
      · rw [List.getElem?_append_left (by simp [← I.ln]; exact hi), List.getElem?_set_self (by rw [← I.ln]; exact hi)]
      · simp only [if_true]
        exact top.move m1 m2 (fun _ _ _ q => q) (.inr nt)
    · have : k < (ρ.set i t ++ τ).length := (List.getElem?_eq_some_iff.mp e).1
      simp at this
      omega
  · rcases hk with rfl | hk
    · simp only [if_true]; exact I.nd n
    · simp [if_neg (show k ≠ i by omega), show ¬ k < n by omega]
  · rcases hj with rfl | hj
    · have : n ≤ k := hk.resolve_left (Ne.symm hjk)
      simp [if_neg (Ne.symm hjk), show ¬ k < n by omega]
    · simp [if_neg (show j ≠ i by omega), show ¬ j < n by omega] at h
  · rcases hk with rfl | hk
    · simp only [if_true] at h; exact I.ot n a h
    · simp [if_neg (show k ≠ i by omega), show ¬ k < n by omega] at h
  · refine List.getElem?_set_ne fun z => nl ?_
    rw [z]; exact hj
/-- those below the top are dropped -/
theorem SS.nip {ws : List V} {us : List T} (h : SS C σ H ρ (vs ++ ws ++ [v]) (τ ++ us ++ [t])) (hτ : τ.length = vs.length) : SS C σ H ρ (vs ++ [v]) (τ ++ [t]) := by
  obtain ⟨ow, I⟩ := h
  have top := I.top
  simp at top
  have I' : SI C σ H ρ (vs ++ (ws ++ [v])) (τ ++ (us ++ [t])) ow := by simpa using I
  refine I'.one hτ (Same.refl H) v t (ow (ρ.length + (τ.length + us.length))) (fun ow' m1 m2 _ => top.move m1 m2 (fun _ _ _ q => q) (.inl rfl)) (I.nd _) (fun a ha => .inl ⟨_, by omega, ha⟩) fun a ha => I.ot _ a ha
end

/-! ### targets -/
abbrev DG := T → List T → (List T → Prop) → Prop
abbrev DGs := List T → List T → (List T → Prop) → Prop
def SimG (C : Ctx) (g : TG) (f : DG) : Prop := ∀ (σ : St) (H : Hp) (ρ : List T) (vs : List V) (τ : List T) (v : V) (t : T) (Qd : List T → Prop) (Q : St → Hp → Prop), SS C σ H ρ (vs ++ [v]) (τ ++ [t]) → noAliL τ = true → f t ρ Qd →
  (∀ σ' H' ρ', SS C σ' H' ρ' vs τ → Qd ρ' → Q σ' H') → g v σ H Q
structure DPG (C : Ctx) (e : Expr) (f : DG) : Prop where
  ex : ∃ g, PG C.X e g ∧ SimG C g f
/-- several: the values are the data of the list at hand -/
def SimGs (C : Ctx) (g : TGs) (f : DGs) : Prop := ∀ (σ : St) (H : Hp) (ρ : List T) (vs : List V) (τ : List T) (xs : List V) (ts : List T) (Qd : List T → Prop) (Q : St → Hp → Prop), SS C σ H ρ (vs ++ xs) (τ ++ ts) → ts.length = xs.length → noAliL τ = true → noAliL ts = true → f ts ρ Qd →
  (∀ σ' H' ρ', SS C σ' H' ρ' vs τ → Qd ρ' → Q σ' H') → g xs σ H Q
structure DPGs (C : Ctx) (es : List Expr) (f : DGs) : Prop where
  ex : ∃ g, PGs C.X es g ∧ SimGs C g f
def dgName (i : Nat) : DG := fun t ρ Q => match noAli t with
  | true => Q (ρ.set i t)
  | false => False
def dgNil : DGs := fun ts ρ Q => match ts with
  | [] => Q ρ
  | _ => False
section
variable {C : Ctx} {pos : Pos}
theorem na_ok {t : T} {P : Prop} (h : match noAli t with | true => P | false => False) : noAli t = true ∧ P := by
  cases e : noAli t with
  | false => rw [e] at h; exact h.elim
  | true => rw [e] at h; exact ⟨rfl, h⟩
theorem getElem?_of_set {α : Type} {l : List α} {i : Nat} : ¬ i < l.length → ∀ a, l.set i a = l := fun h a => List.set_eq_of_length_le (by omega)
theorem SS.lnN {σ : St} {H : Hp} {ρ : List T} {vs : List V} {τ : List T} (h : SS C σ H ρ vs τ) : ρ.length = σ.length := let ⟨_, I⟩ := h; I.ln
theorem dg_name {i : Nat} {x : Str} (hN : C.X.N.Nodup) (hi : C.X.N[i]? = some x) (hx : Loc C.X.env.scope x) (nl : i ∉ C.lent) (hf : C.X.fn x = true ∨ C.X.env.scope.names.lookup x = some .local := by first | exact .inl rfl | exact .inr rfl | assumption) :
    DPG C (.Name x pos) (dgName i) :=
  ⟨_, pg_name hN hi hx hf, fun σ H ρ vs τ v t Qd Q I na q k => by
    obtain ⟨nt, q⟩ := na_ok q
    by_cases z : i < ρ.length
    · exact k _ _ _ (I.assign z nt (.inl na) nl) q
    · refine k _ _ ρ ?_ (by rw [getElem?_of_set z] at q; exact q)
      rw [getElem?_of_set (by rw [← I.lnN]; exact z)]
      exact I.pop⟩
theorem dgs_nil : DPGs C [] dgNil := ⟨_, pgs_nil, fun σ H ρ vs τ xs ts Qd Q I hl na nt q k => by
  unfold dgNil at q
  split at q
  · have : xs = [] := List.length_eq_zero_iff.mp hl.symm
    subst this
    exact ⟨rfl, k _ _ _ (by simpa using I) q⟩
  · exact q.elim⟩
/-- the first of several temporaries on top brought up -/
theorem SS.first {σ : St} {H : Hp} {ρ : List T} {vs xs : List V} {τ ts : List T} {v : V} {t : T} (h : SS C σ H ρ (vs ++ (v :: xs)) (τ ++ (t :: ts))) (hl : ts.length = xs.length) : SS C σ H ρ (vs ++ xs ++ [v]) (τ ++ ts ++ [t]) := by
  obtain ⟨ow, I⟩ := h
  have hτ : τ.length = vs.length := by have := I.lt; simp at this; omega
  let n := ρ.length + τ.length
  have J := SI.temps (us := ts ++ [t]) (ys := xs ++ [v]) I hτ (Same.refl H) (by simp [hl]) (fun j => if j < ts.length then ow (n + (j + 1)) else if j = ts.length then ow n else []) rfl
    (ow' := fun k => if k < ρ.length + τ.length then ow k else (fun j => if j < ts.length then ow (n + (j + 1)) else if j = ts.length then ow n else []) (k - (ρ.length + τ.length)))
    (fun m1 m2 j u e => by
      by_cases hj : j < ts.length
      · rw [List.getElem?_append_left hj] at e
        obtain ⟨w, hw, r⟩ := I.temp (j := τ.length + (j + 1)) (t := u) (by rw [List.getElem?_append_right (by omega)]; simpa using e)
        rw [hτ, List.getElem?_append_right (by omega)] at hw
        simp at hw
        refine ⟨w, by rw [List.getElem?_append_left (by omega)]; exact hw, ?_⟩
        simp only [if_pos hj]
        have e2 : ρ.length + (τ.length + (j + 1)) = n + (j + 1) := by omega
        rw [e2] at r
        exact r.move m1 m2 (fun _ _ _ q => q) (.inl rfl)
      · have hj2 : j = ts.length := by
          have := (List.getElem?_eq_some_iff.mp e).1
          simp at this; omega
        subst hj2
        simp at e; subst e
        obtain ⟨w, hw, r⟩ := I.temp (j := τ.length) (t := t) (by rw [List.getElem?_append_right (by omega)]; simp)
        rw [hτ, List.getElem?_append_right (by omega)] at hw
        simp at hw; subst hw
        refine ⟨v, by rw [hl]; simp, ?_⟩
        simp only [if_neg (Nat.lt_irrefl _), if_true]
        exact r.move m1 m2 (fun _ _ _ q => q) (.inl rfl))
    (fun j => by
      by_cases hj : j < ts.length
      · simp only [if_pos hj]; exact I.nd _
      · simp only [if_neg hj]
        by_cases hj2 : j = ts.length
        · simp only [if_pos hj2]; exact I.nd _
        · simp [if_neg hj2])
    (fun i j a hij hi => by
      by_cases h1 : i < ts.length
      · simp only [if_pos h1] at hi
        by_cases h2 : j < ts.length
        · simp only [if_pos h2]; exact I.dj _ _ a (by omega) hi
        · simp only [if_neg h2]
          by_cases h3 : j = ts.length
          · simp only [if_pos h3]; exact I.dj _ _ a (by omega) hi
          · simp [if_neg h3]
      · simp only [if_neg h1] at hi
        by_cases h4 : i = ts.length
        · simp only [if_pos h4] at hi
          by_cases h2 : j < ts.length
          · simp only [if_pos h2]; exact I.dj _ _ a (by omega) hi
          · simp only [if_neg h2]
            by_cases h3 : j = ts.length
            · omega
            · simp [if_neg h3]
        · simp [if_neg h4] at hi)
    (fun j a h => by
      by_cases hj : j < ts.length
      · simp only [if_pos hj] at h; exact .inl ⟨_, by omega, h⟩
      · simp only [if_neg hj] at h
        by_cases hj2 : j = ts.length
        · simp only [if_pos hj2] at h; exact .inl ⟨_, by omega, h⟩
        · simp [if_neg hj2] at h)
    (fun j a h => by
      by_cases hj : j < ts.length
      · simp only [if_pos hj] at h; exact I.ot _ a h
      · simp only [if_neg hj] at h
        by_cases hj2 : j = ts.length
        · simp only [if_pos hj2] at h; exact I.ot _ a h
        · simp [if_neg hj2] at h)
  exact ⟨_, by simpa using J⟩
def dgCons (g : DG) (gs : DGs) : DGs := fun ts ρ Q => match ts with
  | t :: ts => g t ρ fun ρ1 => gs ts ρ1 Q
  | [] => False
variable {e : Expr} {es : List Expr} {g : DG} {gs : DGs}
theorem dgs_cons (h1 : DPG C e g) (h2 : DPGs C es gs) (hs : (assignEach (e :: es) C.X.env).map (·.2) = assign e C.X.env :: (assignEach es C.X.env).map (·.2) := by rfl) : DPGs C (e :: es) (dgCons g gs) :=
  let ⟨_, p1, s1⟩ := h1.ex; let ⟨_, p2, s2⟩ := h2.ex
  ⟨_, pgs_cons p1 p2 hs, fun σ H ρ vs τ xs ts Qd Q I hl na nt q k => by
    unfold dgCons at q
    split at q
    · rename_i t ts
      match xs, hl with
      | v :: xs, hl =>
        simp [noAliL] at nt
        refine ⟨v, xs, rfl, s1 σ H ρ (vs ++ xs) (τ ++ ts) v t _ _ (I.first (by simpa using hl)) (by rw [noAliL_append, na, nt.2]; rfl) q fun σ' H' ρ' I' q' => ?_⟩
        exact s2 σ' H' ρ' vs τ xs ts _ _ I' (by simpa using hl) na nt.2 q' k
    · exact q.elim⟩
/-- the parts of a tuple (a list) -/
def partsT : T → Option (List T)
  | .dat (.tuple ds) => some (ds.map .dat)
  | .dat (.list ds) => some (ds.map .dat)
  | .bor (.tuple ds) => some (ds.map .bor)
  | .bor (.list ds) => some (ds.map .bor)
  | .own ds => some (ds.map .dat)
  | .tup ts => some ts
  | _ => none
def dgTup (n : Nat) (gs : DGs) : DG := fun t ρ Q => match noAli t with
  | true => wO (partsT t) fun ts => ts.length = n ∧ gs ts ρ Q
  | false => False
theorem noAli_dat : ∀ ds : List D, noAliL (ds.map T.dat) = true
  | [] => rfl
  | _ :: ds => by simp [noAliL, noAli, noAli_dat ds]
theorem noAli_bor : ∀ ds : List D, noAliL (ds.map T.bor) = true
  | [] => rfl
  | _ :: ds => by simp [noAliL, noAli, noAli_bor ds]
end
section
variable {C : Ctx} {σ : St} {H : Hp} {ρ : List T} {vs xs : List V} {τ : List T} {v : V} {t : T} {ow : Nat → List Addr}
theorem DIsL.datL {K : PySem.W.Frag} {B Bb : Addr → Prop} : ∀ {ds : List D} {xs : List V}, DIsL K B H ds xs → TIsL K B Bb σ H (ds.map T.dat) xs []
  | _, _, .nil => .nil
  | _, _, .cons r t => .cons (o1 := []) (o2 := []) (.dat r) (DIsL.datL t)
theorem DIsL.borL {K : PySem.W.Frag} {B Bb : Addr → Prop} : ∀ {ds : List D} {xs : List V}, DIsL K Bb H ds xs → TIsL K B Bb σ H (ds.map T.bor) xs []
  | _, _, .nil => .nil
  | _, _, .cons r t => .cons (o1 := []) (o2 := []) (.bor r) (DIsL.borL t)
/-- parts of the lists that one tree owns, apart -/
theorem TIsL.split {K : PySem.W.Frag} {B Bb : Addr → Prop} : ∀ {ts : List T} {xs : List V} {os : List Addr}, TIsL K B Bb σ H ts xs os → os.Nodup → ∃ f : Nat → List Addr, (∀ (j : Nat) (t : T), ts[j]? = some t → ∃ v, xs[j]? = some v ∧ TIs K B Bb σ H t v (f j)) ∧
    (∀ j, (f j).Nodup) ∧ (∀ i j a, i ≠ j → a ∈ f i → a ∉ f j) ∧ ∀ j a, a ∈ f j → a ∈ os
  | _, _, _, .nil, _ => ⟨fun _ => [], fun j t e => by simp at e, fun _ => List.nodup_nil, fun _ _ _ _ z => by simp at z, fun _ _ z => by simp at z⟩
  | t :: ts, x :: xs, _, .cons (o1 := o1) (o2 := o2) r q, nd => by
    have nd' := List.nodup_append.mp nd
    obtain ⟨f, h1, h2, h3, h4⟩ := TIsL.split q nd'.2.1
    refine ⟨fun j => match j with | 0 => o1 | j + 1 => f j, fun j u e => ?_, fun j => ?_, fun i j a hij hi => ?_, fun j a h => ?_⟩
    · cases j with
      | zero => simp at e; subst e; exact ⟨x, rfl, r⟩
      | succ j => exact h1 j u (by simpa using e)
    · cases j with
      | zero => exact nd'.1
      | succ j => exact h2 j
    · cases i with
      | zero => cases j with
        | zero => exact absurd rfl hij
        | succ j => exact fun z => nd'.2.2 a hi a (h4 j a z) rfl
      | succ i => cases j with
        | zero => exact fun z => nd'.2.2 a z a (h4 i a hi) rfl
        | succ j => exact h3 i j a (by omega) hi
    · cases j with
      | zero => exact List.mem_append_left _ h
      | succ j => exact List.mem_append_right _ (h4 j a h)
/-- the top taken apart -/
theorem SS.apart (I : SS C σ H ρ (vs ++ [v]) (τ ++ [t])) {us : List T} (e : partsT t = some us) : ∃ a xs, v = .ref a ∧ (SqT C.K H a xs ∨ SqL C.K H a xs) ∧ us.length = xs.length ∧ SS C σ H ρ (vs ++ xs) (τ ++ us) := by
  obtain ⟨ow, J⟩ := I
  have top := J.top
  have go : ∀ {us : List T} {xs : List V} {os : List Addr}, TIsL C.K (Bar C ow) (BarB C ow) (wipe σ C.cv) H us xs os → os.Nodup → (∀ a, a ∈ os → a ∈ ow (ρ.length + τ.length)) → SS C σ H ρ (vs ++ xs) (τ ++ us) := fun {us xs os} r nd sub => by
    obtain ⟨f, h1, h2, h3, h4⟩ := r.split nd
    have hl := r.length
    refine ⟨_, SI.temps (us := us) (ys := xs) (ow' := fun k => if k < ρ.length + τ.length then ow k else (fun j => if j < us.length then f j else []) (k - (ρ.length + τ.length))) J J.lt1 (Same.refl H) hl (fun j => if j < us.length then f j else []) rfl (fun m1 m2 j u e => ?_) (fun j => ?_) (fun i j a hij hi => ?_) (fun j a h => ?_) (fun j a h => ?_)⟩
    · obtain ⟨w, hw, q⟩ := h1 j u e
      refine ⟨w, hw, ?_⟩
      have hj : j < us.length := (List.getElem?_eq_some_iff.mp e).1
      simp only [if_pos hj]
      exact q.move m1 m2 (fun _ _ _ q => q) (.inl rfl)
    · show (if j < us.length then f j else []).Nodup
      split
      · exact h2 j
      · exact List.nodup_nil
    · have hi : a ∈ (if i < us.length then f i else []) := hi
      show a ∉ (if j < us.length then f j else [])
      split at hi
      · split
        · exact h3 i j a hij hi
        · simp
      · simp at hi
    · have h : a ∈ (if j < us.length then f j else []) := h
      split at h
      · exact .inl ⟨_, Nat.le_refl _, sub a (h4 j a h)⟩
      · simp at h
    · have h : a ∈ (if j < us.length then f j else []) := h
      split at h
      · exact J.ot _ a (sub a (h4 j a h))
      · simp at h
  have hnd := J.nd (ρ.length + τ.length)
  generalize hos : ow (ρ.length + τ.length) = os at top go hnd
  cases top with
  | dat d =>
    cases d with
    | list e0 n q => simp [partsT] at e; subst e; exact ⟨_, _, rfl, .inr (.of e0), by rw [List.length_map]; exact q.length, go (q.datL) List.nodup_nil fun _ z => by simp at z⟩
    | tuple e0 q => simp [partsT] at e; subst e; exact ⟨_, _, rfl, .inl e0.sq, by rw [List.length_map]; exact q.length, go (q.datL) List.nodup_nil fun _ z => by simp at z⟩
    | _ => simp [partsT] at e
  | bor d =>
    cases d with
    | list e0 n q => simp [partsT] at e; subst e; exact ⟨_, _, rfl, .inr (.of e0), by rw [List.length_map]; exact q.length, go (q.borL) List.nodup_nil fun _ z => by simp at z⟩
    | tuple e0 q => simp [partsT] at e; subst e; exact ⟨_, _, rfl, .inl e0.sq, by rw [List.length_map]; exact q.length, go (q.borL) List.nodup_nil fun _ z => by simp at z⟩
    | _ => simp [partsT] at e
  | own e0 q => simp [partsT] at e; subst e; exact ⟨_, _, rfl, .inr (.of e0), by rw [List.length_map]; exact q.length, go (q.datL) List.nodup_nil fun _ z => by simp at z⟩
  | tup e0 n q => simp [partsT] at e; subst e; exact ⟨_, _, rfl, .inl (.of e0), q.length, go q hnd fun _ z => z⟩
  | _ => simp [partsT] at e
end
theorem pg_or {X : Cx} {e : Expr} {g g' : TG} (h : PG X e g) (h' : PG X e g') : PG X e (fun v σ H Q => g v σ H Q ∨ g' v σ H Q) :=
  ⟨fun pins s σ H v u Q I r q => q.elim (h.run pins s σ H v u Q I r) (h'.run pins s σ H v u Q I r)⟩
section
variable {C : Ctx} {pos : Pos} {es : List Expr} {gs : DGs} {k : Nat} {n : Nat}
theorem noAli_parts : ∀ {t : T} {us : List T}, noAli t = true → partsT t = some us → noAliL us = true := fun {t us} h e => by
  unfold partsT at e
  split at e <;> simp at e <;> subst e <;> first | exact noAli_dat _ | exact noAli_bor _ | (simpa [noAli] using h)
theorem dg_tup (hc : C.X.calm = true) (h : DPGs C es gs) (hn : (assignEach es C.X.env).length = n := by rfl) (hst : (assignEach es C.X.env).findIdx? (·.1) = none := by rfl) : DPG C (.Tuple es k pos) (dgTup n gs) :=
  let ⟨_, p, s⟩ := h.ex
  ⟨_, pg_or (pg_tup hc p hn hst) (pg_lst hc p hn hst), fun σ H ρ vs τ v t Qd Q I na q k => by
    obtain ⟨nt, q⟩ := na_ok q
    obtain ⟨us, e, hl, q⟩ := wO_some q
    obtain ⟨a, xs, rfl, hq, hlen, I'⟩ := I.apart e
    have fin := s σ H ρ vs τ xs us Qd Q I' hlen na (noAli_parts nt e) q k
    rcases hq with hq | hq
    · exact .inl ⟨a, xs, rfl, hq, by omega, fin⟩
    · exact .inr ⟨a, xs, rfl, hq, by omega, fin⟩⟩
end

/-! ### statements -/
structure DEnds where
  nx : List T → Prop
  rt : T → List T → Prop
  bk : List T → Prop := fun _ => False
  ct : List T → Prop := fun _ => False
abbrev DS := DEnds → List T → Prop
structure EndsOk (C : Ctx) (vs : List V) (τ : List T) (Dd : DEnds) (D : Ends) : Prop where
  nx : ∀ σ H ρ, SS C σ H ρ vs τ → Dd.nx ρ → D.nx σ H
  rt : ∀ σ H ρ v x, SS C σ H ρ (vs ++ [v]) (τ ++ [x]) → Dd.rt x ρ → D.rt v H
  bk : ∀ σ H ρ, SS C σ H ρ vs τ → Dd.bk ρ → D.bk σ H
  ct : ∀ σ H ρ, SS C σ H ρ vs τ → Dd.ct ρ → D.ct σ H
def SimS (C : Ctx) (t : TS) (f : DS) : Prop := ∀ (σ : St) (H : Hp) (ρ : List T) (vs : List V) (τ : List T) (Dd : DEnds) (D : Ends), SS C σ H ρ vs τ → noAliL τ = true → f Dd ρ → EndsOk C vs τ Dd D → t D σ H
structure DPS (C : Ctx) (st : Stmt) (f : DS) : Prop where
  ex : ∃ t, PS C.X st t ∧ SimS C t f
structure DPSs (C : Ctx) (st : List Stmt) (f : DS) : Prop where
  ex : ∃ t, PSs C.X st t ∧ SimS C t f
def dNext : DS := fun D ρ => D.nx ρ
/-- one behind another; it does not unfold by itself -/
structure dSeq (f g : DS) (D : DEnds) (ρ : List T) : Prop where
  run : f { D with nx := fun ρ1 => g D ρ1 } ρ
def dAsg (f : DE) (g : DG) : DS := fun D ρ => f ρ fun x ρ1 => g x ρ1 D.nx
def dDrop (f : DE) : DS := fun D ρ => f ρ fun _ ρ1 => D.nx ρ1
def retT (R : T → List T → Prop) (x : T) (ρ : List T) : Prop := match x with
  | .bor d => safe d = true ∧ R (.dat d) ρ
  | .ali _ => False
  | x => match noAli x with
    | true => R x ρ
    | false => False
def dRet (f : DE) : DS := fun D ρ => f ρ fun x ρ1 => retT D.rt x ρ1
def dIfS (c : DTt) (f g : DS) : DS := fun D ρ => c ρ fun b ρ1 => br b (f D ρ1) (g D ρ1)
section
variable {C : Ctx} {st : Stmt} {rest : List Stmt} {f g : DS} {fe : DE} {e tg c : Expr} {pos pos' : Pos} {dg : DG} {tc : DTt} {i : Nat} {x : Str}
theorem dss_nil : DPSs C [] dNext := ⟨_, pss_nil, fun σ H ρ vs τ Dd D I _ h k => k.nx _ _ _ I h⟩
theorem dss_cons (h : DPS C st f) (h2 : DPSs C rest g) : DPSs C (st :: rest) (dSeq f g) :=
  let ⟨_, p, s⟩ := h.ex; let ⟨_, p2, s2⟩ := h2.ex
  ⟨_, pss_cons p p2, fun σ H ρ vs τ Dd D I na h k => s σ H ρ vs τ { Dd with nx := fun ρ1 => g Dd ρ1 } _ I na h.run ⟨fun σ1 H1 ρ1 I1 q => s2 σ1 H1 ρ1 vs τ Dd D I1 na q k, k.rt, k.bk, k.ct⟩⟩
theorem dss_one (h : DPS C st f) : DPSs C [st] f := let ⟨_, p, s⟩ := h.ex; ⟨_, pss_one p, s⟩
theorem ds_pass : DPS C (.Pass pos) dNext := ⟨_, ps_pass, fun σ H ρ vs τ Dd D I _ h k => k.nx _ _ _ I h⟩
def dBreak : DS := fun D ρ => D.bk ρ
def dCont : DS := fun D ρ => D.ct ρ
theorem ds_break : DPS C (.Break pos) dBreak := ⟨_, ps_break, fun σ H ρ vs τ Dd D I _ h k => k.bk _ _ _ I h⟩
theorem ds_cont : DPS C (.Continue pos) dCont := ⟨_, ps_continue, fun σ H ρ vs τ Dd D I _ h k => k.ct _ _ _ I h⟩
def dNever : DS := fun _ _ => False
theorem ds_never : DPS C st dNever := ⟨_, ps_never, fun σ H ρ vs τ Dd D I _ h k => h.elim⟩
theorem dss_never : DPSs C rest dNever := ⟨_, pss_never, fun σ H ρ vs τ Dd D I _ h k => h.elim⟩
theorem ds_expr (h : DPE C e fe) (hs : swapsWith e none pos.line C.X.env = pure false := by rfl) : DPS C (.Expr e pos) (dDrop fe) :=
  let ⟨_, p, s⟩ := h.ex
  ⟨_, ps_expr p hs, fun σ H ρ vs τ Dd D I na h k => s σ H ρ vs τ _ _ I h fun v H1 x ρ1 I1 q => k.nx _ _ _ I1.pop q⟩
theorem ret_ok {fx : T} {v : V} {σ : St} {H : Hp} {ρ : List T} {vs : List V} {τ : List T} {R : T → List T → Prop} (I : SS C σ H ρ (vs ++ [v]) (τ ++ [fx])) (h : retT R fx ρ) : ∃ x, SS C σ H ρ (vs ++ [v]) (τ ++ [x]) ∧ R x ρ ∧ noAli x = true := by
  cases fx with
  | bor d =>
    obtain ⟨ow, J⟩ := I
    have top := J.top.bor_inv
    exact ⟨_, J.oneD J.lt1 (J.safe top h.1), h.2, rfl⟩
  | ali _ => exact h.elim
  | lst ts => obtain ⟨n, h⟩ := na_ok h; exact ⟨_, I, h, n⟩
  | tup ts => obtain ⟨n, h⟩ := na_ok h; exact ⟨_, I, h, n⟩
  | dat _ => exact ⟨_, I, h, rfl⟩
  | own _ => exact ⟨_, I, h, rfl⟩
  | lbo _ => exact ⟨_, I, h, rfl⟩
  | dct _ => exact ⟨_, I, h, rfl⟩
  | scr _ => exact ⟨_, I, h, rfl⟩
  | emp => exact ⟨_, I, h, rfl⟩
theorem ds_ret (h : DPE C e fe) : DPS C (.Return (some e) pos) (dRet fe) :=
  let ⟨_, p, s⟩ := h.ex
  ⟨_, ps_ret p, fun σ H ρ vs τ Dd D I na h k => s σ H ρ vs τ _ _ I h fun v H1 x ρ1 I1 q => by
    obtain ⟨y, I2, q2, _⟩ := ret_ok I1 q
    exact k.rt _ _ _ _ _ I2 q2⟩
def dRetN : DS := fun D ρ => D.rt (.dat .none) ρ
theorem ds_retN : DPS C (.Return none pos) dRetN := ⟨_, ps_retN, fun σ H ρ vs τ Dd D I na h k => k.rt _ _ _ _ _ I.non h⟩
theorem ds_if {a b : List Stmt} (h : DPT C c tc) (ha : DPSs C a f) (hb : DPSs C b g) : DPS C (.If c a b pos) (dIfS tc f g) :=
  let ⟨_, p, s⟩ := h.ex; let ⟨_, pa, sa⟩ := ha.ex; let ⟨_, pb, sb⟩ := hb.ex
  ⟨_, ps_if p pa pb, fun σ H ρ vs τ Dd D I na h k => s σ H ρ vs τ _ _ I h fun b H1 ρ1 I1 q => by
    cases b with
    | true => rw [if_pos rfl]; exact sa σ H1 ρ1 vs τ Dd D I1 na (q.t rfl) k
    | false => rw [if_neg (by decide)]; exact sb σ H1 ρ1 vs τ Dd D I1 na (q.f rfl) k⟩
theorem sim_asg {te : TE} {g : TG} (hs : Sim C te fe) (hg : SimG C g dg) : SimS C (tAsg te g) (dAsg fe dg) := fun σ H ρ vs τ Dd D I na h k =>
  hs σ H ρ vs τ _ _ I h fun v H1 x ρ1 I1 q => hg σ H1 ρ1 vs τ v x _ _ I1 na q fun σ2 H2 ρ2 I2 q2 => k.nx _ _ _ I2 q2
theorem ds_asg (h : DPE C e fe) (hg : DPG C tg dg) (hs : swapsWithSole [tg] e pos.line C.X.env = pure false := by rfl) (hw : swappedStores [tg] e C.X.env = pure none := by rfl)
    (h1 : (assignEach [tg] C.X.env).map (·.2) = [assign tg C.X.env] := by rfl) : DPS C (.Assign [tg] e pos) (dAsg fe dg) :=
  let ⟨_, p, s⟩ := h.ex; let ⟨_, pg, sg⟩ := hg.ex
  ⟨_, ps_asg p pg hs hw h1, sim_asg s sg⟩
theorem ds_set (hN : C.X.N.Nodup) (hi : C.X.N[i]? = some x) (hx : Loc C.X.env.scope x) (nl : i ∉ C.lent) (h : DPE C e fe) (hs : swapsWith e (some (.Name x pos')) pos.line C.X.env = pure false := by rfl)
    (hf : C.X.fn x = true ∨ C.X.env.scope.names.lookup x = some .local := by first | exact .inl rfl | exact .inr rfl | assumption) : DPS C (.Assign [.Name x pos'] e pos) (dAsg fe (dgName i)) :=
  let ⟨_, p, s⟩ := h.ex
  let ⟨_, _, sg⟩ := (dg_name (pos := pos') hN hi hx nl hf).ex
  ⟨_, ps_set hN hi hx p hs hf, sim_asg s (by
    intro σ H ρ vs τ v t Qd Q I na q k
    obtain ⟨nt, q⟩ := na_ok q
    by_cases z : i < ρ.length
    · exact k _ _ _ (I.assign z nt (.inl na) nl) q
    · refine k _ _ ρ ?_ (by rw [getElem?_of_set z] at q; exact q)
      rw [getElem?_of_set (by rw [← I.lnN]; exact z)]
      exact I.pop)⟩
/-- x += e, x -= e of an int -/
def dAug (i : Nat) (op : Int → Int → Int) (f : DE) : DS := fun D ρ => wI ((ρ[i]?).bind toD) fun n => f ρ fun x ρ1 => wI (lk ρ1 x) fun m => D.nx (ρ1.set i (.dat (.int (op n m))))
theorem sim_aug {te : TE} {op : Int → Int → Int} (hs : Sim C te fe) (nl : i ∉ C.lent) : SimS C (tAug i te (ipI op)) (dAug i op fe) := fun σ H ρ vs τ Dd D I na h k => by
  obtain ⟨n, e1, h⟩ := wI_some h
  simp only [Option.bind_eq_some_iff] at e1
  obtain ⟨t, et, ed⟩ := e1
  obtain ⟨ow, J⟩ := id I
  rcases J.slot et with rfl | ⟨v, hv, r⟩
  · simp [toD] at ed
  · have ev : v = .int n := (r.toD ed).int_eq
    subst ev
    refine ⟨_, hv, hs σ H ρ vs τ _ _ I h fun w H1 x ρ1 I1 q => ?_⟩
    obtain ⟨m, em, q⟩ := wI_some q
    refine ⟨n, m, rfl, (I1.lk1 em).int_eq, ?_⟩
    have hi : i < σ.length := (List.getElem?_eq_some_iff.mp hv).1
    exact k.nx _ _ _ ((I1.pop.int _).assign (by rw [I1.lnN]; exact hi) rfl (.inl na) nl) q
theorem ds_augAdd (hN : C.X.N.Nodup) (hi : C.X.N[i]? = some x) (hx : Loc C.X.env.scope x) (nl : i ∉ C.lent) (h : DPE C e fe)
    (hf : C.X.fn x = true ∨ C.X.env.scope.names.lookup x = some .local := by first | exact .inl rfl | exact .inr rfl | assumption) : DPS C (.AugAssign (.Name x pos') .Add e pos) (dAug i (fun a b => a + b) fe) :=
  let ⟨_, p, s⟩ := h.ex; ⟨_, ps_aug hN hi hx p ip_add hf, sim_aug s nl⟩
theorem ds_augSub (hN : C.X.N.Nodup) (hi : C.X.N[i]? = some x) (hx : Loc C.X.env.scope x) (nl : i ∉ C.lent) (h : DPE C e fe)
    (hf : C.X.fn x = true ∨ C.X.env.scope.names.lookup x = some .local := by first | exact .inl rfl | exact .inr rfl | assumption) : DPS C (.AugAssign (.Name x pos') .Sub e pos) (dAug i (fun a b => a - b) fe) :=
  let ⟨_, p, s⟩ := h.ex; ⟨_, ps_aug hN hi hx p ip_sub hf, sim_aug s nl⟩
end

/-! ### while -/
def dWhile (c : DTt) (f : DS) : DS := fun D ρ => ∃ W : Nat → List T → Prop, (∃ m, W m ρ) ∧ ∀ m ρ, W m ρ → c ρ fun b ρ1 => br b (f { D with nx := fun ρ2 => ∃ m', m' < m ∧ W m' ρ2, ct := fun ρ2 => ∃ m', m' < m ∧ W m' ρ2, bk := D.nx } ρ1) (D.nx ρ1)
section
variable {C : Ctx} {f : DS} {c : Expr} {body : List Stmt} {tc : DTt} {pos : Pos}
theorem ds_while (hp : PassesOwn (model C.X.prog C.X.w) C.X.A C.X.env C.X.xe) (hc : DPT C c tc) (hb : DPSs C body f) : DPS C (.While c body [] pos) (dWhile tc f) :=
  let ⟨_, p, s⟩ := hc.ex; let ⟨_, pb, sb⟩ := hb.ex
  ⟨_, ps_while hp p pb, fun σ H ρ vs τ Dd D I na h k => by
    obtain ⟨W, ⟨m0, w0⟩, turn⟩ := h
    refine ⟨fun m σ H => ∃ ρ, SS C σ H ρ vs τ ∧ W m ρ, ⟨m0, ρ, I, w0⟩, ?_⟩
    rintro m σ1 H1 ⟨ρ1, I1, w1⟩
    refine s σ1 H1 ρ1 vs τ _ _ I1 (turn m ρ1 w1) fun b H2 ρ2 I2 q => ?_
    cases b with
    | true =>
      rw [if_pos rfl]
      refine ⟨fun σ' H' => ∃ ρ', SS C σ' H' ρ' vs τ ∧ ∃ m', m' < m ∧ W m' ρ', fun σ' H' ⟨ρ', I', m', hm, w⟩ => ⟨m', hm, ρ', I', w⟩, ?_⟩
      exact sb σ1 H2 ρ2 vs τ _ _ I2 na (q.t rfl) ⟨fun σ' H' ρ' I' q => ⟨ρ', I', q⟩, k.rt, k.nx, fun σ' H' ρ' I' q => ⟨ρ', I', q⟩⟩
    | false => rw [if_neg (by decide)]; exact k.nx _ _ _ I2 (q.f rfl)⟩
end

/-! ### what is walked -/
/-- an iterator over its: its sources stay among the temporaries -/
def WalksD (C : Ctx) (J : It) (sv : List V) (sx : List T) (its : List T) : Prop := ∀ (i : Nat) (σ : St) (H : Hp) (ρ : List T) (vs : List V) (τ : List T), τ.length = vs.length → SS C σ H ρ (vs ++ sv) (τ ++ sx) →
  (its.length ≤ i → J.stop i H) ∧ ∀ t, its[i]? = some t → J.go i H ∧ ∀ w H', J.yld i H w H' → SS C σ H' ρ (vs ++ sv ++ [w]) (τ ++ sx ++ [t])
abbrev DI := List T → (List T → List T → Prop) → Prop
def SimI (C : Ctx) (wi : TI) (f : DI) : Prop := ∀ (σ : St) (H : Hp) (ρ : List T) (vs : List V) (τ : List T) (Qd : List T → List T → Prop) (R : It → Hp → Prop), SS C σ H ρ vs τ → f ρ Qd →
  (∀ J H' sv sx its ρ', SS C σ H' ρ' (vs ++ sv) (τ ++ sx) → noAliL sx = true → WalksD C J sv sx its → Qd its ρ' → R J H') → wi σ H R
structure DPI (C : Ctx) (tg it : Expr) (f : DI) : Prop where
  ex : ∃ wi, PI C.X tg it wi ∧ SimI C wi f
theorem SS.ltE {C : Ctx} {σ : St} {H : Hp} {ρ : List T} {vs : List V} {τ : List T} (h : SS C σ H ρ vs τ) : τ.length = vs.length := let ⟨_, I⟩ := h; I.lt
def dFor (g : DG) (f : DS) (D : DEnds) : List T → List T → Prop
  | [], ρ => D.nx ρ
  | t :: ts, ρ => g t ρ fun ρ1 => f { D with nx := fun ρ2 => dFor g f D ts ρ2, ct := fun ρ2 => dFor g f D ts ρ2, bk := D.nx } ρ1
def dForS (fi : DI) (g : DG) (f : DS) : DS := fun D ρ => fi ρ fun its ρ1 => dFor g f D its ρ1
section
variable {C : Ctx} {f : DS} {fi : DI} {dg : DG} {tg it : Expr} {body : List Stmt} {pos : Pos}
theorem ds_for (hp : PassesOwn (model C.X.prog C.X.w) C.X.A C.X.env C.X.xe) (hc : C.X.calm = true) (hi : DPI C tg it fi) (hg : DPG C tg dg) (hb : DPSs C body f) (hs : ∀ x, foldedSetIterable it C.X.env x = pure x := by intro _; rfl) :
    DPS C (.For tg it body [] pos) (dForS fi dg f) :=
  let ⟨_, p, s⟩ := hi.ex; let ⟨_, pg, sg⟩ := hg.ex; let ⟨_, pb, sb⟩ := hb.ex
  ⟨_, ps_for hp hc p pg pb hs, fun σ H ρ vs τ Dd D I na h k => s σ H ρ vs τ _ _ I h fun J H1 sv sx its ρ1 I1 nx wk q => by
    have na1 : noAliL (τ ++ sx) = true := by rw [noAliL_append, na, nx]; rfl
    have hτ := I.ltE
    refine ⟨fun i m σ H => m = its.length - i ∧ i ≤ its.length ∧ ∃ ρ, SS C σ H ρ (vs ++ sv) (τ ++ sx) ∧ dFor dg f Dd (its.drop i) ρ, ⟨_, rfl, Nat.zero_le _, ρ1, I1, q⟩, ?_⟩
    rintro i m σ2 H2 ⟨rfl, hi, ρ2, I2, q2⟩
    obtain ⟨st, go⟩ := wk i σ2 H2 ρ2 vs τ hτ I2
    by_cases hlt : i < its.length
    · have e : its[i]? = some its[i] := List.getElem?_eq_getElem hlt
      obtain ⟨g1, y⟩ := go _ e
      refine .inr ⟨g1, fun σ' H' => ∃ ρ', SS C σ' H' ρ' (vs ++ sv) (τ ++ sx) ∧ dFor dg f Dd (its.drop (i + 1)) ρ', fun σ' H' ⟨ρ', I', q'⟩ => ⟨_, by omega, rfl, by omega, ρ', I', q'⟩, fun w H3 hy => ?_⟩
      have I3 := y w H3 hy
      rw [List.drop_eq_getElem_cons hlt] at q2
      exact sg σ2 H3 ρ2 _ _ w _ _ _ I3 na1 q2 fun σ4 H4 ρ4 I4 q4 => sb σ4 H4 ρ4 _ _ _ _ I4 na1 q4
        ⟨fun σ' H' ρ' I' q' => ⟨ρ', I', q'⟩, fun σ' H' ρ' u z I' q' => k.rt _ _ _ _ _ (I'.nip hτ) q', fun σ' H' ρ' I' q' => k.nx _ _ _ (I'.drop hτ) q', fun σ' H' ρ' I' q' => ⟨ρ', I', q'⟩⟩
    · have e : i = its.length := by omega
      subst e
      rw [List.drop_length] at q2
      exact .inl ⟨st (Nat.le_refl _), k.nx _ _ _ (I2.drop hτ) q2⟩⟩
end
/-- an invariant over the turns -/
theorem dFor_inv {g : DG} {f : DS} {D : DEnds} {its : List T} {ρ : List T} (Pv : Nat → List T → Prop) (h0 : Pv 0 ρ)
    (hs : ∀ i t ρ (K : List T → Prop), its[i]? = some t → Pv i ρ → (∀ ρ', Pv (i + 1) ρ' → K ρ') → g t ρ fun ρ1 => f { D with nx := K, ct := K, bk := D.nx } ρ1) (hd : ∀ ρ, Pv its.length ρ → D.nx ρ) : dFor g f D its ρ := by
  have go : ∀ (l : List T) (i : Nat) ρ, its.drop i = l → Pv i ρ → i ≤ its.length → dFor g f D l ρ := by
    intro l
    induction l with
    | nil =>
      intro i ρ e p hi
      have : its.length ≤ i := List.drop_eq_nil_iff.mp e
      exact hd ρ (by rw [show its.length = i by omega]; exact p)
    | cons t l ih =>
      intro i ρ e p hi
      have hlt : i < its.length := by
        by_cases z : i < its.length
        · exact z
        · rw [List.drop_of_length_le (by omega)] at e; cases e
      rw [List.drop_eq_getElem_cons hlt] at e
      injection e with e1 e2
      exact hs i t ρ (fun ρ2 => dFor g f D l ρ2) (by rw [← e1]; exact List.getElem?_eq_getElem hlt) p fun ρ2 p2 => ih (i + 1) ρ2 e2 p2 (by omega)
  exact go its 0 ρ rfl h0 (Nat.zero_le _)
end Ds
namespace Ds
open PySem L2

/-- list or tuple, walked -/
def iSeqA (K : PySem.W.Frag) (tl : TE) : TI := fun σ H R => tl σ H fun x H1 => ∃ a, x = .ref a ∧ (((∃ xs, SqL K H1 a xs) ∧ R (Itl K a) H1) ∨ ((∃ xs, SqT K H1 a xs) ∧ R (Itt K a) H1))
theorem pi_seqA {X : Cx} {tg l : Expr} {tl : TE} (hl : PE X l tl) : PI X tg l (iSeqA X.K tl) := by
  refine ⟨fun pins s σ H R I h => ?_⟩
  refine thn (hl.run pins s σ H _ I h) fun v s1 ⟨x, H1, I1, r1, q1⟩ => ?_
  obtain ⟨a, e, q1⟩ := q1
  subst e
  cases r1
  rcases q1 with ⟨⟨xs, hq⟩, q⟩ | ⟨⟨xs, hq⟩, q⟩
  · obtain ⟨its, rv, p, hz⟩ := I1.list hq
    refine wpAny_pyIter_list p.isList ?_
    refine ⟨s1.heap.objs.size, [s1.heap.objs.size], _, _, H1, rfl, I1.kept (t' := s1.toks) fun b o e => Heap.get?_push_of_some _ e, turn_list a _, ⟨_, Heap.get?_push_size _ rfl, rfl, rfl⟩, fun b hb => ?_, q⟩
    have e : b = s1.heap.objs.size := by simpa using hb
    subst e
    exact I1.fpOk (Nat.le_refl _) (I1.hok.fresh (Nat.le_refl _))
  · obtain ⟨its, rv, p, hz⟩ := I1.tuple hq
    refine wpAny_pyIter_tuple (show s1.heap.IsTuple a its.toArray from p) ?_
    refine ⟨s1.heap.objs.size, [s1.heap.objs.size], _, _, H1, rfl, I1.kept (t' := s1.toks) fun b o e => Heap.get?_push_of_some _ e, turn_tuple a _, ⟨_, Heap.get?_push_size _ rfl, rfl, rfl⟩, fun b hb => ?_, q⟩
    have e : b = s1.heap.objs.size := by simpa using hb
    subst e
    exact I1.fpOk (Nat.le_refl _) (I1.hok.fresh (Nat.le_refl _))

/-- the items that a walk of x yields -/
def itemsT : T → Option (List T)
  | .dat (.list ds) => some (ds.map .dat)
  | .dat (.tuple ds) => some (ds.map .dat)
  | .bor (.list ds) => some (ds.map .bor)
  | .bor (.tuple ds) => some (ds.map .bor)
  | .own ds => some (ds.map .dat)
  | .lbo ds => some (ds.map .bor)
  | _ => none
def isL : T → Bool
  | .dat (.tuple _) => false
  | .bor (.tuple _) => false
  | _ => true
section
variable {C : Ctx} {σ : St} {H : Hp} {ρ : List T} {vs xs : List V} {τ ts : List T} {v : V} {t x : T} {ow : Nat → List Addr} {its : List T}
/-- what a source is -/
theorem SI.src (J : SI C σ H ρ vs τ ow) {os : List Addr} (r : TIs C.K (Bar C ow) (BarB C ow) (wipe σ C.cv) H x v os) (e : itemsT x = some its) : ∃ a zs, v = .ref a ∧ (isL x = true → SqL C.K H a zs) ∧ (isL x = false → SqT C.K H a zs) ∧ its.length = zs.length ∧
    ∀ (i : Nat) (t : T), its[i]? = some t → ∃ w, zs[i]? = some w ∧ TIs C.K (Bar C ow) (BarB C ow) (wipe σ C.cv) H t w [] := by
  have dd : ∀ {ds : List D} {zs : List V}, DIsL C.K (Bar C ow) H ds zs → (ds.map T.dat).length = zs.length ∧ ∀ (i : Nat) (t : T), (ds.map T.dat)[i]? = some t → ∃ w, zs[i]? = some w ∧ TIs C.K (Bar C ow) (BarB C ow) (wipe σ C.cv) H t w [] := fun {ds zs} q => by
    refine ⟨by rw [List.length_map]; exact q.length, fun i t e => ?_⟩
    rw [List.getElem?_map, Option.map_eq_some_iff] at e
    obtain ⟨d, e1, rfl⟩ := e
    obtain ⟨w, hw, q⟩ := q.get e1
    exact ⟨w, hw, .dat q⟩
  have bb : ∀ {ds : List D} {zs : List V}, DIsL C.K (BarB C ow) H ds zs → (ds.map T.bor).length = zs.length ∧ ∀ (i : Nat) (t : T), (ds.map T.bor)[i]? = some t → ∃ w, zs[i]? = some w ∧ TIs C.K (Bar C ow) (BarB C ow) (wipe σ C.cv) H t w [] := fun {ds zs} q => by
    refine ⟨by rw [List.length_map]; exact q.length, fun i t e => ?_⟩
    rw [List.getElem?_map, Option.map_eq_some_iff] at e
    obtain ⟨d, e1, rfl⟩ := e
    obtain ⟨w, hw, q⟩ := q.get e1
    exact ⟨w, hw, .bor q⟩
  cases r with
  | dat d =>
    cases d with
    | list e0 n q => simp [itemsT] at e; subst e; exact ⟨_, _, rfl, fun _ => .of e0, fun z => by simp [isL] at z, dd q⟩
    | tuple e0 q => simp [itemsT] at e; subst e; exact ⟨_, _, rfl, fun z => by simp [isL] at z, fun _ => e0.sq, dd q⟩
    | _ => simp [itemsT] at e
  | bor d =>
    cases d with
    | list e0 n q => simp [itemsT] at e; subst e; exact ⟨_, _, rfl, fun _ => .of e0, fun z => by simp [isL] at z, bb q⟩
    | tuple e0 q => simp [itemsT] at e; subst e; exact ⟨_, _, rfl, fun z => by simp [isL] at z, fun _ => e0.sq, bb q⟩
    | _ => simp [itemsT] at e
  | own e0 q => simp [itemsT] at e; subst e; exact ⟨_, _, rfl, fun _ => .of e0, fun z => by simp [isL] at z, dd q⟩
  | lbo e0 q => simp [itemsT] at e; subst e; exact ⟨_, _, rfl, fun _ => .of e0, fun z => by simp [isL] at z, bb q⟩
  | _ => simp [itemsT] at e
theorem itemsT_na (e : itemsT x = some its) : noAli x = true := by
  unfold itemsT at e
  split at e <;> first | rfl | simp at e
end
section
variable {C : Ctx} {tg it e e2 : Expr} {fe : DE} {fs : DA} {pos p : Pos} {x y : T} {its its2 : List T} {σ : St} {H : Hp} {ρ : List T} {vs : List V} {τ : List T} {v w : V}
def dSeqI (f : DE) : DI := fun ρ Q => f ρ fun x ρ1 => wO (itemsT x) fun its => Q its ρ1
theorem SS.last {sv : List V} {sx : List T} (I : SS C σ H ρ (vs ++ sv) (τ ++ sx)) : SS C σ H ρ (vs ++ sv) (τ ++ sx) := I
/-- a value that owns nothing, told in the state as it is -/
theorem SS.push1 (I : SS C σ H ρ vs τ) {t : T} (ow : Nat → List Addr) (J : SI C σ H ρ vs τ ow) (r : TIs C.K (Bar C ow) (BarB C ow) (wipe σ C.cv) H t v []) : SS C σ H ρ (vs ++ [v]) (τ ++ [t]) := by
  have J' : SI C σ H ρ (vs ++ []) (τ ++ []) ow := by simpa using J
  exact J'.one J.lt (Same.refl H) v t [] (fun ow' m1 m2 _ => r.move m1 m2 (fun _ _ _ q => q) (.inl rfl)) List.nodup_nil (fun _ z => by simp at z) fun _ z => by simp at z
theorem walks_list {a : Addr} (e : itemsT x = some its) (hk : isL x = true) : WalksD C (Itl C.K a) [.ref a] [x] its := by
  intro i σ H ρ vs τ hτ I
  obtain ⟨ow, J⟩ := id I
  obtain ⟨a', zs, ea, hq, _, hlen, at_⟩ := J.src J.top e
  cases ea
  have hq := hq hk
  refine ⟨fun h => ⟨zs, hq, by omega⟩, fun t et => ?_⟩
  obtain ⟨w, hw, r⟩ := at_ i t et
  refine ⟨⟨zs, w, hq, hw⟩, fun w' H' hy => ?_⟩
  obtain ⟨rfl, hy⟩ := hy
  have := hy zs hq
  rw [hw] at this; cases this
  exact I.push1 ow J r
theorem walks_tup {a : Addr} (e : itemsT x = some its) (hk : isL x = false) : WalksD C (Itt C.K a) [.ref a] [x] its := by
  intro i σ H ρ vs τ hτ I
  obtain ⟨ow, J⟩ := id I
  obtain ⟨a', zs, ea, _, hq, hlen, at_⟩ := J.src J.top e
  cases ea
  have hq := hq hk
  refine ⟨fun h => ⟨zs, hq, by omega⟩, fun t et => ?_⟩
  obtain ⟨w, hw, r⟩ := at_ i t et
  refine ⟨⟨zs, w, hq, hw⟩, fun w' H' hy => ?_⟩
  obtain ⟨rfl, hy⟩ := hy
  have := hy zs hq
  rw [hw] at this; cases this
  exact I.push1 ow J r
theorem di_seq (h : DPE C it fe) : DPI C tg it (dSeqI fe) :=
  let ⟨_, p, s⟩ := h.ex
  ⟨_, pi_seqA p, fun σ H ρ vs τ Qd R I h k => s σ H ρ vs τ _ _ I h fun v H1 x ρ1 I1 q => by
    obtain ⟨its, e, q⟩ := wO_some q
    obtain ⟨ow, J⟩ := id I1
    obtain ⟨a, zs, rfl, h1, h2, _⟩ := J.src J.top e
    have na : noAliL [x] = true := by simp [noAliL, itemsT_na e]
    refine ⟨a, rfl, ?_⟩
    cases hk : isL x with
    | true => exact .inl ⟨⟨zs, h1 hk⟩, k _ _ _ _ _ _ I1 na (walks_list e hk) q⟩
    | false => exact .inr ⟨⟨zs, h2 hk⟩, k _ _ _ _ _ _ I1 na (walks_tup e hk) q⟩⟩

/-- ranges -/
def rngT (lo : Int) (n : Nat) : List T := (List.range n).map fun k => .dat (.int (lo + (k : Nat)))
def dRange1 (f : DA) : DI := fun ρ Q => f ρ fun ts ρ1 => match ts with
  | [x] => wI (lk ρ1 x) fun j => (-(2 ^ 62) ≤ j ∧ j < 2 ^ 62) ∧ Q (rngT 0 j.toNat) ρ1
  | _ => False
def dRange2 (f : DA) : DI := fun ρ Q => f ρ fun ts ρ1 => match ts with
  | [x, y] => wI (lk ρ1 x) fun i => wI (lk ρ1 y) fun j => (-(2 ^ 62) ≤ i ∧ i < 2 ^ 62 ∧ -(2 ^ 62) ≤ j ∧ j < 2 ^ 62) ∧ Q (rngT i (j - i).toNat) ρ1
  | _ => False
theorem rngT_get {lo : Int} {n i : Nat} {t : T} (e : (rngT lo n)[i]? = some t) : i < n ∧ t = .dat (.int (lo + (i : Nat))) := by
  unfold rngT at e
  rw [List.getElem?_map, Option.map_eq_some_iff] at e
  obtain ⟨k, e1, rfl⟩ := e
  obtain ⟨h1, h2⟩ := List.getElem?_eq_some_iff.mp e1
  simp at h1 h2
  subst h2
  exact ⟨h1, rfl⟩
theorem rngT_len {lo : Int} {n : Nat} : (rngT lo n).length = n := by simp [rngT]
theorem walks_rng {lo : Int} {n : Nat} : WalksD C (Itr lo n) [] [] (rngT lo n) := by
  intro i σ H ρ vs τ hτ I
  refine ⟨fun h => by rw [rngT_len] at h; exact h, fun t et => ?_⟩
  obtain ⟨h1, rfl⟩ := rngT_get et
  refine ⟨h1, fun w H' hy => ?_⟩
  obtain ⟨rfl, rfl⟩ := hy
  exact SS.int I _
theorem di_range1 (hg : Gl C.X "range") (hm : C.X.mg "range" = none) (ha : DPA C [e] fs) (hs : starEach [e] C.X.env = [(false, eval e C.X.env)] := by rfl) : DPI C tg (.Call (.Name "range" p) [e] [] pos) (dRange1 fs) :=
  let ⟨_, pa, sa⟩ := ha.ex
  ⟨_, pi_range1 hg hm pa hs, fun σ H ρ vs τ Qd R I h k => sa σ H ρ vs τ _ _ I h fun xs H1 ts ρ1 I1 hl q => by
    split at q
    · obtain ⟨v, rfl⟩ := len1 hl
      obtain ⟨j, ej, hb, q⟩ := wI_some q
      have I1' : SS C σ H1 ρ1 (vs ++ [v]) _ := I1
      exact ⟨j, by rw [(I1'.lk1 ej).int_eq], hb.1, hb.2, k _ _ [] [] _ _ (by simpa using I1'.pop) rfl walks_rng q⟩
    · exact q.elim⟩
theorem di_range2 (hg : Gl C.X "range") (hm : C.X.mg "range" = none) (ha : DPA C [e, e2] fs) (hs : starEach [e, e2] C.X.env = [(false, eval e C.X.env), (false, eval e2 C.X.env)] := by rfl) (hs2 : starEach [e2] C.X.env = [(false, eval e2 C.X.env)] := by rfl) :
    DPI C tg (.Call (.Name "range" p) [e, e2] [] pos) (dRange2 fs) :=
  let ⟨_, pa, sa⟩ := ha.ex
  ⟨_, pi_range2 hg hm pa hs hs2, fun σ H ρ vs τ Qd R I h k => sa σ H ρ vs τ _ _ I h fun xs H1 ts ρ1 I1 hl q => by
    split at q
    · obtain ⟨v, w, rfl⟩ := len2 hl
      obtain ⟨i, ei, q⟩ := wI_some q
      obtain ⟨j, ej, hb, q⟩ := wI_some q
      have hτ := I.ltE
      obtain ⟨v', hv, d1⟩ := I1.lkA hτ (j := 0) rfl ei
      obtain ⟨w', hw, d2⟩ := I1.lkA hτ (j := 1) rfl ej
      simp at hv hw
      subst hv hw
      exact ⟨i, j, by rw [d1.int_eq, d2.int_eq], hb, k _ _ [] [] _ _ (by simpa using I1.drop hτ) rfl walks_rng q⟩
    · exact q.elim⟩

/-- pairs of a place and an item, of two items -/
def pairT : T → T → T
  | .dat a, .dat b => .dat (.tuple [a, b])
  | a, b => .tup [a, b]
def enumT (its : List T) : List T := its.zipIdx.map fun q => pairT (.dat (.int (q.2 : Nat))) q.1
def zipT (its its2 : List T) : List T := (its.zip its2).map fun q => pairT q.1 q.2
theorem unow {K : PySem.W.Frag} {B Bb : Addr → Prop} {σ : St} {H : Hp} {t u : T} {v w : V} {p : Addr} (hp : H p = some (.tup [v, w])) (nb : ¬ B p) (r : TIs K B Bb σ H t v []) (r2 : TIs K B Bb σ H u w []) : TIs K B Bb σ H (pairT t u) (.ref p) [] := by
  unfold pairT
  split
  · exact .dat (.tuple (.inl ⟨.inl hp, nb⟩) (.cons r.dat_inv (.cons r2.dat_inv .nil)))
  · exact .tup hp nb (.cons (o1 := []) (o2 := []) r (.cons (o1 := []) (o2 := []) r2 .nil))
theorem SS.pushPair (I : SS C σ H ρ vs τ) (ow : Nat → List Addr) (J : SI C σ H ρ vs τ ow) {t u : T} {p : Addr} (hp : H p = none) (r : TIs C.K (Bar C ow) (BarB C ow) (wipe σ C.cv) H t v []) (r2 : TIs C.K (Bar C ow) (BarB C ow) (wipe σ C.cv) H u w []) :
    SS C σ (upd H p (.tup [v, w])) ρ (vs ++ [.ref p]) (τ ++ [pairT t u]) := by
  have J' : SI C σ H ρ (vs ++ []) (τ ++ []) ow := by simpa using J
  exact J'.one J.lt (same_upd hp) (.ref p) _ [] (fun ow' m1 m2 hb => unow upd_same (fun z => (hb p z).elim (J.nbar hp) (by simp)) (r.move m1 m2 (fun _ _ z => by simp at z) (.inl rfl)) (r2.move m1 m2 (fun _ _ z => by simp at z) (.inl rfl)))
    List.nodup_nil (fun _ z => by simp at z) fun _ z => by simp at z
def dEnumI (f : DA) : DI := fun ρ Q => f ρ fun ts ρ1 => match ts with
  | [x] => isL x = true ∧ wO (itemsT x) fun its => Q (enumT its) ρ1
  | _ => False
theorem walks_enum {a : Addr} (e : itemsT x = some its) (hk : isL x = true) : WalksD C (Ite C.K a) [.ref a] [x] (enumT its) := by
  intro i σ H ρ vs τ hτ I
  obtain ⟨ow, J⟩ := id I
  obtain ⟨a', zs, ea, hq, _, hlen, at_⟩ := J.src J.top e
  cases ea
  have hq := hq hk
  refine ⟨fun h => ⟨zs, hq, by simp [enumT] at h; omega⟩, fun t et => ?_⟩
  unfold enumT at et
  rw [List.getElem?_map, Option.map_eq_some_iff] at et
  obtain ⟨q, e1, rfl⟩ := et
  rw [List.getElem?_zipIdx] at e1
  simp only [Option.map_eq_some_iff] at e1
  obtain ⟨t, et, rfl⟩ := e1
  obtain ⟨w, hw, r⟩ := at_ i t et
  refine ⟨⟨zs, w, hq, hw⟩, fun w' H' hy => ?_⟩
  obtain ⟨p, w2, rfl, hp, rfl, hy⟩ := hy
  have := hy zs hq
  rw [hw] at this; cases this
  have e0 : 0 + i = i := by omega
  simp only [e0]
  exact I.pushPair ow J hp (.dat (.int _)) r
theorem di_enum {elts : List Expr} {kk : Nat} {tpos : Pos} (hg : Gl C.X "enumerate") (hm : C.X.mg "enumerate" = none) (ha : DPA C [e] fs) (hs : starEach [e] C.X.env = [(false, eval e C.X.env)] := by rfl) :
    DPI C (.Tuple elts kk tpos) (.Call (.Name "enumerate" p) [e] [] pos) (dEnumI fs) :=
  let ⟨_, pa, sa⟩ := ha.ex
  ⟨_, pi_enum hg hm pa hs, fun σ H ρ vs τ Qd R I h k => sa σ H ρ vs τ _ _ I h fun xs H1 ts ρ1 I1 hl q => by
    split at q
    · rename_i x
      obtain ⟨v, rfl⟩ := len1 hl
      obtain ⟨hk, q⟩ := q
      obtain ⟨its, e, q⟩ := wO_some q
      have I1' : SS C σ H1 ρ1 (vs ++ [v]) (τ ++ [x]) := I1
      obtain ⟨ow, J⟩ := id I1'
      obtain ⟨a, zs, rfl, h1, h2, _⟩ := J.src J.top e
      exact ⟨a, zs, rfl, h1 hk, k _ _ _ _ _ _ I1' (by simp [noAliL, itemsT_na e]) (walks_enum e hk) q⟩
    · exact q.elim⟩
def dZipI (f : DA) : DI := fun ρ Q => f ρ fun ts ρ1 => match ts with
  | [x, y] => isL x = isL y ∧ wO (itemsT x) fun its => wO (itemsT y) fun its2 => Q (zipT its its2) ρ1
  | _ => False
theorem zipT_get {i : Nat} {t : T} (e : (zipT its its2)[i]? = some t) : ∃ a b, its[i]? = some a ∧ its2[i]? = some b ∧ t = pairT a b := by
  unfold zipT at e
  rw [List.getElem?_map, Option.map_eq_some_iff] at e
  obtain ⟨q, e1, rfl⟩ := e
  rw [List.getElem?_zip_eq_some] at e1
  exact ⟨_, _, e1.1, e1.2, rfl⟩
theorem SI.two (J : SI C σ H ρ (vs ++ [v, w]) (τ ++ [x, y]) ow) (hτ : τ.length = vs.length) : (∃ o, TIs C.K (Bar C ow) (BarB C ow) (wipe σ C.cv) H x v o) ∧ ∃ o, TIs C.K (Bar C ow) (BarB C ow) (wipe σ C.cv) H y w o := by
  obtain ⟨v', hv, r⟩ := J.temp (j := τ.length) (t := x) (by rw [List.getElem?_append_right (by omega)]; simp)
  obtain ⟨w', hw, r2⟩ := J.temp (j := τ.length + 1) (t := y) (by rw [List.getElem?_append_right (by omega)]; simp)
  rw [hτ, List.getElem?_append_right (by omega)] at hv
  rw [hτ, List.getElem?_append_right (by omega)] at hw
  simp at hv hw
  subst hv hw
  exact ⟨⟨_, r⟩, ⟨_, r2⟩⟩
theorem di_zip {elts : List Expr} {kk : Nat} {tpos : Pos} (hg : Gl C.X "zip") (hm : C.X.mg "zip" = none) (ha : DPA C [e, e2] fs) (hs : starEach [e, e2] C.X.env = (false, eval e C.X.env) :: starEach [e2] C.X.env := by rfl) (hpl : (backTo pos (starEach [e2] C.X.env)).any (·.1) = false := by rfl) :
    DPI C (.Tuple elts kk tpos) (.Call (.Name "zip" p) [e, e2] [] pos) (dZipI fs) :=
  let ⟨_, pa, sa⟩ := ha.ex
  ⟨_, RZ.pi_zipA hg hm pa hs hpl, fun σ H ρ vs τ Qd R I h k => sa σ H ρ vs τ _ _ I h fun xs H1 ts ρ1 I1 hl q => by
    split at q
    · rename_i x y
      obtain ⟨v, w, rfl⟩ := len2 hl
      obtain ⟨hk, q⟩ := q
      obtain ⟨its, e, q⟩ := wO_some q
      obtain ⟨its2, e2, q⟩ := wO_some q
      have hτ := I.ltE
      obtain ⟨ow, J⟩ := id I1
      obtain ⟨⟨o1, r1⟩, ⟨o2, r2⟩⟩ := J.two hτ
      obtain ⟨a, zs, rfl, h1, h2, _⟩ := J.src r1 e
      obtain ⟨b, zs2, rfl, h3, h4, _⟩ := J.src r2 e2
      have na : noAliL [x, y] = true := by simp [noAliL, itemsT_na e, itemsT_na e2]
      refine ⟨a, b, zs, zs2, rfl, ?_⟩
      cases hx : isL x with
      | true =>
        have hy : isL y = true := hk ▸ hx
        refine .inl ⟨h1 hx, h3 hy, k _ _ _ _ _ _ I1 na (fun i σ H ρ vs τ hτ I => ?_) q⟩
        obtain ⟨ow, J⟩ := id I
        obtain ⟨⟨o1, r1⟩, ⟨o2, r2⟩⟩ := J.two hτ
        obtain ⟨a', zs, ea, hq, _, hlen, at_⟩ := J.src r1 e
        cases ea
        obtain ⟨b', zs2, ea, hq2, _, hlen2, at2⟩ := J.src r2 e2
        cases ea
        refine ⟨fun h => ⟨zs, zs2, hq hx, hq2 hy, by simp [zipT] at h; omega⟩, fun t et => ?_⟩
        obtain ⟨t1, t2, g1, g2, rfl⟩ := zipT_get et
        obtain ⟨w1, hw1, q1⟩ := at_ i t1 g1
        obtain ⟨w2, hw2, q2⟩ := at2 i t2 g2
        refine ⟨⟨zs, zs2, w1, w2, hq hx, hq2 hy, hw1, hw2⟩, fun w' H' hyl => ?_⟩
        obtain ⟨p, u1, u2, rfl, hp, rfl, y1, y2⟩ := hyl
        have := y1 zs (hq hx)
        rw [hw1] at this; cases this
        have := y2 zs2 (hq2 hy)
        rw [hw2] at this; cases this
        exact I.pushPair ow J hp q1 q2
      | false =>
        have hy : isL y = false := hk ▸ hx
        refine .inr ⟨h2 hx, h4 hy, k _ _ _ _ _ _ I1 na (fun i σ H ρ vs τ hτ I => ?_) q⟩
        obtain ⟨ow, J⟩ := id I
        obtain ⟨⟨o1, r1⟩, ⟨o2, r2⟩⟩ := J.two hτ
        obtain ⟨a', zs, ea, _, hq, hlen, at_⟩ := J.src r1 e
        cases ea
        obtain ⟨b', zs2, ea, _, hq2, hlen2, at2⟩ := J.src r2 e2
        cases ea
        refine ⟨fun h => ⟨zs, zs2, hq hx, hq2 hy, by simp [zipT] at h; omega⟩, fun t et => ?_⟩
        obtain ⟨t1, t2, g1, g2, rfl⟩ := zipT_get et
        obtain ⟨w1, hw1, q1⟩ := at_ i t1 g1
        obtain ⟨w2, hw2, q2⟩ := at2 i t2 g2
        refine ⟨⟨zs, zs2, w1, w2, hq hx, hq2 hy, hw1, hw2⟩, fun w' H' hyl => ?_⟩
        obtain ⟨p, u1, u2, rfl, hp, rfl, y1, y2⟩ := hyl
        have := y1 zs (hq hx)
        rw [hw1] at this; cases this
        have := y2 zs2 (hq2 hy)
        rw [hw2] at this; cases this
        exact I.pushPair ow J hp q1 q2
    · exact q.elim⟩
end
end Ds
namespace Ds
open PySem L2
open PyProof.Rows (envOfC)

/-! ### errors -/
def ExIs (K : PySem.W.Frag) (H : Hp) (ex : Exn) (cls : Value) (d : Option Addr) : Prop := cls = .ref ex.cls ∧ match ex.fs with
  | none => d = none
  | some fs => ∃ dx fv, d = some dx ∧ H dx = some (.xd fv) ∧ fv.map (·.1) = fs.map (·.1) ∧ DIsL K N0 H (fs.map (·.2)) (fv.map (·.2))
def relW (C : Ctx) : WX := fun cls d σ H => ∃ ex ρ, ExIs C.K H ex cls d ∧ SS C σ H ρ [] [] ∧ C.Wd ex ρ
def DTk (C : Ctx) : Prop := Takes C.X (relW C)

mutual
/-- what may be handed out: nothing borrowed, no alias -/
def clean : T → Bool
  | .bor _ => false
  | .lbo _ => false
  | .ali _ => false
  | .lst ts => cleanL ts
  | .tup ts => cleanL ts
  | _ => true
def cleanL : List T → Bool
  | [] => true
  | t :: ts => clean t && cleanL ts
end
section
variable {K : PySem.W.Frag} {B B' Bb Bb' : Addr → Prop} {H H' : Hp} {σ σ' : St}
mutual
theorem clean_na : ∀ {t : T}, clean t = true → noAli t = true
  | .dat _, _ => rfl
  | .bor _, h => by simp [clean] at h
  | .own _, _ => rfl
  | .lbo _, h => by simp [clean] at h
  | .lst ts, h => by simp only [noAli]; exact cleanL_na (by simpa [clean] using h)
  | .tup ts, h => by simp only [noAli]; exact cleanL_na (by simpa [clean] using h)
  | .dct _, _ => rfl
  | .scr _, _ => rfl
  | .ali _, h => by simp [clean] at h
  | .emp, _ => rfl
theorem cleanL_na : ∀ {ts : List T}, cleanL ts = true → noAliL ts = true
  | [], _ => rfl
  | t :: ts, h => by
    simp only [cleanL, Bool.and_eq_true] at h
    simp only [noAliL, Bool.and_eq_true]
    exact ⟨clean_na h.1, cleanL_na h.2⟩
end
mutual
theorem TIs.clean (h1 : ∀ b o, H b = some o → ¬ B b → H' b = some o ∧ ¬ B' b) : ∀ {t : T} {v : V} {os : List Addr}, (∀ b o, b ∈ os → H b = some o → H' b = some o) → Ds.clean t = true → TIs K B Bb σ H t v os → TIs K B' Bb' σ' H' t v os
  | _, _, _, _, _, .dat h => .dat (h.move h1)
  | _, _, _, _, c, .bor h => by simp [Ds.clean] at c
  | _, _, _, h3, _, .own e t => .own (h3 _ _ (by simp) e) (t.move h1)
  | _, _, _, _, c, .lbo e t => by simp [Ds.clean] at c
  | _, _, _, h3, c, .lst e t => .lst (h3 _ _ (by simp) e) (TIsL.clean h1 (fun b o hb => h3 b o (List.mem_cons_of_mem _ hb)) (by simpa [Ds.clean] using c) t)
  | _, _, _, h3, c, .tup e n t => .tup (h1 _ _ e n).1 (h1 _ _ e n).2 (TIsL.clean h1 h3 (by simpa [Ds.clean] using c) t)
  | _, _, _, h3, _, .dct e t q => .dct (h3 _ _ (by simp) e) (t.move h1) q
  | _, _, _, _, _, .scr h => .scr (h.move h1)
  | _, _, _, _, c, .ali e => by simp [Ds.clean] at c
theorem TIsL.clean (h1 : ∀ b o, H b = some o → ¬ B b → H' b = some o ∧ ¬ B' b) : ∀ {ts : List T} {vs : List V} {os : List Addr}, (∀ b o, b ∈ os → H b = some o → H' b = some o) → Ds.cleanL ts = true → TIsL K B Bb σ H ts vs os → TIsL K B' Bb' σ' H' ts vs os
  | _, _, _, _, _, .nil => .nil
  | _, _, _, h3, c, .cons r t => by
    simp only [Ds.cleanL, Bool.and_eq_true] at c
    exact .cons (TIs.clean h1 (fun b o hb => h3 b o (List.mem_append_left _ hb)) c.1 r) (TIsL.clean h1 (fun b o hb => h3 b o (List.mem_append_right _ hb)) c.2 t)
end
end

/-! ### a def's promise over plain data -/
abbrev DSp := List T → (T → T → Prop) → (Exn → T → Prop) → Prop
structure Pre (K : PySem.W.Frag) (B0 : Addr → Prop) (H : Hp) (ln : Option Nat) (vs : List V) (ts : List T) (o : List Addr) : Prop where
  len : ts.length = vs.length
  na : noAliL ts = true
  arg : ∀ (j : Nat) (t : T), ts[j]? = some t → ∃ v, vs[j]? = some v ∧ TIs K (fun a => a ∈ o ∨ B0 a) (fun a => a ∈ o) [] H t v (if ln = some j then o else [])
  nd : o.Nodup
  nb : ∀ a ∈ o, ¬ B0 a
  ot : ∀ a ∈ o, ∃ u, H a = some u ∧ Chg u
  b0 : ∀ a, B0 a → ∃ u, H a = some u ∧ Chg u
structure PostC (H : Hp) (o : List Addr) (H' : Hp) : Prop where
  sm : ∀ b u, H b = some u → b ∉ o → H' b = some u
  tr : ∀ b, H b ≠ none → H' b ≠ none
/-- the lent argument at its end (t': none if nothing is lent) -/
def LentIs (K : PySem.W.Frag) (B Bb : Addr → Prop) (ln : Option Nat) (vs : List V) (H' : Hp) (t' : T) (go : List Addr) : Prop := match ln with
  | some j => clean t' = true ∧ ((t' = .emp ∧ go = []) ∨ ∃ w, vs[j]? = some w ∧ TIs K B Bb [] H' t' w go)
  | none => go = []
structure Post (K : PySem.W.Frag) (B0 : Addr → Prop) (H : Hp) (ln : Option Nat) (vs : List V) (o : List Addr) (r : T) (t' : T) (v : V) (H' : Hp) : Prop where
  ex : ∃ go ro : List Addr, TIs K (fun a => a ∈ go ∨ a ∈ ro ∨ B0 a) (fun a => a ∈ go ∨ a ∈ ro) [] H' r v ro ∧ LentIs K (fun a => a ∈ go ∨ a ∈ ro ∨ B0 a) (fun a => a ∈ go ∨ a ∈ ro) ln vs H' t' go ∧
    go.Nodup ∧ ro.Nodup ∧ (∀ a ∈ go, a ∉ ro) ∧ (∀ a, a ∈ go ∨ a ∈ ro → a ∈ o ∨ H a = none) ∧ ∀ a, a ∈ go ∨ a ∈ ro → ∃ u, H' a = some u ∧ Chg u
  na : clean r = true
  co : PostC H o H'
structure PostX (K : PySem.W.Frag) (B0 : Addr → Prop) (H : Hp) (ln : Option Nat) (vs : List V) (o : List Addr) (ex : Exn) (t' : T) (cls : Value) (d : Option Addr) (H' : Hp) : Prop where
  is : ExIs K H' ex cls d
  ex : ∃ go : List Addr, LentIs K (fun a => a ∈ go ∨ B0 a) (fun a => a ∈ go) ln vs H' t' go ∧ go.Nodup ∧ (∀ a ∈ go, a ∈ o ∨ H a = none) ∧ ∀ a ∈ go, ∃ u, H' a = some u ∧ Chg u
  co : PostC H o H'
def toSp (K : PySem.W.Frag) (n : Nat) (ln : Option Nat) (f : DSp) : Sp := fun vs H Q E => ∃ (B0 : Addr → Prop) (ts : List T) (o : List Addr), ts.length = n ∧ Pre K B0 H ln vs ts o ∧
  f ts (fun r t' => ∀ v H', Post K B0 H ln vs o r t' v H' → Q v H') (fun ex t' => ∀ cls d H', PostX K B0 H ln vs o ex t' cls d H' → E cls d H')

def lentOf (ln : Option Nat) (ρ : List T) : T := match ln with
  | some j => (ρ[j]?).getD .emp
  | none => .emp
def lentL (ln : Option Nat) : List Nat := match ln with
  | some j => [j]
  | none => []
/-- the slots at the entry -/
def slots0 (n : Nat) (ts : List T) : List T := ts ++ List.replicate (n - ts.length) .emp

section
variable {K : PySem.W.Frag} {B0 : Addr → Prop} {H : Hp} {ln : Option Nat} {vs : List V} {ts : List T} {o : List Addr}
theorem noAli_rep : ∀ n, noAliL (List.replicate n T.emp) = true
  | 0 => rfl
  | n + 1 => by simp [List.replicate_succ, noAliL, noAli, noAli_rep n]
/-- the state at the entry of a body -/
theorem Pre.start {X : Cx} {Wd : Exn → List T → Prop} {N : List Str} {cv : List Nat} (P : Pre X.K B0 H ln vs ts o) (hn : vs.length ≤ N.length) :
    SS ⟨X, Wd, B0, H, o, lentL ln, L2.start N vs, cv⟩ (L2.start N vs) H (slots0 N.length ts) [] [] := by
  have l1 : (slots0 N.length ts).length = N.length := by simp [slots0, P.len]; omega
  have l2 : (L2.start N vs).length = N.length := by simp [L2.start]; omega
  have hv : ∀ (k : Nat) (v : V), vs[k]? = some v → (L2.start N vs ++ List.map some [])[k]? = some (some v) := fun k v e => by
    have hk := (List.getElem?_eq_some_iff.mp e).1
    simp only [L2.start, List.map_nil, List.append_nil]
    rw [List.getElem?_append_left (by simpa using hk), List.getElem?_map, e]; rfl
  have ow_ : ∀ k, ((fun k => if ln = some k ∧ k < ts.length then o else []) k).Nodup := fun k => by
    show (if ln = some k ∧ k < ts.length then o else []).Nodup
    split
    · exact P.nd
    · exact List.nodup_nil
  refine ⟨fun k => if ln = some k ∧ k < ts.length then o else [], ⟨⟨fun a h => P.b0 a h, fun a h => P.nb a h⟩, by rw [l1, l2], rfl, ?_, fun k t e => ?_, ow_, fun j k a hjk hj hk => ?_, fun k a h => ?_, fun k a h => ?_, fun b u e _ => e, fun b n => n, fun i _ => rfl⟩⟩
  · rw [slots0, noAliL_append, P.na, noAli_rep]; rfl
  · rw [List.append_nil] at e
    by_cases hk : k < ts.length
    · rw [slots0, List.getElem?_append_left hk] at e
      obtain ⟨v, h1, r⟩ := P.arg k t e
      refine .inr ⟨v, hv k v h1, ?_⟩
      have nt := noAliL_iff.mp P.na k t e
      have sub : ∀ b, (∃ j, b ∈ (fun k => if ln = some k ∧ k < ts.length then o else []) j) → b ∈ o := fun b ⟨j, h⟩ => by
        have h : b ∈ (if ln = some j ∧ j < ts.length then o else []) := h
        split at h
        · exact h
        · simp at h
      have r' := r.move (K := X.K) (σ' := wipe (L2.start N vs) cv) (B' := Bar ⟨X, Wd, B0, H, o, lentL ln, L2.start N vs, cv⟩ (fun k => if ln = some k ∧ k < ts.length then o else [])) (Bb' := BarB ⟨X, Wd, B0, H, o, lentL ln, L2.start N vs, cv⟩ (fun k => if ln = some k ∧ k < ts.length then o else []))
        (H' := H) (fun b u e n => ⟨e, fun z => n (z.imp (sub b) id)⟩) (fun b u e n => ⟨e, fun z => n (sub b z)⟩) (fun _ _ _ q => q) (.inr nt)
      have e3 : (if ln = some k ∧ k < ts.length then o else []) = (if ln = some k then o else []) := by simp [hk]
      show TIs _ _ _ _ _ t v (if ln = some k ∧ k < ts.length then o else [])
      rw [e3]; exact r'
    · rw [slots0, List.getElem?_append_right (by omega), List.getElem?_replicate] at e
      split at e
      · refine .inl ⟨(Option.some.inj e).symm, ?_⟩
        have := l1; omega
      · cases e
  · have hj : a ∈ (if ln = some j ∧ j < ts.length then o else []) := hj
    have hk : a ∈ (if ln = some k ∧ k < ts.length then o else []) := hk
    split at hj
    · rename_i c
      split at hk
      · rename_i c'
        have := c.1.symm.trans c'.1
        cases this; exact hjk rfl
      · simp at hk
    · simp at hj
  · have h : a ∈ (if ln = some k ∧ k < ts.length then o else []) := h
    split at h
    · exact P.ot a h
    · simp at h
  · have h : a ∈ (if ln = some k ∧ k < ts.length then o else []) := h
    split at h
    · exact .inl h
    · simp at h
/-- the lent slot at an end -/
theorem lent_end {X : Cx} {Wd : Exn → List T → Prop} {N : List Str} {cv : List Nat} {σ : St} {H' : Hp} {ρ : List T} {xs : List V} {τ : List T} {ow : Nat → List Addr} (P : Pre X.K B0 H ln vs ts o) (hn : vs.length ≤ N.length) (hj : ∀ j, ln = some j → j < vs.length)
    (I : SI ⟨X, Wd, B0, H, o, lentL ln, L2.start N vs, cv⟩ σ H' ρ xs τ ow) (ro : List Addr) (hro : ∀ a ∈ ro, ∃ k, a ∈ ow k) (hd : ∀ j, ln = some j → ∀ a ∈ ow j, a ∉ ro) (hc : clean (lentOf ln ρ) = true) :
    ∃ go, (∀ j, ln = some j → (ρ[j]? = some .emp ∨ ρ[j]? = none) ∨ go = ow j) ∧ LentIs X.K (fun a => a ∈ go ∨ a ∈ ro ∨ B0 a) (fun a => a ∈ go ∨ a ∈ ro) ln vs H' (lentOf ln ρ) go ∧ go.Nodup ∧ (∀ a ∈ go, a ∉ ro) ∧ ∀ a ∈ go, ∃ k, a ∈ ow k := by
  cases ln with
  | none => exact ⟨[], (fun j z => by cases z), rfl, List.nodup_nil, fun _ z => by simp at z, fun _ z => by simp at z⟩
  | some j =>
    have hjv := hj j rfl
    have hσ : σ[j]? = (L2.start N vs)[j]? := I.le j (by simp [lentL])
    have hs : (L2.start N vs)[j]? = some (some vs[j]) := by
      rw [L2.start, List.getElem?_append_left (by simpa using hjv), List.getElem?_map, List.getElem?_eq_getElem hjv]; rfl
    cases e : ρ[j]? with
    | none => exact ⟨[], (fun k z => by cases z; exact .inl (.inr e)), ⟨hc, .inl ⟨by simp [lentOf, e], rfl⟩⟩, List.nodup_nil, fun _ z => by simp at z, fun _ z => by simp at z⟩
    | some t =>
      have nt : noAli t = true := noAliL_iff.mp I.na j t e
      rcases I.slot e with rfl | ⟨v, hv, r⟩
      · exact ⟨[], (fun k z => by cases z; exact .inl (.inl e)), ⟨hc, .inl ⟨by simp [lentOf, e], rfl⟩⟩, List.nodup_nil, fun _ z => by simp at z, fun _ z => by simp at z⟩
      · refine ⟨ow j, (fun k z => by cases z; exact .inr rfl), ⟨hc, .inr ⟨vs[j], List.getElem?_eq_getElem hjv, ?_⟩⟩, I.nd j, hd j rfl, fun a h => ⟨j, h⟩⟩
        have ev : v = vs[j] := by
          rw [hv, hs] at hσ
          exact Option.some.inj (Option.some.inj hσ)
        subst ev
        have et : lentOf (some j) ρ = t := by simp [lentOf, e]
        rw [et]
        exact r.move (fun b u q n => ⟨q, fun z => n (by
          rcases z with z | z | z
          · exact .inl ⟨j, z⟩
          · exact .inl (hro b z)
          · exact .inr z)⟩) (fun b u q n => ⟨q, fun z => n (by
          rcases z with z | z
          · exact ⟨j, z⟩
          · exact hro b z)⟩) (fun _ _ _ q => q) (.inr nt)
end

/-- if it may be handed out -/
def cl (t : T) (p : Prop) : Prop := match clean t with
  | true => p
  | false => False
theorem cl_is {t : T} {p : Prop} (h : cl t p) : clean t = true ∧ p := by
  unfold cl at h
  split at h
  · rename_i e; exact ⟨e, h⟩
  · exact h.elim
/-- a def's context -/
abbrev ctxOf (P : Program) (w : World) (K : PySem.W.Frag) (mg : Str → Option Value) (base : Heap) (N : List Str) (qual : Str) (sc : Scope) (f : Addr) (cdv : Value) (A : Around) (outer : List Env) (s : Shared) (H : Hp) (E : XK) (Wd : Exn → List T → Prop)
    (B0 : Addr → Prop) (o : List Addr) (ln : Option Nat) (vs : List V) (cv : List Nat) : Ctx := ⟨cxOf (L2.CX P w) P w K mg base N qual sc f cdv A outer s H E, Wd, B0, H, o, lentL ln, L2.start N vs, cv⟩
section
variable {P : Program} {w : World} {K : PySem.W.Frag} {mg : Str → Option Value} {base : Heap}
/-- a def's promise from its body -/
def OkBy (P : Program) (w : World) (K : PySem.W.Frag) (mg : Str → Option Value) (base : Heap) (N : List Str) (qual : Str) (st : Stmt) (f : Addr) (fd : FuncData) (ps : List Str) : Prop :=
  ∀ (k : Nat) (sp : Sp), (∀ vs H Q E, sp vs H Q E → vs.length = ps.length) →
    (∀ (cdv : Value) (A : Around) (outer : List Env) (s : Shared) (H : Hp) (vs : List V) (Q : VK) (E : XK), RoomG k (A.deeper (envOfC qual (defScope st) s.heap.objs.size f cdv)) → sp vs H Q E →
      ∃ t, PSs (cxOf (L2.CX P w) P w K mg base N qual (defScope st) f cdv A outer s H E) (defBody st) t ∧ t { nx := fun _ H' => Q .non H', rt := Q } (start N vs) H) → FnG P w K mg base (k + 1) f fd ps sp
/-- THE RULE for a def: its body's denotation keeps the promise -/
theorem fn_dataG {qual : Str} {st : Stmt} {f : Addr} {fd : FuncData} {N ps : List Str} {k : Nat} (ok : OkBy P w K mg base N qual st f fd ps) (S : FnScope N ps (defScope st)) (cv : List Nat) (ln : Option Nat) (hln : ∀ j, ln = some j → j < ps.length) {spd : DSp} (body : (Exn → List T → Prop) → DS)
    (hbody : ∀ (cdv : Value) (A : Around) (outer : List Env) (s : Shared) (H : Hp) (E : XK) (Wd : Exn → List T → Prop) (B0 : Addr → Prop) (o : List Addr) (vs : List V), RoomG k (A.deeper (envOfC qual (defScope st) s.heap.objs.size f cdv)) →
      DTk (ctxOf P w K mg base N qual (defScope st) f cdv A outer s H E Wd B0 o ln vs cv) → DPSs (ctxOf P w K mg base N qual (defScope st) f cdv A outer s H E Wd B0 o ln vs cv) (defBody st) (body Wd))
    (hsp : ∀ ts Q W, ts.length = ps.length → spd ts Q W → body (fun ex ρ => cl (lentOf ln ρ) (W ex (lentOf ln ρ))) { nx := fun ρ => cl (lentOf ln ρ) (Q (.dat .none) (lentOf ln ρ)), rt := fun r ρ => cl r (cl (lentOf ln ρ) (Q r (lentOf ln ρ))) } (slots0 N.length ts)) :
    FnG P w K mg base (k + 1) f fd ps (toSp K ps.length ln spd) := by
  have hpl : ps.length ≤ N.length := by have := congrArg List.length S.pre; rw [List.length_take] at this; omega
  refine ok k _ (fun vs H Q E h => ?_) (fun cdv A outer s H vs Q E hr h => ?_)
  · obtain ⟨B0, ts, o, hl, P, _⟩ := h
    rw [← P.len, hl]
  · obtain ⟨B0, ts, o, hl, Pr, hq⟩ := h
    have hvs : vs.length = ps.length := by rw [← Pr.len, hl]
    have hn : vs.length ≤ N.length := by omega
    have hj : ∀ j, ln = some j → j < vs.length := fun j e => by rw [hvs]; exact hln j e
    have q := hsp ts _ _ hl hq
    let Wd : Exn → List T → Prop := fun ex ρ => cl (lentOf ln ρ) (∀ cls d H', PostX K B0 H ln vs o ex (lentOf ln ρ) cls d H' → E cls d H')
    let C : Ctx := ctxOf P w K mg base N qual (defScope st) f cdv A outer s H E Wd B0 o ln vs cv
    have I0 : SS C (L2.start N vs) H (slots0 N.length ts) [] [] := Pr.start (X := C.X) (Wd := Wd) hn
    have co : ∀ {σ : St} {H' : Hp} {ρ : List T} {xs : List V} {τ : List T} {ow : Nat → List Addr}, SI C σ H' ρ xs τ ow → PostC H o H' := fun I => ⟨fun b u e n => I.kp b u e n, fun b n => I.tr b n⟩
    have tk : DTk C := by
      have t0 : Takes C.X (fun cls d _ H => E cls d H) := takes_of rfl rfl rfl rfl
      refine t0.imp fun cls d σ H' h => ?_
      obtain ⟨ex, ρ, hx, ⟨ow, I⟩, hw⟩ := h
      obtain ⟨hc, hw⟩ := cl_is hw
      obtain ⟨go, _, h1, h2, _, h4⟩ := lent_end (X := C.X) (ln := ln) (ts := ts) Pr hn hj I [] (fun _ z => by simp at z) (fun _ _ _ _ z => by simp at z) hc
      refine hw cls d H' ⟨hx, ⟨go, ?_, h2, fun a h => ?_, fun a h => ?_⟩, co I⟩
      · have e1 : (fun a => a ∈ go ∨ a ∈ ([] : List Addr) ∨ B0 a) = fun a => a ∈ go ∨ B0 a := by funext a; simp
        have e2 : (fun a => a ∈ go ∨ a ∈ ([] : List Addr)) = fun a => a ∈ go := by funext a; simp
        rw [e1, e2] at h1; exact h1
      · obtain ⟨k, hk⟩ := h4 a h; exact I.fr k a hk
      · obtain ⟨k, hk⟩ := h4 a h; exact I.ot k a hk
    obtain ⟨t, pt, sim⟩ := (hbody cdv A outer s H E Wd B0 o vs hr tk).ex
    have fin : ∀ {σ : St} {H' : Hp} {ρ : List T} {v : V} {r : T}, SS C σ H' ρ ([] ++ [v]) ([] ++ [r]) → clean r = true → clean (lentOf ln ρ) = true → Post K B0 H ln vs o r (lentOf ln ρ) v H' := fun {σ H' ρ v r} I na hc => by
      obtain ⟨ow, I⟩ := I
      have top := I.top
      have hρ : ρ.length + ([] : List T).length = ρ.length := by simp
      rw [hρ] at top
      have hjρ : ∀ j, ln = some j → j ≠ ρ.length := fun j e => by
        have hσ : σ[j]? = (L2.start N vs)[j]? := I.le j (by simp [C, ctxOf, lentL, e])
        have hs : (L2.start N vs)[j]? = some (some (vs[j]'(hj j e))) := by
          rw [L2.start, List.getElem?_append_left (by simpa using hj j e), List.getElem?_map, List.getElem?_eq_getElem (hj j e)]; rfl
        rw [hs] at hσ
        have := (List.getElem?_eq_some_iff.mp hσ).1
        rw [I.ln]; omega
      obtain ⟨go, g1, h1, h2, h3, h4⟩ := lent_end (X := C.X) (ln := ln) (ts := ts) Pr hn hj I (ow ρ.length) (fun a h => ⟨_, h⟩) (fun j e a ha => I.dj _ _ a (hjρ j e) ha) hc
      refine ⟨⟨go, ow ρ.length, ?_, h1, h2, I.nd _, h3, fun a h => ?_, fun a h => ?_⟩, na, co I⟩
      · exact top.move (fun b u q n => ⟨q, fun z => n (by
          rcases z with z | z | z
          · exact .inl (h4 b z)
          · exact .inl ⟨_, z⟩
          · exact .inr z)⟩) (fun b u q n => ⟨q, fun z => n (by
          rcases z with z | z
          · exact h4 b z
          · exact ⟨_, z⟩)⟩) (fun _ _ _ q => q) (.inr (clean_na na))
      · rcases h with h | h
        · obtain ⟨k, hk⟩ := h4 a h; exact I.fr k a hk
        · exact I.fr _ a h
      · rcases h with h | h
        · obtain ⟨k, hk⟩ := h4 a h; exact I.ot k a hk
        · exact I.ot _ a h
    refine ⟨t, pt, sim _ _ _ [] [] _ _ I0 rfl q ⟨fun σ H' ρ I hq => ?_, fun σ H' ρ v x I hq => ?_, fun _ _ _ _ z => z.elim, fun _ _ _ _ z => z.elim⟩⟩
    · obtain ⟨hc, hq⟩ := cl_is hq
      exact hq _ _ (fin (r := .dat .none) (SS.non I) rfl hc)
    · obtain ⟨hr, hq⟩ := cl_is hq
      obtain ⟨hc, hq⟩ := cl_is hq
      exact hq _ _ (fin I hr hc)
theorem fn_data {x qual : Str} {st : Stmt} {f : Addr} {fd : FuncData} {N ps : List Str} {k : Nat} (F : Fun K x qual st f fd) (S : FnScope N ps (defScope st)) (cv : List Nat) (ln : Option Nat) (hln : ∀ j, ln = some j → j < ps.length) {spd : DSp} (body : (Exn → List T → Prop) → DS)
    (hbody : ∀ (cdv : Value) (A : Around) (outer : List Env) (s : Shared) (H : Hp) (E : XK) (Wd : Exn → List T → Prop) (B0 : Addr → Prop) (o : List Addr) (vs : List V), RoomG k (A.deeper (envOfC qual (defScope st) s.heap.objs.size f cdv)) →
      DTk (ctxOf P w K mg base N qual (defScope st) f cdv A outer s H E Wd B0 o ln vs cv) → DPSs (ctxOf P w K mg base N qual (defScope st) f cdv A outer s H E Wd B0 o ln vs cv) (defBody st) (body Wd))
    (hsp : ∀ ts Q W, ts.length = ps.length → spd ts Q W → body (fun ex ρ => cl (lentOf ln ρ) (W ex (lentOf ln ρ))) { nx := fun ρ => cl (lentOf ln ρ) (Q (.dat .none) (lentOf ln ρ)), rt := fun r ρ => cl r (cl (lentOf ln ρ) (Q r (lentOf ln ρ))) } (slots0 N.length ts)) :
    FnG P w K mg base (k + 1) f fd ps (toSp K ps.length ln spd) :=
  fn_dataG (fun _ _ len hb => FunG F S len hb) S cv ln hln body hbody hsp
theorem fn_dataD {x qual : Str} {st : Stmt} {f : Addr} {fd : FuncData} {N ps : List Str} {k : Nat} {dvs : List V} {kws : List (Str × V)} (F : FunD K x qual (defArgs st) (defBody st) (defScope st) dvs kws f fd) (S : FnScope N ps (defScope st)) (cv : List Nat) (ln : Option Nat) (hln : ∀ j, ln = some j → j < ps.length) {spd : DSp} (body : (Exn → List T → Prop) → DS)
    (hbody : ∀ (cdv : Value) (A : Around) (outer : List Env) (s : Shared) (H : Hp) (E : XK) (Wd : Exn → List T → Prop) (B0 : Addr → Prop) (o : List Addr) (vs : List V), RoomG k (A.deeper (envOfC qual (defScope st) s.heap.objs.size f cdv)) →
      DTk (ctxOf P w K mg base N qual (defScope st) f cdv A outer s H E Wd B0 o ln vs cv) → DPSs (ctxOf P w K mg base N qual (defScope st) f cdv A outer s H E Wd B0 o ln vs cv) (defBody st) (body Wd))
    (hsp : ∀ ts Q W, ts.length = ps.length → spd ts Q W → body (fun ex ρ => cl (lentOf ln ρ) (W ex (lentOf ln ρ))) { nx := fun ρ => cl (lentOf ln ρ) (Q (.dat .none) (lentOf ln ρ)), rt := fun r ρ => cl r (cl (lentOf ln ρ) (Q r (lentOf ln ρ))) } (slots0 N.length ts)) :
    FnG P w K mg base (k + 1) f fd ps (toSp K ps.length ln spd) :=
  fn_dataG (fun _ _ len hb => FunDG F S len hb) S cv ln hln body hbody hsp
end

/-! ### calls -/
inductive Md where
  | dat | bor | lend
def argT (ρ : List T) : Md → T → Option T
  | .dat, a => (frz a).map .dat
  | .bor, a => (lk ρ a).map .bor
  | .lend, .ali i => match ρ[i]? with
    | some .emp => none
    | o => o
  | .lend, t => match noAli t with
    | true => some t
    | false => none
def argsT (ρ : List T) : List Md → List T → Option (List T)
  | [], [] => some []
  | m :: ms, a :: as => match argT ρ m a with
    | some t => (argsT ρ ms as).map fun ts => t :: ts
    | none => none
  | _, _ => none
/-- the lent place, the lent slot -/
def lnOf : List Md → Option Nat
  | [] => none
  | .lend :: _ => some 0
  | _ :: ms => (lnOf ms).map (· + 1)
def slotOf (ms : List Md) (as : List T) : Option Nat := (lnOf ms).bind fun j => (as[j]?).bind fun a => match a with
  | .ali i => some i
  | _ => none
def putT (s : Option Nat) (t : T) (ρ : List T) : List T := match s with
  | some i => ρ.set i t
  | none => ρ
mutual
/-- the slots that t leans on -/
def alis : T → List Nat
  | .ali i => [i]
  | .lst ts => alisL ts
  | .tup ts => alisL ts
  | _ => []
def alisL : List T → List Nat
  | [] => []
  | t :: ts => alis t ++ alisL ts
end
/-- nothing but the lent argument leans on the lent slot; one argument is lent at most -/
def freeOf (s : Option Nat) : List Md → List T → Bool
  | .lend :: ms, _ :: as => freeOf s ms as && !(ms.any fun m => match m with | .lend => true | _ => false)
  | _ :: ms, a :: as => (match s with | some i => !(alis a).contains i | none => true) && freeOf s ms as
  | _, _ => true
end Ds
namespace Ds
open PySem L2

section
variable {K : PySem.W.Frag} {B B' Bb : Addr → Prop} {H : Hp} {σ : St} {ρ : List T}
mutual
theorem TIs.toDB (h1 : ∀ b o, H b = some o → ¬ B b → ¬ B' b) (h2 : ∀ b o, H b = some o → ¬ Bb b → ¬ B' b) : ∀ {t : T} {v : V} {os : List Addr} {d : D}, (∀ a ∈ os, ¬ B' a) → TIs K B Bb σ H t v os → Ds.toD t = some d → DIs K B' H d v
  | _, _, _, _, _, .dat h, e => by simp only [Ds.toD, Option.some.injEq] at e; subst e; exact h.move fun b o q n => ⟨q, h1 b o q n⟩
  | _, _, _, _, _, .bor h, e => by simp only [Ds.toD, Option.some.injEq] at e; subst e; exact h.move fun b o q n => ⟨q, h2 b o q n⟩
  | _, _, _, _, no, .own h t, e => by simp only [Ds.toD, Option.some.injEq] at e; subst e; exact .list h (no _ (by simp)) (t.move fun b o q n => ⟨q, h1 b o q n⟩)
  | _, _, _, _, no, .lbo h t, e => by simp only [Ds.toD, Option.some.injEq] at e; subst e; exact .list h (no _ (by simp)) (t.move fun b o q n => ⟨q, h2 b o q n⟩)
  | _, _, _, _, no, .lst h t, e => by
    simp only [Ds.toD, Option.map_eq_some_iff] at e
    obtain ⟨ds, e1, rfl⟩ := e
    exact .list h (no _ (by simp)) (TIsL.toDB h1 h2 (fun a ha => no a (by simp [ha])) t e1)
  | _, _, _, _, no, .tup h n t, e => by
    simp only [Ds.toD, Option.map_eq_some_iff] at e
    obtain ⟨ds, e1, rfl⟩ := e
    exact .tuple (.inl ⟨.inl h, h1 _ _ h n⟩) (TIsL.toDB h1 h2 no t e1)
  | _, _, _, _, no, .dct h t q, e => by
    simp only [Ds.toD, Option.some.injEq] at e
    subst e; subst q
    exact .dict h (no _ (by simp)) (t.move fun b o q n => ⟨q, h1 b o q n⟩) (zip_kvs (by have := t.length; simpa using this))
  | _, _, _, _, _, .scr h, e => by simp [Ds.toD] at e
  | _, _, _, _, _, .ali h, e => by simp [Ds.toD] at e
theorem TIsL.toDB (h1 : ∀ b o, H b = some o → ¬ B b → ¬ B' b) (h2 : ∀ b o, H b = some o → ¬ Bb b → ¬ B' b) : ∀ {ts : List T} {vs : List V} {os : List Addr} {ds : List D}, (∀ a ∈ os, ¬ B' a) → TIsL K B Bb σ H ts vs os → Ds.toDL ts = some ds → DIsL K B' H ds vs
  | _, _, _, _, _, .nil, e => by simp only [Ds.toDL, Option.some.injEq] at e; subst e; exact .nil
  | _, _, _, _, no, .cons r t, e => by
    simp only [Ds.toDL, Option.bind_eq_some_iff, Option.map_eq_some_iff] at e
    obtain ⟨d, e1, ds, e2, rfl⟩ := e
    exact .cons (TIs.toDB h1 h2 (fun a ha => no a (by simp [ha])) r e1) (TIsL.toDB h1 h2 (fun a ha => no a (by simp [ha])) t e2)
end
mutual
theorem TIs.lkB (h1 : ∀ b o, H b = some o → ¬ B b → ¬ B' b) (h2 : ∀ b o, H b = some o → ¬ Bb b → ¬ B' b) : ∀ {t : T} {v : V} {os : List Addr} {d : D}, (∀ a ∈ os, ¬ B' a) → (∀ (i : Nat) (t' : T) (v : V) (d : D), i ∈ alis t → ρ[i]? = some t' → σ[i]? = some (some v) → Ds.toD t' = some d → DIs K B' H d v) →
    TIs K B Bb σ H t v os → Ds.lk ρ t = some d → DIs K B' H d v
  | _, _, _, _, _, _, .dat h, e => by simp only [Ds.lk, Option.some.injEq] at e; subst e; exact h.move fun b o q n => ⟨q, h1 b o q n⟩
  | _, _, _, _, _, _, .bor h, e => by simp only [Ds.lk, Option.some.injEq] at e; subst e; exact h.move fun b o q n => ⟨q, h2 b o q n⟩
  | _, _, _, _, no, _, .own h t, e => by simp only [Ds.lk, Option.some.injEq] at e; subst e; exact .list h (no _ (by simp)) (t.move fun b o q n => ⟨q, h1 b o q n⟩)
  | _, _, _, _, no, _, .lbo h t, e => by simp only [Ds.lk, Option.some.injEq] at e; subst e; exact .list h (no _ (by simp)) (t.move fun b o q n => ⟨q, h2 b o q n⟩)
  | _, _, _, _, no, hs, .lst h t, e => by
    simp only [Ds.lk, Option.map_eq_some_iff] at e
    obtain ⟨ds, e1, rfl⟩ := e
    exact .list h (no _ (by simp)) (TIsL.lkB h1 h2 (fun a ha => no a (by simp [ha])) (fun i t' v d hi => hs i t' v d (by simpa [alis] using hi)) t e1)
  | _, _, _, _, no, hs, .tup h n t, e => by
    simp only [Ds.lk, Option.map_eq_some_iff] at e
    obtain ⟨ds, e1, rfl⟩ := e
    exact .tuple (.inl ⟨.inl h, h1 _ _ h n⟩) (TIsL.lkB h1 h2 no (fun i t' v d hi => hs i t' v d (by simpa [alis] using hi)) t e1)
  | _, _, _, _, no, _, .dct h t q, e => by
    simp only [Ds.lk, Option.some.injEq] at e
    subst e; subst q
    exact .dict h (no _ (by simp)) (t.move fun b o q n => ⟨q, h1 b o q n⟩) (zip_kvs (by have := t.length; simpa using this))
  | _, _, _, _, _, _, .scr h, e => by simp [Ds.lk] at e
  | _, _, _, _, _, hs, .ali h, e => by
    simp only [Ds.lk, Option.bind_eq_some_iff] at e
    obtain ⟨t, e1, e2⟩ := e
    exact hs _ _ _ _ (by simp [alis]) e1 h e2
theorem TIsL.lkB (h1 : ∀ b o, H b = some o → ¬ B b → ¬ B' b) (h2 : ∀ b o, H b = some o → ¬ Bb b → ¬ B' b) : ∀ {ts : List T} {vs : List V} {os : List Addr} {ds : List D}, (∀ a ∈ os, ¬ B' a) → (∀ (i : Nat) (t' : T) (v : V) (d : D), i ∈ alisL ts → ρ[i]? = some t' → σ[i]? = some (some v) → Ds.toD t' = some d → DIs K B' H d v) →
    TIsL K B Bb σ H ts vs os → Ds.lkL ρ ts = some ds → DIsL K B' H ds vs
  | _, _, _, _, _, _, .nil, e => by simp only [Ds.lkL, Option.some.injEq] at e; subst e; exact .nil
  | _, _, _, _, no, hs, .cons r t, e => by
    simp only [Ds.lkL, Option.bind_eq_some_iff, Option.map_eq_some_iff] at e
    obtain ⟨d, e1, ds, e2, rfl⟩ := e
    exact .cons (TIs.lkB h1 h2 (fun a ha => no a (by simp [ha])) (fun i t' v d hi => hs i t' v d (by simp [alisL, hi])) r e1) (TIsL.lkB h1 h2 (fun a ha => no a (by simp [ha])) (fun i t' v d hi => hs i t' v d (by simp [alisL, hi])) t e2)
end
end

theorem argsT_len {ρ : List T} : ∀ {ms : List Md} {as ts : List T}, argsT ρ ms as = some ts → ts.length = as.length ∧ ms.length = as.length
  | [], [], ts, e => by simp [argsT] at e; subst e; exact ⟨rfl, rfl⟩
  | [], _ :: _, ts, e => by simp [argsT] at e
  | _ :: _, [], ts, e => by simp [argsT] at e
  | m :: ms, a :: as, ts, e => by
    unfold argsT at e
    split at e
    · simp only [Option.map_eq_some_iff] at e
      obtain ⟨ts', e1, rfl⟩ := e
      have := argsT_len e1
      simp; omega
    · simp at e
theorem argsT_get {ρ : List T} : ∀ {ms : List Md} {as ts : List T} {j : Nat} {t : T}, argsT ρ ms as = some ts → ts[j]? = some t → ∃ m a, ms[j]? = some m ∧ as[j]? = some a ∧ argT ρ m a = some t
  | [], [], ts, j, t, e, h => by simp [argsT] at e; subst e; simp at h
  | [], _ :: _, ts, _, _, e, _ => by simp [argsT] at e
  | _ :: _, [], ts, _, _, e, _ => by simp [argsT] at e
  | m :: ms, a :: as, ts, j, t, e, h => by
    unfold argsT at e
    split at e
    · rename_i t0 e0
      simp only [Option.map_eq_some_iff] at e
      obtain ⟨ts', e1, rfl⟩ := e
      cases j with
      | zero => simp at h; subst h; exact ⟨m, a, rfl, rfl, e0⟩
      | succ j => exact argsT_get (j := j) e1 (by simpa using h)
    · simp at e
theorem lnOf_mode : ∀ {ms : List Md} {j : Nat}, lnOf ms = some j → ms[j]? = some .lend
  | [], _, e => by simp [lnOf] at e
  | .lend :: _, _, e => by simp [lnOf] at e; subst e; rfl
  | .dat :: ms, j, e => by
    simp only [lnOf, Option.map_eq_some_iff] at e
    obtain ⟨k, e1, rfl⟩ := e
    simpa using lnOf_mode e1
  | .bor :: ms, j, e => by
    simp only [lnOf, Option.map_eq_some_iff] at e
    obtain ⟨k, e1, rfl⟩ := e
    simpa using lnOf_mode e1
theorem noLend_any : ∀ {ms : List Md} {j : Nat} {m : Md}, (ms.any fun m => match m with | .lend => true | _ => false) = false → ms[j]? = some m → m ≠ .lend
  | [], _, _, _, e => by simp at e
  | m :: ms, 0, _, h, e => by
    simp at e; subst e
    rintro rfl
    simp at h
  | m :: ms, j + 1, _, h, e => by
    rw [List.any_cons, Bool.or_eq_false_iff] at h
    exact noLend_any h.2 (by simpa using e)
theorem freeOf_ok : ∀ {s : Option Nat} {ms : List Md} {as : List T}, freeOf s ms as = true → (∀ (j : Nat) (a : T) (m : Md), ms[j]? = some m → m ≠ Md.lend → as[j]? = some a → ∀ i, s = some i → i ∉ alis a) ∧ ∀ (j : Nat), ms[j]? = some Md.lend → j < as.length → lnOf ms = some j
  | _, [], _, _ => ⟨fun j a m e => by simp at e, fun j e => by simp at e⟩
  | _, _ :: _, [], _ => ⟨fun j a m _ _ e => by simp at e, fun j _ h => by simp at h⟩
  | s, .lend :: ms, a :: as, h => by
    simp only [freeOf, Bool.and_eq_true, Bool.not_eq_true'] at h
    obtain ⟨h1, h2⟩ := freeOf_ok h.1
    refine ⟨fun j b m e n eb => ?_, fun j e hj => ?_⟩
    · cases j with
      | zero => simp at e; exact absurd e.symm n
      | succ j => exact h1 j b m (by simpa using e) n (by simpa using eb)
    · cases j with
      | zero => rfl
      | succ j => exact absurd rfl (noLend_any h.2 (show ms[j]? = some .lend by simpa using e))
  | s, .dat :: ms, a :: as, h => by
    simp only [freeOf, Bool.and_eq_true] at h
    obtain ⟨h1, h2⟩ := freeOf_ok h.2
    refine ⟨fun j b m e n eb => ?_, fun j e hj => ?_⟩
    · cases j with
      | zero =>
        simp at eb; subst eb
        intro i es
        have := h.1
        rw [es] at this
        simpa using this
      | succ j => exact h1 j b m (by simpa using e) n (by simpa using eb)
    · cases j with
      | zero => simp at e
      | succ j => simp [lnOf, h2 j (by simpa using e) (by simpa using hj)]
  | s, .bor :: ms, a :: as, h => by
    simp only [freeOf, Bool.and_eq_true] at h
    obtain ⟨h1, h2⟩ := freeOf_ok h.2
    refine ⟨fun j b m e n eb => ?_, fun j e hj => ?_⟩
    · cases j with
      | zero =>
        simp at eb; subst eb
        intro i es
        have := h.1
        rw [es] at this
        simpa using this
      | succ j => exact h1 j b m (by simpa using e) n (by simpa using eb)
    · cases j with
      | zero => simp at e
      | succ j => simp [lnOf, h2 j (by simpa using e) (by simpa using hj)]

section
variable {C : Ctx} {σ : St} {H H' : Hp} {ρ : List T} {vs xs : List V} {τ as ts : List T} {ow : Nat → List Addr} {ms : List Md}
/-- where the lent argument's lists are: its key among the cells -/
def kOf (n j : Nat) (a : T) : Nat := match a with
  | .ali i => i
  | _ => n + j
def lkey (n : Nat) (ms : List Md) (as : List T) : Option Nat := (lnOf ms).bind fun j => (as[j]?).map fun a => kOf n j a
theorem SI.atA (I : SI C σ H ρ (vs ++ xs) (τ ++ as) ow) (hτ : τ.length = vs.length) {j : Nat} {a : T} (e : as[j]? = some a) : ∃ v, xs[j]? = some v ∧ TIs C.K (Bar C ow) (BarB C ow) (wipe σ C.cv) H a v (ow (ρ.length + τ.length + j)) := by
  obtain ⟨v, hv, r⟩ := I.temp (j := τ.length + j) (t := a) (by rw [List.getElem?_append_right (by omega)]; simpa using e)
  rw [hτ, List.getElem?_append_right (by omega)] at hv
  simp at hv
  exact ⟨v, hv, by rw [Nat.add_assoc]; exact r⟩
/-- what the callee may not touch -/
def B0c (C : Ctx) (ow : Nat → List Addr) (n : Nat) (o : List Addr) (a : Addr) : Prop := Bar C ow a ∧ a ∉ o ∧ ∀ k, n ≤ k → a ∉ ow k
theorem argT_na {ρ : List T} {m : Md} {a t : T} (e : argT ρ m a = some t) (hρ : noAliL ρ = true) : noAli t = true := by
  cases m with
  | dat => simp only [argT, Option.map_eq_some_iff] at e; obtain ⟨d, _, rfl⟩ := e; rfl
  | bor => simp only [argT, Option.map_eq_some_iff] at e; obtain ⟨d, _, rfl⟩ := e; rfl
  | lend =>
    cases a with
    | ali i =>
      simp only [argT] at e
      split at e
      · simp at e
      · exact noAliL_iff.mp hρ i t e
    | _ =>
      simp only [argT] at e
      split at e
      · rename_i h
        simp at e; subst e; exact h
      · simp at e
theorem SI.pre (I : SI C σ H ρ (vs ++ xs) (τ ++ as) ow) (hτ : τ.length = vs.length) (hl : as.length = xs.length) (ea : argsT ρ ms as = some ts) (hf : freeOf (slotOf ms as) ms as = true) :
    ∃ o : List Addr, (match lkey (ρ.length + τ.length) ms as with | some k => o = ow k | none => o = []) ∧ Pre C.K (B0c C ow (ρ.length + τ.length) o) H (lnOf ms) xs ts o := by
  obtain ⟨f1, f2⟩ := freeOf_ok hf
  obtain ⟨l1, l2⟩ := argsT_len ea
  let n := ρ.length + τ.length
  have hk : ∃ o : List Addr, (match lkey n ms as with | some k => o = ow k | none => o = []) := by
    cases lkey n ms as with
    | none => exact ⟨[], rfl⟩
    | some k => exact ⟨ow k, rfl⟩
  obtain ⟨o, ho⟩ := hk
  have hok : ∀ a ∈ o, ∃ k, lkey n ms as = some k ∧ a ∈ ow k ∧ o = ow k := fun a ha => by
    cases e : lkey n ms as with
    | none => rw [e] at ho; rw [ho] at ha; simp at ha
    | some k => rw [e] at ho; exact ⟨k, rfl, by rw [← ho]; exact ha, ho⟩
  have keyj : ∀ {j k : Nat} {a : T}, lkey n ms as = some k → as[j]? = some a → ms[j]? ≠ some .lend → k ≠ n + j := fun {j k a} e eja hm z => by
    unfold lkey at e
    simp only [Option.bind_eq_some_iff, Option.map_eq_some_iff] at e
    obtain ⟨j', e1, a', e2, e3⟩ := e
    have hm' := lnOf_mode e1
    unfold kOf at e3
    split at e3
    · rename_i i
      -- an alias: a slot
      obtain ⟨v, hv, r⟩ := I.atA hτ e2
      generalize ow (ρ.length + τ.length + j') = oo at r
      cases r with
      | ali h =>
        have := (List.getElem?_eq_some_iff.mp (wipe_some h).1).1
        have := I.ln
        omega
    · have : j' = j := by omega
      subst this
      exact hm hm'
  refine ⟨o, ho, ⟨by omega, ?_, fun j t et => ?_, ?_, fun a ha z => z.2.1 ha, fun a ha => ?_, fun a ha => ?_⟩⟩
  · refine noAliL_iff.mpr fun j t et => ?_
    obtain ⟨m, a, _, _, e3⟩ := argsT_get ea et
    exact argT_na e3 I.na
  · obtain ⟨m, a, em, eA, e3⟩ := argsT_get ea et
    obtain ⟨v, hv, r⟩ := I.atA hτ eA
    refine ⟨v, hv, ?_⟩
    have bar1 : ∀ b u, H b = some u → ¬ Bar C ow b → ¬ (b ∈ o ∨ B0c C ow n o b) := fun b u q nb z => by
      rcases z with z | z
      · obtain ⟨k, _, h, _⟩ := hok b z; exact nb (.inl ⟨k, h⟩)
      · exact nb z.1
    have bar2 : ∀ b u, H b = some u → ¬ Bar C ow b → ¬ b ∈ o := fun b u q nb z => bar1 b u q nb (.inl z)
    have bar3 : ∀ b u, H b = some u → ¬ BarB C ow b → ¬ b ∈ o := fun b u q nb z => by
      obtain ⟨k, _, h, _⟩ := hok b z; exact nb ⟨k, h⟩
    by_cases hm : m = .lend
    · subst hm
      have hj : j < as.length := (List.getElem?_eq_some_iff.mp eA).1
      have hln := f2 j em hj
      rw [if_pos hln]
      have nt := argT_na e3 I.na
      have key : lkey n ms as = some (kOf n j a) := by
        unfold lkey
        rw [hln]
        show (as[j]?).map _ = _
        rw [eA]; rfl
      have go : ∀ {k : Nat} {s : St}, lkey n ms as = some k → TIs C.K (Bar C ow) (BarB C ow) s H t v (ow k) → TIs C.K (fun a => a ∈ o ∨ B0c C ow n o a) (fun a => a ∈ o) [] H t v o := fun {k s} ek r => by
        rw [ek] at ho
        have ho : o = ow k := ho
        rw [← ho] at r
        exact r.move (fun b u q nb => ⟨q, bar1 b u q nb⟩) (fun b u q nb => ⟨q, bar3 b u q nb⟩) (fun _ _ _ q => q) (.inr nt)
      cases a with
      | ali i =>
        have hvi : σ[i]? = some (some v) := by
          generalize ow (ρ.length + τ.length + j) = oo at r
          cases r with | ali h => exact (wipe_some h).1
        simp only [argT] at e3
        split at e3
        · simp at e3
        · rcases I.slot e3 with rfl | ⟨w, hw, r2⟩
          · rename_i z; exact absurd e3 z
          · rw [hvi] at hw; cases hw
            exact go key r2
      | dat d => exact go key (by cases e3; exact r)
      | bor d => exact go key (by cases e3; exact r)
      | own d => exact go key (by cases e3; exact r)
      | lbo d => exact go key (by cases e3; exact r)
      | dct d => exact go key (by cases e3; exact r)
      | scr d => exact go key (by cases e3; exact r)
      | emp => exact go key (by cases e3; exact r)
      | lst d =>
        simp only [argT] at e3
        split at e3
        · cases e3; exact go key r
        · cases e3
      | tup d =>
        simp only [argT] at e3
        split at e3
        · cases e3; exact go key r
        · cases e3
    · have hln : lnOf ms ≠ some j := fun z => hm (by
        have := lnOf_mode z
        rw [em] at this; exact Option.some.inj this)
      rw [if_neg hln]
      have noTemp : ∀ b ∈ ow (n + j), ¬ b ∈ o := fun b hb z => by
        obtain ⟨k, ek, h, _⟩ := hok b z
        exact I.dj k (n + j) b (keyj ek eA (by rw [em]; simpa using hm)) h hb
      cases m with
      | dat =>
        simp only [argT, Option.map_eq_some_iff] at e3
        obtain ⟨d, e4, rfl⟩ := e3
        refine .dat (r.frz I.tupOk bar1 (fun b hb z => ?_) e4)
        rcases z with z | z
        · exact noTemp b hb z
        · exact z.2.2 (n + j) (by omega) hb
      | bor =>
        simp only [argT, Option.map_eq_some_iff] at e3
        obtain ⟨d, e4, rfl⟩ := e3
        refine .bor (r.lkB bar2 bar3 (fun b hb => noTemp b hb) (fun i t' w d' hi et' ew ed => ?_) e4)
        rcases I.slot et' with rfl | ⟨w', hw', r2⟩
        · simp [toD] at ed
        · rw [(wipe_some ew).1] at hw'; cases hw'
          refine r2.toDB bar2 bar3 (fun b hb z => ?_) ed
          obtain ⟨k, ek, h, _⟩ := hok b z
          refine I.dj k i b (fun z => ?_) h hb
          subst z
          -- the key is slot i: so the lent argument is an alias of it
          unfold lkey at ek
          simp only [Option.bind_eq_some_iff, Option.map_eq_some_iff] at ek
          obtain ⟨j', e5, a', e6, e7⟩ := ek
          unfold kOf at e7
          split at e7
          · rename_i i'
            subst e7
            refine f1 j a .bor em (by simp) eA _ ?_ hi
            simp [slotOf, e5, e6]
          · have := (List.getElem?_eq_some_iff.mp et').1
            omega
      | lend => exact absurd rfl hm
  · cases e : lkey n ms as with
    | none => rw [e] at ho; rw [ho]; exact List.nodup_nil
    | some k => rw [e] at ho; rw [ho]; exact I.nd k
  · obtain ⟨k, _, h, _⟩ := hok a ha
    exact I.ot k a h
  · rcases ha.1 with ⟨k, h⟩ | h
    · exact I.ot k a h
    · obtain ⟨u, e, c⟩ := I.ok.b0 a h
      exact ⟨u, I.kp a u e fun z => I.ok.ob a z h, c⟩
/-- behind the call: the lent slot has t', (and the result on top) -/
theorem SI.post (I : SI C σ H ρ (vs ++ xs) (τ ++ as) ow) (hτ : τ.length = vs.length) (hl : as.length = xs.length) {o : List Addr} (ho : match lkey (ρ.length + τ.length) ms as with | some k => o = ow k | none => o = []) {go ro : List Addr} {t' : T} {ys : List V} {us : List T}
    (hco : PostC H o H') (hL : LentIs C.K (fun a => a ∈ go ∨ a ∈ ro ∨ B0c C ow (ρ.length + τ.length) o a) (fun a => a ∈ go ∨ a ∈ ro) (lnOf ms) xs H' t' go) (n1 : go.Nodup) (n2 : ro.Nodup) (dj : ∀ a ∈ go, a ∉ ro) (src : ∀ a, a ∈ go ∨ a ∈ ro → a ∈ o ∨ H a = none) (ot : ∀ a, a ∈ go ∨ a ∈ ro → ∃ u, H' a = some u ∧ Chg u)
    (hu : (us = [] ∧ ys = [] ∧ ro = []) ∨ ∃ r v, us = [r] ∧ ys = [v] ∧ clean r = true ∧ TIs C.K (fun a => a ∈ go ∨ a ∈ ro ∨ B0c C ow (ρ.length + τ.length) o a) (fun a => a ∈ go ∨ a ∈ ro) [] H' r v ro) :
    SS C σ H' (putT (slotOf ms as) t' ρ) (vs ++ ys) (τ ++ us) := by
  let n := ρ.length + τ.length
  have hul : us.length = ys.length := by rcases hu with ⟨rfl, rfl, _⟩ | ⟨r, v, rfl, rfl, _⟩ <;> rfl
  -- the lent slot
  have hslot : ∀ i, slotOf ms as = some i → i < ρ.length ∧ lkey n ms as = some i ∧ ∃ j v, lnOf ms = some j ∧ xs[j]? = some v ∧ σ[i]? = some (some v) := fun i e => by
    unfold slotOf at e
    simp only [Option.bind_eq_some_iff] at e
    obtain ⟨j, e1, a, e2, e3⟩ := e
    split at e3
    · rename_i i'
      simp at e3; subst e3
      obtain ⟨v, hv, r⟩ := I.atA hτ e2
      generalize ow (ρ.length + τ.length + j) = oo at r
      cases r with
      | ali h => exact ⟨(by have := (List.getElem?_eq_some_iff.mp (wipe_some h).1).1; have := I.ln; omega), (by unfold lkey; rw [e1]; show (as[j]?).map _ = _; rw [e2]; rfl), j, v, e1, hv, (wipe_some h).1⟩
    · simp at e3
  have ho2 : ∀ a ∈ o, ∃ k, lkey n ms as = some k ∧ a ∈ ow k := fun a ha => by
    cases e : lkey n ms as with
    | none => rw [show o = [] by rw [e] at ho; exact ho] at ha; simp at ha
    | some k => exact ⟨k, rfl, by rw [e] at ho; rw [← (show o = ow k from ho)]; exact ha⟩
  have hkey : ∀ k, lkey n ms as = some k → (slotOf ms as = some k) ∨ n ≤ k := fun k e => by
    unfold lkey at e
    simp only [Option.bind_eq_some_iff, Option.map_eq_some_iff] at e
    obtain ⟨j, e1, a, e2, e3⟩ := e
    unfold kOf at e3
    split at e3
    · subst e3; exact .inl (by simp [slotOf, e1, e2])
    · exact .inr (by omega)
  let S : Nat → Prop := fun k => slotOf ms as = some k ∨ n ≤ k
  have hS : ∀ k, slotOf ms as = some k → k < n := fun k e => by have := (hslot k e).1; omega
  -- when no slot is lent (a temporary was), what it ended as is dropped
  let go' : List Addr := if (slotOf ms as).isSome then go else []
  have go'sub : ∀ a ∈ go', a ∈ go := fun a h => by
    have h : a ∈ (if (slotOf ms as).isSome then go else []) := h
    split at h
    · exact h
    · simp at h
  have lenput : (putT (slotOf ms as) t' ρ).length = ρ.length := by
    unfold putT; split <;> simp
  have inS : ∀ a ∈ o, ∃ j, S j ∧ a ∈ ow j := fun a ha => by
    obtain ⟨k, ek, h⟩ := ho2 a ha
    exact ⟨k, hkey k ek, h⟩
  let ow' : Nat → List Addr := fun k => if slotOf ms as = some k then go' else if k < n then ow k else if k = n then ro else []
  have put : ∀ k, slotOf ms as ≠ some k → (putT (slotOf ms as) t' ρ)[k]? = ρ[k]? := fun k hk => by
    unfold putT
    split
    · rename_i i e
      refine List.getElem?_set_ne fun z => hk ?_
      rw [z] at e; exact e
    · rfl
  have bars : ∀ b, Bar C ow' b → b ∈ go ∨ b ∈ ro ∨ B0c C ow n o b := fun b z => by
    rcases z with ⟨k, z⟩ | z
    · have z : b ∈ (if slotOf ms as = some k then go' else if k < n then ow k else if k = n then ro else []) := z
      split at z
      · exact .inl (go'sub b z)
      · rename_i hk
        split at z
        · refine .inr (.inr ⟨.inl ⟨k, z⟩, fun q => ?_, fun k' hk' q => I.dj k k' b (by omega) z q⟩)
          obtain ⟨k', ek, h⟩ := ho2 b q
          refine I.dj k k' b (fun w => ?_) z h
          subst w
          rcases hkey k ek with w | w
          · exact hk w
          · omega
        · split at z
          · exact .inr (.inl z)
          · simp at z
    · refine .inr (.inr ⟨.inr z, fun q => ?_, fun k' _ q => I.nb0 q z⟩)
      obtain ⟨k, _, h⟩ := ho2 b q
      exact I.nb0 h z
  have barsB : ∀ b, (∃ k, b ∈ ow' k) → b ∈ go ∨ b ∈ ro ∨ ∃ k, b ∈ ow k := fun b ⟨k, z⟩ => by
    have z : b ∈ (if slotOf ms as = some k then go' else if k < n then ow k else if k = n then ro else []) := z
    split at z
    · exact .inl (go'sub b z)
    · split at z
      · exact .inr (.inr ⟨k, z⟩)
      · split at z
        · exact .inr (.inl z)
        · simp at z
  have nb : ∀ b u, H' b = some u → ¬ (b ∈ go ∨ b ∈ ro ∨ B0c C ow n o b) → H' b = some u ∧ ¬ Bar C ow' b := fun b u q z => ⟨q, fun w => z (bars b w)⟩
  have hS2 : ∀ k, ¬ S k → slotOf ms as ≠ some k ∧ k < n := fun k h => ⟨fun z => h (.inl z), by by_cases z : k < n; exact z; exact absurd (.inr (by omega)) h⟩
  have owS : ∀ k, slotOf ms as = some k → ow' k = go := fun k e => by
    show (if slotOf ms as = some k then go' else _) = go
    rw [if_pos e]
    show (if (slotOf ms as).isSome then go else []) = go
    rw [if_pos (by rw [e]; rfl)]
  have own_ : ow' n = ro := by
    show (if slotOf ms as = some n then go' else if n < n then ow n else if n = n then ro else []) = ro
    rw [if_neg (fun z => by have := hS n z; omega), if_neg (Nat.lt_irrefl _), if_pos rfl]
  have owHi : ∀ k, n < k → ow' k = [] := fun k hk => by
    show (if slotOf ms as = some k then go' else if k < n then ow k else if k = n then ro else []) = []
    rw [if_neg (fun z => by have := hS k z; omega), if_neg (by omega), if_neg (by omega)]
  have inGR : ∀ k a, S k → a ∈ ow' k → (slotOf ms as = some k ∧ a ∈ go) ∨ (k = n ∧ a ∈ ro) := fun k a hk h => by
    rcases hk with e | e
    · rw [owS k e] at h; exact .inl ⟨e, h⟩
    · by_cases z : k = n
      · subst z; rw [own_] at h; exact .inr ⟨rfl, h⟩
      · rw [owHi k (by omega)] at h; simp at h
  refine ⟨ow', I.next (S := S) (by rw [lenput, I.ln]) (by simp [hτ, hul]) ?_ (fun k hk => ?_) (fun k t hk e => ?_) lenput (fun b u e h => ?_) hco.tr (fun k a hk h => ?_) (fun m1 m2 k t hk e => ?_) (fun k hk => ?_) (fun j k a hj hk hjk h => ?_) (fun k a hk h => ?_) (fun _ _ => rfl)⟩
  · unfold putT
    split
    · rename_i i e
      exact noAliL_set I.na (clean_na (by
        obtain ⟨_, _, j, v, e1, _⟩ := hslot i e
        rw [e1] at hL; exact hL.1))
    · exact I.na
  · obtain ⟨h1, h2⟩ := hS2 k hk
    show (if slotOf ms as = some k then go' else if k < n then ow k else if k = n then ro else []) = ow k
    rw [if_neg h1, if_pos h2]
  · obtain ⟨h1, h2⟩ := hS2 k hk
    refine ⟨?_, ?_, .inl rfl⟩
    · by_cases hk2 : k < ρ.length
      · rw [List.getElem?_append_left (by rw [lenput]; exact hk2), put k h1] at e
        rw [List.getElem?_append_left hk2]; exact e
      · rw [List.getElem?_append_right (by rw [lenput]; omega), lenput] at e
        rw [List.getElem?_append_right (by omega)]
        rw [List.getElem?_append_left (by omega)] at e ⊢
        exact e
    · have z : k < (σ ++ List.map some vs).length := by simp [← I.ln, ← hτ]; exact h2
      simp only [List.map_append, ← List.append_assoc]
      exact (List.getElem?_append_left z).trans (List.getElem?_append_left z).symm
  · exact hco.sm b u e fun z => by
      obtain ⟨j, hj, q⟩ := inS b z
      exact h j hj q
  · have : a ∈ go ∨ a ∈ ro := (inGR k a hk h).imp (·.2) (·.2)
    rcases src a this with z | z
    · exact .inl (inS a z)
    · exact .inr z
  · rcases hk with ek | ek
    · obtain ⟨hi, _, j, v, e1, ev, es⟩ := hslot k ek
      have et : (putT (slotOf ms as) t' ρ)[k]? = some t' := by
        rw [ek]; show (ρ.set k t')[k]? = some t'
        exact List.getElem?_set_self hi
      rw [List.getElem?_append_left (by rw [lenput]; exact hi), et] at e
      cases e
      rw [e1] at hL
      obtain ⟨hc, hL⟩ := hL
      rcases hL with ⟨z, _⟩ | ⟨w, hw, r⟩
      · exact .inl ⟨z, by rw [lenput]; exact hi⟩
      · rw [ev] at hw; cases hw
        refine .inr ⟨v, ?_, ?_⟩
        · rw [List.getElem?_append_left (by rw [← I.ln]; exact hi)]; exact es
        · rw [owS k ek]
          exact r.clean nb (fun _ _ _ q => q) hc
    · have hlen : k < (putT (slotOf ms as) t' ρ ++ (τ ++ us)).length := (List.getElem?_eq_some_iff.mp e).1
      simp [lenput] at hlen
      rcases hu with ⟨rfl, rfl, _⟩ | ⟨r, v, rfl, rfl, hr, q⟩
      · simp at hlen; omega
      · simp at hlen
        have ek2 : k = n := by omega
        subst ek2
        rw [List.getElem?_append_right (by rw [lenput]; omega), lenput, List.getElem?_append_right (by omega)] at e
        have z : n - ρ.length - τ.length = 0 := by omega
        rw [z] at e
        simp at e; subst e
        refine .inr ⟨v, ?_, ?_⟩
        · simp only [List.map_append, ← List.append_assoc]
          rw [List.getElem?_append_right (by simp [← I.ln, ← hτ]; omega)]
          have z : n - (σ ++ List.map some vs).length = 0 := by simp [← I.ln, ← hτ]; omega
          rw [z]; rfl
        · rw [own_]
          exact q.clean nb (fun _ _ _ q => q) hr
  · rcases hk with ek | ek
    · rw [owS k ek]; exact n1
    · by_cases z : k = n
      · subst z; rw [own_]; exact n2
      · rw [owHi k (by omega)]; exact List.nodup_nil
  · intro h2
    rcases inGR j a hj h with ⟨e1, g1⟩ | ⟨e1, g1⟩ <;> rcases inGR k a hk h2 with ⟨e2, g2⟩ | ⟨e2, g2⟩
    · rw [e1] at e2; cases e2; exact hjk rfl
    · exact dj a g1 g2
    · exact dj a g2 g1
    · exact hjk (e1.trans e2.symm)
  · exact ot a ((inGR k a hk h).imp (·.2) (·.2))
end

/-! ### f(..) -/
/-- a contract asked at a call; it does not unfold by itself -/
structure Spc (spd : DSp) (ts : List T) (Q : T → T → Prop) (W : Exn → T → Prop) : Prop where
  of : spd ts Q W
def dCall (ms : List Md) (spd : DSp) (Wd : Exn → List T → Prop) (fs : DA) : DE := fun ρ Q => fs ρ fun as ρ1 => wO (argsT ρ1 ms as) fun ts => match freeOf (slotOf ms as) ms as with
  | true => Spc spd ts (fun r t' => Q r (putT (slotOf ms as) t' ρ1)) (fun ex t' => Wd ex (putT (slotOf ms as) t' ρ1))
  | false => False
theorem mb_true {b : Bool} {p : Prop} (h : match b with | true => p | false => False) : b = true ∧ p := by
  cases b with
  | true => exact ⟨rfl, h⟩
  | false => exact h.elim
theorem PostC.nil (K : PySem.W.Frag) : True := trivial
section
variable {C : Ctx} {k : Nat} {f : Addr} {fd : FuncData} {ps : List Str} {x : Str} {p pos : Pos} {e : Expr} {es : List Expr} {fs : DA} {ms : List Md} {spd : DSp} {n : Nat}
theorem sim_call {σ : St} {H : Hp} {ρ : List T} {vs xs : List V} {τ as : List T} {Qd : DQ} {Q : VK} (hn : n = ms.length) (I : SS C σ H ρ (vs ++ xs) (τ ++ as)) (hl : as.length = xs.length) (hτ : τ.length = vs.length)
    (q : wO (argsT ρ ms as) fun ts => match freeOf (slotOf ms as) ms as with
      | true => Spc spd ts (fun r t' => Qd r (putT (slotOf ms as) t' ρ)) (fun ex t' => C.Wd ex (putT (slotOf ms as) t' ρ))
      | false => False) (k : ∀ v H' x ρ', SS C σ H' ρ' (vs ++ [v]) (τ ++ [x]) → Qd x ρ' → Q v H') (hmono : ∀ (ts : List T) (R R' : T → T → Prop) (W W' : Exn → T → Prop), (∀ r t, R r t → R' r t) → (∀ r t, W r t → W' r t) → spd ts R W → spd ts R' W') :
    toSp C.K n (lnOf ms) spd xs H Q (WE (relW C) σ) := by
  obtain ⟨ts, ea, q⟩ := wO_some q
  obtain ⟨hf, ⟨q⟩⟩ := mb_true q
  obtain ⟨ow, J⟩ := I
  obtain ⟨o, ho, P⟩ := J.pre hτ hl ea hf
  obtain ⟨l1, l2⟩ := argsT_len ea
  refine ⟨_, ts, o, by omega, P, hmono ts _ _ _ _ (fun r t' hq v H' Po => ?_) (fun ex t' hw cls d H' Po => ?_) q⟩
  · obtain ⟨go, ro, h1, h2, h3, h4, h5, h6, h7⟩ := Po.ex
    exact k v H' r _ (J.post hτ hl ho Po.co h2 h3 h4 h5 h6 h7 (.inr ⟨r, v, rfl, rfl, Po.na, h1⟩)) hq
  · obtain ⟨go, h1, h2, h3, h4⟩ := Po.ex
    have e1 : (fun a => a ∈ go ∨ B0c C ow (ρ.length + τ.length) o a) = fun a => a ∈ go ∨ a ∈ ([] : List Addr) ∨ B0c C ow (ρ.length + τ.length) o a := by funext a; simp
    have e2 : (fun a => a ∈ go) = fun a => a ∈ go ∨ a ∈ ([] : List Addr) := by funext a; simp
    rw [e1, e2] at h1
    have S := J.post (ro := []) (ys := []) (us := []) hτ hl ho Po.co h1 h2 List.nodup_nil (fun _ _ z => by simp at z) (fun a z => h3 a (by simpa using z)) (fun a z => h4 a (by simpa using z)) (.inl ⟨rfl, rfl, rfl⟩)
    refine ⟨ex, _, Po.is, ?_, hw⟩
    have S' : SS C σ H' (putT (slotOf ms as) t' ρ) ([] ++ vs) ([] ++ τ) := by simpa using S
    exact S'.drop rfl
/-- a contract's ends may be weakened -/
def Mono (spd : DSp) : Prop := ∀ (ts : List T) (R R' : T → T → Prop) (W W' : Exn → T → Prop), (∀ r t, R r t → R' r t) → (∀ r t, W r t → W' r t) → spd ts R W → spd ts R' W'
theorem de_call (F : FnG C.X.prog C.X.w C.X.K C.X.mg C.X.base k f fd ps (toSp C.X.K n (lnOf ms) spd)) (hr : RoomG k C.X.A) (hm0 : Mono spd) (hn : n = ms.length) (hg : Gl C.X x) (hm : C.X.mg x = some (.ref f)) (hk : PySem.W.keepIn C.X.K (.ref f) = true) (hb : Binds C.X.K fd ps [])
    (tk : DTk C) (ha : DPA C (e :: es) fs) (hdb : (x == ("__debug__" : Str)) = false := by decide) (he : starEach (e :: es) C.X.env = (false, eval e C.X.env) :: starEach es C.X.env := by rfl) (hpl : (backTo pos (starEach es C.X.env)).any (·.1) = false := by rfl) :
    DPE C (.Call (.Name x p) (e :: es) [] pos) (dCall ms spd C.Wd fs) :=
  let ⟨_, pa, sa⟩ := ha.ex
  ⟨_, pe_callG F hr hg hm hk hb .nil (fun σ => passAt tk σ) pa hdb he hpl, fun σ H ρ vs τ Qd Q I h kk => sa σ H ρ vs τ _ _ I h fun xs H1 as ρ1 I1 hl q => by
    have := sim_call hn I1 hl (I1.lenA hl) q kk hm0
    rw [← List.append_nil xs] at this
    exact this⟩
/-- scalars behind the arguments -/
theorem SS.scs {σ : St} {H : Hp} {ρ : List T} {vs : List V} {τ : List T} : ∀ {dds : List D} {dvs : List V} {xs : List V} {as : List T}, dds.map sv = dvs.map some → SS C σ H ρ (vs ++ xs) (τ ++ as) → SS C σ H ρ (vs ++ (xs ++ dvs)) (τ ++ (as ++ dds.map .dat))
  | [], [], xs, as, _, I => by simpa using I
  | [], _ :: _, _, _, e, _ => by simp at e
  | _ :: _, [], _, _, e, _ => by simp at e
  | d :: dds, v :: dvs, xs, as, e, I => by
    simp only [List.map_cons, List.cons.injEq] at e
    have I2 : SS C σ H ρ (vs ++ (xs ++ [v])) (τ ++ (as ++ [.dat d])) := by simpa using I.sc e.1
    simpa using SS.scs e.2 I2
/-- a call that leaves the last parameters to their defaults -/
def dCallD (dds : List D) (ms : List Md) (spd : DSp) (Wd : Exn → List T → Prop) (fs : DA) : DE := dCall (ms ++ dds.map fun _ => .dat) spd Wd fun ρ Q => fs ρ fun as ρ1 => Q (as ++ dds.map .dat) ρ1
theorem de_callD {dds : List D} {dvs : List V} (F : FnG C.X.prog C.X.w C.X.K C.X.mg C.X.base k f fd ps (toSp C.X.K n (lnOf (ms ++ dds.map fun _ => .dat)) spd)) (hr : RoomG k C.X.A) (hm0 : Mono spd) (hn : n = (ms ++ dds.map fun _ => Md.dat).length) (hg : Gl C.X x) (hm : C.X.mg x = some (.ref f)) (hk : PySem.W.keepIn C.X.K (.ref f) = true)
    (hb : ∃ dsv, Vals dvs dsv ∧ Binds C.X.K fd ps dsv) (hdv : dds.map sv = dvs.map some)
    (tk : DTk C) (ha : DPA C (e :: es) fs) (hdb : (x == ("__debug__" : Str)) = false := by decide) (he : starEach (e :: es) C.X.env = (false, eval e C.X.env) :: starEach es C.X.env := by rfl) (hpl : (backTo pos (starEach es C.X.env)).any (·.1) = false := by rfl) :
    DPE C (.Call (.Name x p) (e :: es) [] pos) (dCallD dds ms spd C.Wd fs) :=
  let ⟨_, pa, sa⟩ := ha.ex
  let ⟨_, hv, hb⟩ := hb
  ⟨_, pe_callG F hr hg hm hk hb hv (fun σ => passAt tk σ) pa hdb he hpl, fun σ H ρ vs τ Qd Q I h kk => sa σ H ρ vs τ _ _ I h fun xs H1 as ρ1 I1 hl q => by
    have hdl : dds.length = dvs.length := by simpa using congrArg List.length hdv
    exact sim_call hn (SS.scs hdv I1) (by simp [hl, hdl]) (I1.lenA hl) q kk hm0⟩
end
end Ds
namespace Ds
open PySem L2

def wipeT (ρ : List T) : List Nat → List T
  | [] => ρ
  | i :: is => (wipeT ρ is).set i .emp
theorem wipeT_len (ρ : List T) : ∀ is, (wipeT ρ is).length = ρ.length
  | [] => rfl
  | i :: is => by unfold wipeT; rw [List.length_set, wipeT_len ρ is]
theorem wipeT_get {ρ : List T} {i : Nat} : ∀ {is : List Nat}, i ∉ is → (wipeT ρ is)[i]? = ρ[i]?
  | [], _ => rfl
  | j :: is, h => by
    unfold wipeT
    rw [List.getElem?_set_ne (fun z => h (by simp [z])), wipeT_get (fun z => h (by simp [z]))]
theorem wipeT_in {ρ : List T} {i : Nat} {t : T} : ∀ {is : List Nat}, i ∈ is → (wipeT ρ is)[i]? = some t → t = .emp
  | [], h, _ => by simp at h
  | j :: is, h, e => by
    unfold wipeT at e
    by_cases z : j = i
    · subst z
      by_cases hj : j < (wipeT ρ is).length
      · rw [List.getElem?_set_self hj] at e; exact (Option.some.inj e).symm
      · rw [List.getElem?_eq_none (by simpa using hj)] at e; cases e
    · rw [List.getElem?_set_ne z] at e
      exact wipeT_in (by simpa [Ne.symm z] using h) e
theorem wipeT_na {ρ : List T} : ∀ {is : List Nat}, noAliL ρ = true → noAliL (wipeT ρ is) = true
  | [], h => h
  | i :: is, h => by unfold wipeT; exact noAliL_set (wipeT_na h) rfl
section
variable {C : Ctx} {σ σ' σ2 : St} {H H' : Hp} {ρ ρ' : List T} {vs xs : List V} {τ ts : List T} {own : List Nat} {v w : V} {x t : T}
/-- to slots that differ in the block's own names alone; these forgotten -/
theorem SS.toW (h : SS C σ2 H ρ vs τ) (hw : wipe σ2 own = wipe σ own) (hc : ∀ i ∈ own, i ∈ C.cv) (hl : ∀ i ∈ own, i ∉ C.lent) : SS C σ H (wipeT ρ own) vs τ := by
  obtain ⟨ow, I⟩ := h
  have len : σ2.length = σ.length := by have := congrArg List.length hw; rwa [wipe_length, wipe_length] at this
  have out : ∀ i, i ∉ own → σ2[i]? = σ[i]? := fun i hi => by rw [← wipe_out hi, hw, wipe_out hi]
  have wcv : wipe σ C.cv = wipe σ2 C.cv := wipe_ext len.symm fun i hi => (out i fun z => hi (hc i z)).symm
  have keep : ∀ k (u : T), ¬ (k ∈ own ∧ k < ρ.length) → (wipeT ρ own ++ τ)[k]? = some u → (ρ ++ τ)[k]? = some u := fun k u hk e => by
    by_cases z : k < ρ.length
    · rw [List.getElem?_append_left (by rw [wipeT_len]; exact z), wipeT_get (fun q => hk ⟨q, z⟩)] at e
      rw [List.getElem?_append_left z]; exact e
    · rw [List.getElem?_append_right (by rw [wipeT_len]; omega), wipeT_len] at e
      rw [List.getElem?_append_right (by omega)]; exact e
  refine ⟨fun k => if k ∈ own ∧ k < ρ.length then [] else ow k, I.next (S := fun k => k ∈ own ∧ k < ρ.length) (by rw [wipeT_len, I.ln, len]) I.lt (wipeT_na I.na) (fun k hk => ?_) (fun k u hk e => ?_) (wipeT_len _ _) (fun b o e _ => e) (fun b z => z)
    (fun k a hk h => ?_) (fun m1 m2 k u hk e => ?_) (fun k hk => ?_) (fun j k a hj hk hjk h => ?_) (fun k a hk h => ?_) (fun i hi => ?_)⟩
  · simp only [if_neg hk]
  · refine ⟨keep k u hk e, ?_, .inl wcv⟩
    by_cases z : k < ρ.length
    · have a1 : k < σ.length := by rw [← len, ← I.ln]; exact z
      have a2 : k < σ2.length := by rw [← I.ln]; exact z
      exact (List.getElem?_append_left a1).trans ((out k fun q => hk ⟨q, z⟩).symm.trans (List.getElem?_append_left a2).symm)
    · have a1 : σ.length ≤ k := by rw [← len, ← I.ln]; omega
      have a2 : σ2.length ≤ k := by rw [← I.ln]; omega
      refine (List.getElem?_append_right a1).trans (Eq.trans ?_ (List.getElem?_append_right a2).symm)
      rw [len]
  · simp only [if_pos hk] at h; simp at h
  · refine .inl ⟨?_, by rw [wipeT_len]; exact hk.2⟩
    rw [List.getElem?_append_left (by rw [wipeT_len]; exact hk.2)] at e
    exact wipeT_in hk.1 e
  · simp only [if_pos hk]; exact List.nodup_nil
  · simp only [if_pos hj] at h; simp at h
  · simp only [if_pos hk] at h; simp at h
  · exact (out i fun z => hl i z hi).symm
theorem wipe_idem (σ : St) (own : List Nat) : wipe (wipe σ own) own = wipe σ own := wipe_ext (wipe_length _ _) fun i hi => wipe_out hi
/-- the top goes under -/
theorem SS.under {sv : List V} {sx : List T} (hl : sx.length = sv.length) : ∀ {sv2 : List V} {sx2 : List T}, sx2.length = sv2.length → SS C σ H ρ (vs ++ sv ++ [v] ++ sv2) (τ ++ sx ++ [t] ++ sx2) → SS C σ H ρ (vs ++ [v] ++ sv2 ++ sv) (τ ++ [t] ++ sx2 ++ sx) := by
  induction sv generalizing sx with
  | nil =>
    intro sv2 sx2 hl2 h
    have : sx = [] := List.length_eq_zero_iff.mp hl
    subst this
    simpa using h
  | cons s sv ih =>
    intro sv2 sx2 hl2 h
    match sx, hl with
    | u :: sx, hl =>
      have h1 : SS C σ H ρ (vs ++ (s :: (sv ++ [v] ++ sv2))) (τ ++ (u :: (sx ++ [t] ++ sx2))) := by simpa using h
      have h2 := h1.first (by simp at hl ⊢; omega)
      have h3 := ih (sx := sx) (by simpa using hl) (sv2 := sv2 ++ [s]) (sx2 := sx2 ++ [u]) (by simp [hl2]) (by simpa using h2)
      simpa using h3
theorem TIs.own_inv {K : PySem.W.Frag} {B Bb : Addr → Prop} {σ : St} {H : Hp} {ds : List D} {v : V} : ∀ {os : List Addr}, TIs K B Bb σ H (.own ds) v os → ∃ a zs, v = .ref a ∧ H a = some (.lst zs) ∧ DIsL K B H ds zs ∧ os = [a]
  | _, .own e q => ⟨_, _, rfl, e, q, rfl⟩
/-- the list below the top takes the top in -/
theorem SS.grow (h : SS C σ H ρ (vs ++ [.ref l] ++ xs ++ [w]) (τ ++ [.own acc] ++ ts ++ [x])) (hτ : τ.length = vs.length) {d : D} (hd : frz x = some d) :
    ∃ zs, H l = some (.lst zs) ∧ zs.length = acc.length ∧ SS C σ (upd H l (.lst (zs ++ [w]))) ρ (vs ++ [.ref l] ++ xs) (τ ++ [.own (acc ++ [d])] ++ ts) := by
  obtain ⟨ow, I⟩ := h
  have hl := I.lt
  simp at hl
  have hts : ts.length = xs.length := by omega
  let n := ρ.length + τ.length
  let m := ρ.length + (τ.length + 1 + ts.length)
  obtain ⟨v, hv, r⟩ := I.temp (j := τ.length) (t := .own acc) (by simp)
  have ev : v = .ref l := by rw [hτ] at hv; simp at hv; exact hv.symm
  subst ev
  have rtop := I.top
  have em : ρ.length + (τ ++ [T.own acc] ++ ts).length = m := by simp [m]; omega
  rw [em] at rtop
  have own_inv : ∃ zs, H l = some (.lst zs) ∧ DIsL C.K (Bar C ow) H acc zs ∧ ow n = [l] := by
    obtain ⟨a, zs, ea, e, q, eo⟩ := r.own_inv
    cases ea
    exact ⟨zs, e, q, eo⟩
  obtain ⟨zs, hz, dz, on⟩ := own_inv
  have lb : ∀ k, k ≠ n → l ∉ ow k := fun k hk q => I.dj n k l (Ne.symm hk) (by rw [on]; simp) q
  have hnm : n < m := by simp [n, m]; omega
  have low : ∀ (k : Nat) (α : Type) (A B E : List α), k < A.length → (A ++ B)[k]? = (A ++ E)[k]? := fun k α A B E h => by rw [List.getElem?_append_left h, List.getElem?_append_left h]
  let ow' : Nat → List Addr := fun k => if k = n then [l] else if k = m then [] else ow k
  have barN : ∀ b, Bar C ow' b → b = l ∨ (∃ k, k ≠ n ∧ k ≠ m ∧ b ∈ ow k) ∨ C.B0 b := fun b z => by
    rcases z with ⟨k, z⟩ | z
    · have z : b ∈ (if k = n then [l] else if k = m then [] else ow k) := z
      split at z
      · exact .inl (by simpa using z)
      · split at z
        · simp at z
        · exact .inr (.inl ⟨k, by assumption, by assumption, z⟩)
    · exact .inr (.inr z)
  have lN : Bar C ow' l := .inl ⟨n, by show l ∈ (if n = n then [l] else if n = m then [] else ow n); rw [if_pos rfl]; simp⟩
  refine ⟨zs, hz, dz.length.symm, ow', I.next (S := fun k => k = n ∨ m ≤ k) I.ln (by simp; omega) I.na (fun k hk => ?_) (fun k u hk e => ?_) rfl (fun b o e hb => ?_) (fun b z => ?_)
    (fun k a hk h => ?_) (fun m1 m2 k u hk e => ?_) (fun k hk => ?_) (fun j k a hj hk hjk h => ?_) (fun k a hk h => ?_) (fun i hi => rfl)⟩
  · show (if k = n then [l] else if k = m then [] else ow k) = ow k
    rw [if_neg (fun z => hk (.inl z)), if_neg (fun z => hk (.inr (by omega)))]
  · have h1 : k ≠ n := fun z => hk (.inl z)
    have h2 : k < m := by by_cases z : k < m; exact z; exact absurd (.inr (by omega)) hk
    refine ⟨?_, ?_, .inl rfl⟩
    · by_cases z : k < n
      · simp only [← List.append_assoc] at e ⊢
        rw [List.getElem?_append_left (by simp; omega), List.getElem?_append_left (by simp; omega)] at e
        rw [List.getElem?_append_left (by simp; omega), List.getElem?_append_left (by simp; omega), List.getElem?_append_left (by simp; omega)]
        exact e
      · simp only [← List.append_assoc] at e ⊢
        rw [List.getElem?_append_right (by simp; omega)] at e
        rw [List.getElem?_append_left (by simp; omega), List.getElem?_append_right (by simp; omega)]
        simpa using e
    · have z : k < (σ ++ List.map some (vs ++ [V.ref l] ++ xs)).length := by simp [← I.ln, ← hτ]; omega
      have e3 : (σ ++ List.map some (vs ++ [V.ref l] ++ xs ++ [w])) = (σ ++ List.map some (vs ++ [V.ref l] ++ xs)) ++ [some w] := by simp
      rw [e3]
      exact (List.getElem?_append_left z).symm
  · have : b ≠ l := fun z => hb n (.inl rfl) (by rw [on, z]; simp)
    rw [upd_ne this]; exact e
  · by_cases q : b = l
    · subst q; rw [upd_same]; simp
    · rw [upd_ne q]; exact z
  · have h : a ∈ (if k = n then [l] else if k = m then [] else ow k) := h
    split at h
    · simp at h; subst h; exact .inl ⟨n, .inl rfl, by rw [on]; simp⟩
    · split at h
      · simp at h
      · rename_i h1 h2
        exact .inl ⟨k, hk, h⟩
  · refine .inr ?_
    rcases hk with rfl | hk
    · have eu : u = .own (acc ++ [d]) := by
        simp only [← List.append_assoc] at e
        rw [List.getElem?_append_left (by simp [n]), List.getElem?_append_right (by simp [n])] at e
        simp [n] at e; exact e.symm
      subst eu
      refine ⟨.ref l, ?_, ?_⟩
      · simp only [List.map_append, ← List.append_assoc]
        rw [List.getElem?_append_left (by simp [← I.ln, ← hτ, n]), List.getElem?_append_right (by simp [← I.ln, ← hτ, n])]
        simp [← I.ln, ← hτ, n]
      · show TIs _ _ _ _ _ _ _ (if n = n then [l] else if n = m then [] else ow n)
        rw [if_pos rfl]
        refine .own upd_same ((dz.move m1).snoc ?_)
        have q : DIs C.K (Bar C ow') H d w := rtop.frz I.tupOk (fun b o e nb z => (m1 b o e nb).2 z) (fun a ha z => by
          rcases barN a z with rfl | ⟨k, h1, h2, h3⟩ | h
          · exact lb m (by omega) ha
          · exact I.dj k m a h2 h3 ha
          · exact I.nb0 ha h) hd
        exact q.move fun b o e nb => ⟨(by rw [upd_ne (fun z => nb (by rw [z]; exact lN))]; exact e), nb⟩
    · have : k < (ρ ++ (τ ++ [T.own (acc ++ [d])] ++ ts)).length := (List.getElem?_eq_some_iff.mp e).1
      simp at this
      omega
  · show (if k = n then [l] else if k = m then [] else ow k).Nodup
    split
    · simp
    · split
      · exact List.nodup_nil
      · exact I.nd k
  · have h : a ∈ (if j = n then [l] else if j = m then [] else ow j) := h
    show a ∉ (if k = n then [l] else if k = m then [] else ow k)
    split at h
    · simp at h; subst h
      rw [if_neg (by omega)]
      split
      · simp
      · exact lb k (by omega)
    · split at h
      · simp at h
      · split
        · simp only [List.mem_singleton]; intro z; exact lb j (by assumption) (by rw [← z]; exact h)
        · split
          · simp
          · exact I.dj j k a hjk h
  · have h : a ∈ (if k = n then [l] else if k = m then [] else ow k) := h
    split at h
    · simp at h; subst h; exact ⟨_, upd_same, trivial⟩
    · split at h
      · simp at h
      · obtain ⟨o, e, c⟩ := I.ot k a h
        rename_i h1 h2
        exact ⟨o, (by rw [upd_ne (fun z => lb k h1 (by rw [← z]; exact h))]; exact e), c⟩
end

/-! ### the rule -/
theorem wipeT_idem (ρ : List T) (own : List Nat) : wipeT (wipeT ρ own) own = wipeT ρ own := by
  refine List.ext_getElem? fun i => ?_
  by_cases h : i ∈ own
  · cases e : (wipeT (wipeT ρ own) own)[i]? with
    | none =>
      have := List.getElem?_eq_none_iff.mp e
      rw [wipeT_len] at this
      exact (List.getElem?_eq_none_iff.mpr this).symm
    | some t =>
      have h1 := wipeT_in h e
      have hi := (List.getElem?_eq_some_iff.mp e).1
      rw [wipeT_len] at hi
      have e2 : (wipeT ρ own)[i]? = some (wipeT ρ own)[i] := List.getElem?_eq_getElem hi
      rw [e2, wipeT_in h e2, h1]
  · exact wipeT_get h
def dLcGo (g : DG) (tt : DTt) (fe : DE) (own : List Nat) (K : List D → List T → Prop) : List T → List D → List T → Prop
  | [], acc, ρ => K acc ρ
  | t :: its, acc, ρ => g t ρ fun ρ1 => tt ρ1 fun b ρ2 => br b (fe ρ2 fun y ρ3 => wD (frz y) fun d => acc.length < sizeLine ∧ dLcGo g tt fe own K its (acc ++ [d]) (wipeT ρ3 own)) (dLcGo g tt fe own K its acc (wipeT ρ2 own))
def dLc (fi : DI) (g : DG) (tt : DTt) (fe : DE) (own : List Nat) : DE := fun ρ Q => fi ρ fun its ρ1 => dLcGo g tt fe own (fun ds ρ2 => Q (.own ds) ρ2) its [] (wipeT ρ1 own)
def dYes : DTt := fun ρ Q => Q true ρ
/-- targets that are names -/
def gNs : List Nat → TGs
  | [] => gNil
  | i :: is => gCons (gName i) (gNs is)
def dgNs : List Nat → DGs
  | [] => dgNil
  | i :: is => dgCons (dgName i) (dgNs is)
inductive Tgt where
  | one (i : Nat)
  | many (is : List Nat)
def Tgt.sl : Tgt → List Nat
  | .one i => [i]
  | .many is => is
def Tgt.g (K : PySem.W.Frag) : Tgt → TG
  | .one i => gName i
  | .many is => fun v σ H Q => gTup K is.length (gNs is) v σ H Q ∨ gLst K is.length (gNs is) v σ H Q
def Tgt.d : Tgt → DG
  | .one i => dgName i
  | .many is => dgTup is.length (dgNs is)
theorem tgt_mono {K : PySem.W.Frag} {tg : Tgt} {v : V} {σ : St} {H : Hp} {Q Q' : St → Hp → Prop} (h : tg.g K v σ H Q) (hq : ∀ σ' H', Q σ' H' → Q' σ' H') : tg.g K v σ H Q' := by
  have ns : ∀ {is : List Nat} {xs : List V} {σ : St} {H : Hp}, gNs is xs σ H Q → gNs is xs σ H Q' := by
    intro is
    induction is with
    | nil => intro xs σ H h; exact ⟨h.1, hq _ _ h.2⟩
    | cons i is ih => intro xs σ H h; obtain ⟨v, r, e, h⟩ := h; exact ⟨v, r, e, ih h⟩
  cases tg with
  | one i => exact hq _ _ h
  | many is =>
    rcases h with ⟨a, xs, e, h1, h2, h⟩ | ⟨a, xs, e, h1, h2, h⟩
    · exact .inl ⟨a, xs, e, h1, h2, ns h⟩
    · exact .inr ⟨a, xs, e, h1, h2, ns h⟩
theorem tgd_na {tg : Tgt} {t : T} {ρ : List T} {Q : List T → Prop} (h : tg.d t ρ Q) : noAli t = true := by
  cases tg with
  | one i => exact (na_ok h).1
  | many is => exact (na_ok h).1
section
variable {C : Ctx}
theorem gNs_only {own : List Nat} : ∀ {is : List Nat} {xs : List V} {σ : St} {H : Hp} {Q : St → Hp → Prop}, (∀ i ∈ is, i ∈ own) → gNs is xs σ H Q → gNs is xs σ H fun σ' H' => Q σ' H' ∧ wipe σ' own = wipe σ own
  | [], xs, σ, H, Q, _, h => ⟨h.1, h.2, rfl⟩
  | i :: is, xs, σ, H, Q, hi, h => by
    obtain ⟨v, r, rfl, h⟩ := h
    refine ⟨v, r, rfl, ?_⟩
    have := gNs_only (own := own) (is := is) (fun j hj => hi j (by simp [hj])) (show gNs is r (σ.set i (some v)) H Q from h)
    rw [set_wipe (hi i (by simp))] at this
    exact this
theorem Tgt.only {K : PySem.W.Frag} {own : List Nat} {tg : Tgt} {v : V} {σ : St} {H : Hp} {Q : St → Hp → Prop} (hs : ∀ i ∈ tg.sl, i ∈ own) (h : tg.g K v σ H Q) : tg.g K v σ H fun σ' H' => Q σ' H' ∧ wipe σ' own = wipe σ own := by
  cases tg with
  | one i => exact ⟨h, set_wipe (hs i (by simp [Tgt.sl]))⟩
  | many is =>
    rcases h with ⟨a, xs, e, h1, h2, h⟩ | ⟨a, xs, e, h1, h2, h⟩
    · exact .inl ⟨a, xs, e, h1, h2, gNs_only hs h⟩
    · exact .inr ⟨a, xs, e, h1, h2, gNs_only hs h⟩
/-- temporaries with aliases may lie below -/
def SimG' (C : Ctx) (g : TG) (f : DG) : Prop := ∀ (σ : St) (H : Hp) (ρ : List T) (vs : List V) (τ : List T) (v : V) (t : T) (Qd : List T → Prop) (Q : St → Hp → Prop), SS C σ H ρ (vs ++ [v]) (τ ++ [t]) → noAli t = true → f t ρ Qd →
  (∀ σ' H' ρ', SS C σ' H' ρ' vs τ → Qd ρ' → Q σ' H') → g v σ H Q
theorem sim_one {i : Nat} (nl : i ∉ C.lent) (hc : i ∈ C.cv) : SimG' C (gName i) (dgName i) := fun σ H ρ vs τ v t Qd Q I _ q k => by
  obtain ⟨nt, q⟩ := na_ok q
  by_cases z : i < ρ.length
  · exact k _ _ _ (I.assign z nt (.inr hc) nl) q
  · refine k _ _ ρ ?_ (by rw [getElem?_of_set z] at q; exact q)
    rw [getElem?_of_set (by rw [← I.lnN]; exact z)]
    exact I.pop
theorem sim_ns : ∀ {is : List Nat}, (∀ i ∈ is, i ∉ C.lent ∧ i ∈ C.cv) → ∀ (σ : St) (H : Hp) (ρ : List T) (vs : List V) (τ : List T) (xs : List V) (ts : List T) (Qd : List T → Prop) (Q : St → Hp → Prop), SS C σ H ρ (vs ++ xs) (τ ++ ts) → ts.length = xs.length → noAliL ts = true →
    dgNs is ts ρ Qd → (∀ σ' H' ρ', SS C σ' H' ρ' vs τ → Qd ρ' → Q σ' H') → gNs is xs σ H Q
  | [], _ => fun σ H ρ vs τ xs ts Qd Q I hl nt q k => by
    unfold dgNs dgNil at q
    split at q
    · have : xs = [] := List.length_eq_zero_iff.mp hl.symm
      subst this
      exact ⟨rfl, k _ _ _ (by simpa using I) q⟩
    · exact q.elim
  | i :: is, h => fun σ H ρ vs τ xs ts Qd Q I hl nt q k => by
    unfold dgNs dgCons at q
    split at q
    · rename_i t ts
      match xs, hl with
      | v :: xs, hl =>
        simp [noAliL] at nt
        refine ⟨v, xs, rfl, sim_one (h i (by simp)).1 (h i (by simp)).2 σ H ρ (vs ++ xs) (τ ++ ts) v t _ _ (I.first (by simpa using hl)) nt.1 q fun σ' H' ρ' I' q' => ?_⟩
        exact sim_ns (is := is) (fun j hj => h j (by simp [hj])) σ' H' ρ' vs τ xs ts _ _ I' (by simpa using hl) nt.2 q' k
    · exact q.elim
theorem Tgt.sim {tg : Tgt} (h : ∀ i ∈ tg.sl, i ∉ C.lent ∧ i ∈ C.cv) : SimG' C (tg.g C.K) tg.d := by
  cases tg with
  | one i => exact sim_one (h i (by simp [Tgt.sl])).1 (h i (by simp [Tgt.sl])).2
  | many is =>
    intro σ H ρ vs τ v t Qd Q I na q k
    obtain ⟨nt, q⟩ := na_ok q
    obtain ⟨us, e, hl, q⟩ := wO_some q
    obtain ⟨a, xs, rfl, hq, hlen, I'⟩ := I.apart e
    have fin := sim_ns (is := is) h σ H ρ vs τ xs us Qd Q I' hlen (noAli_parts nt e) q k
    rcases hq with hq | hq
    · exact .inl ⟨a, xs, rfl, hq, by omega, fin⟩
    · exact .inr ⟨a, xs, rfl, hq, by omega, fin⟩
/-- the transformer that a denotation is -/
def derE (C : Ctx) (f : DE) : TE := fun σ H Q => ∃ (ρ : List T) (vs : List V) (τ : List T) (Qd : DQ), SS C σ H ρ vs τ ∧ f ρ Qd ∧ ∀ v H' x ρ', SS C σ H' ρ' (vs ++ [v]) (τ ++ [x]) → Qd x ρ' → Q v H'
def derT (C : Ctx) (f : DTt) : TT := fun σ H Q => ∃ (ρ : List T) (vs : List V) (τ : List T) (Qd : Bool → List T → Prop), SS C σ H ρ vs τ ∧ f ρ Qd ∧ ∀ b H' ρ', SS C σ H' ρ' vs τ → Qd b ρ' → Q b H'
/-- a block's context -/
abbrev Ctx.blk (C : Ctx) (s : Shared) (H : Hp) (scope : Scope) (Cc : Addr) (cl : List (Str × Addr)) (fp : List Addr) : Ctx := { C with X := C.X.blk s H scope (compEnvC scope cl Cc C.X.env) fp, Wd := fun _ _ => False }
theorem SI.blk {σ : St} {H : Hp} {ρ : List T} {vs : List V} {τ : List T} {ow : Nat → List Addr} {s : Shared} {H1 : Hp} {scope : Scope} {Cc : Addr} {cl : List (Str × Addr)} {fp : List Addr} (I : SI C σ H ρ vs τ ow) : SI (C.blk s H1 scope Cc cl fp) σ H ρ vs τ ow :=
  ⟨⟨I.ok.b0, I.ok.ob⟩, I.ln, I.lt, I.na, I.cl, I.nd, I.dj, I.ot, I.fr, I.kp, I.tr, I.le⟩
theorem SI.unblk {σ : St} {H : Hp} {ρ : List T} {vs : List V} {τ : List T} {ow : Nat → List Addr} {s : Shared} {H1 : Hp} {scope : Scope} {Cc : Addr} {cl : List (Str × Addr)} {fp : List Addr} (I : SI (C.blk s H1 scope Cc cl fp) σ H ρ vs τ ow) : SI C σ H ρ vs τ ow :=
  ⟨⟨I.ok.b0, I.ok.ob⟩, I.ln, I.lt, I.na, I.cl, I.nd, I.dj, I.ot, I.fr, I.kp, I.tr, I.le⟩
theorem tk_blk {s : Shared} {H1 : Hp} {scope : Scope} {Cc : Addr} {cl : List (Str × Addr)} {fp : List Addr} : DTk (C.blk s H1 scope Cc cl fp) := takes0.imp fun _ _ _ _ ⟨_, _, _, _, h⟩ => h
structure DPTs (C : Ctx) (ifs : List Expr) (f : DTt) : Prop where
  ex : ∃ t, PTs C.X ifs t ∧ SimT C t f
theorem dts_nil : DPTs C [] dYes := ⟨_, pts_nil, fun σ H ρ vs τ Qd Q I h k => k _ _ _ I h⟩
theorem dts_one {c : Expr} {f : DTt} (h : DPT C c f) : DPTs C [c] f := let ⟨_, p, s⟩ := h.ex; ⟨_, pts_one p, s⟩
variable {elt tge iter : Expr} {ifs : List Expr} {scope : Scope} {own : List (Str × Nat)} {pos : Pos} {fi : DI} {tt : DTt} {fe : DE} {tg : Tgt}
theorem sim_lc {wi : TI} (hi : SimI C wi fi) (h1 : ∀ i ∈ tg.sl, i ∈ own.map (·.2)) (h2 : ∀ i ∈ own.map (·.2), i ∉ C.lent ∧ i ∈ C.cv) :
    Sim C (tLc wi (tg.g C.K) (derT C tt) (derE C fe) (own.map (·.2))) (dLc fi tg.d tt fe (own.map (·.2))) := fun σ H ρ vs τ Qd Q I h k => hi σ H ρ vs τ _ _ I h fun J H1 sv sx its ρ1 I1 nx wk q A hD => by
  let os := own.map (·.2)
  have hτ := I.ltE
  have hsx : sx.length = sv.length := by have := I1.ltE; simp at this; omega
  have hc : ∀ i ∈ os, i ∈ C.cv := fun i hi => (h2 i hi).2
  have hl : ∀ i ∈ os, i ∉ C.lent := fun i hi => (h2 i hi).1
  -- the new list under the sources
  have I2 : SS C σ (upd H1 A (.lst [])) (wipeT ρ1 os) (vs ++ [.ref A] ++ sv) (τ ++ [.own []] ++ sx) := by
    obtain ⟨ow, J1⟩ := id I1
    have J2 : SS C σ (upd H1 A (.lst [])) ρ1 (vs ++ sv ++ [.ref A]) (τ ++ sx ++ [.own []]) := by
      have J1' : SI C σ H1 ρ1 (vs ++ sv ++ []) (τ ++ sx ++ []) ow := by simpa using J1
      exact J1'.newL J1.lt hD .nil
    have J3 := SS.under (vs := vs) (τ := τ) (sv := sv) (sx := sx) hsx (sv2 := []) (sx2 := []) rfl (by simpa using J2)
    have J4 : SS C σ (upd H1 A (.lst [])) ρ1 (vs ++ [.ref A] ++ sv) (τ ++ [.own []] ++ sx) := by simpa using J3
    exact J4.toW rfl hc hl
  have hτ2 : (τ ++ [T.own []]).length = (vs ++ [V.ref A]).length := by simp [hτ]
  refine ⟨fun i m H => m = its.length - i ∧ i ≤ its.length ∧ ∃ acc ρ, SS C σ H ρ (vs ++ [.ref A] ++ sv) (τ ++ [.own acc] ++ sx) ∧ wipeT ρ os = ρ ∧ dLcGo tg.d tt fe os (fun ds ρ2 => Qd (.own ds) ρ2) (its.drop i) acc ρ, ⟨_, rfl, Nat.zero_le _, [], _, I2, wipeT_idem _ _, q⟩, ?_⟩
  rintro i m H3 ⟨rfl, hle, acc, ρ3, I3, hw3, q3⟩
  have hτ3 : (τ ++ [T.own acc]).length = (vs ++ [V.ref A]).length := by simp [hτ]
  have I3w : SS C (wipe σ os) H3 ρ3 (vs ++ [.ref A] ++ sv) (τ ++ [.own acc] ++ sx) := by
    have := I3.toW (σ := wipe σ os) (own := os) (wipe_idem σ os).symm hc hl
    rwa [hw3] at this
  obtain ⟨st, go⟩ := wk i (wipe σ os) H3 ρ3 (vs ++ [.ref A]) (τ ++ [.own acc]) hτ3 I3w
  by_cases hlt : i < its.length
  · have e : its[i]? = some its[i] := List.getElem?_eq_getElem hlt
    obtain ⟨g1, y⟩ := go _ e
    refine .inr ⟨g1, fun H' => ∃ acc ρ, SS C σ H' ρ (vs ++ [.ref A] ++ sv) (τ ++ [.own acc] ++ sx) ∧ wipeT ρ os = ρ ∧ dLcGo tg.d tt fe os (fun ds ρ2 => Qd (.own ds) ρ2) (its.drop (i + 1)) acc ρ, fun H' ⟨acc, ρ', I', hw', q'⟩ => ⟨_, by omega, rfl, by omega, acc, ρ', I', hw', q'⟩, fun w H4 hy => ?_⟩
    have I4 := y w H4 hy
    have nt : noAli its[i] = true ∨ noAli its[i] = false := by cases noAli its[i] <;> simp
    rw [List.drop_eq_getElem_cons hlt] at q3
    have back : ∀ {σ2 : St} {H5 : Hp} {ρ5 : List T} {acc5 : List D}, wipe σ2 os = wipe σ os → SS C σ2 H5 ρ5 (vs ++ [.ref A] ++ sv) (τ ++ [.own acc5] ++ sx) → dLcGo tg.d tt fe os (fun ds ρ2 => Qd (.own ds) ρ2) (its.drop (i + 1)) acc5 (wipeT ρ5 os) →
        ∃ acc ρ, SS C σ H5 ρ (vs ++ [.ref A] ++ sv) (τ ++ [.own acc] ++ sx) ∧ wipeT ρ os = ρ ∧ dLcGo tg.d tt fe os (fun ds ρ2 => Qd (.own ds) ρ2) (its.drop (i + 1)) acc ρ := fun {σ2 H5 ρ5 acc5} hw I5 q5 => ⟨acc5, _, I5.toW hw hc hl, wipeT_idem _ _, q5⟩
    have hgo := Tgt.sim (C := C) (tg := tg) (fun i hi => h2 i (h1 i hi)) (wipe σ os) H4 ρ3 _ _ w its[i] _ (fun σ2 H2 => ∀ (hw : wipe σ2 os = wipe σ os), derT C tt σ2 H2 fun b H3 => if b = true then derE C fe σ2 H3 fun y H4 => ∃ acc, H4 A = some (.lst acc) ∧ acc.length < sizeLine ∧
        (∃ acc2 ρ, SS C σ (upd H4 A (.lst (acc ++ [y]))) ρ (vs ++ [.ref A] ++ sv) (τ ++ [.own acc2] ++ sx) ∧ wipeT ρ os = ρ ∧ dLcGo tg.d tt fe os (fun ds ρ2 => Qd (.own ds) ρ2) (its.drop (i + 1)) acc2 ρ) else
        (∃ acc ρ, SS C σ H3 ρ (vs ++ [.ref A] ++ sv) (τ ++ [.own acc] ++ sx) ∧ wipeT ρ os = ρ ∧ dLcGo tg.d tt fe os (fun ds ρ2 => Qd (.own ds) ρ2) (its.drop (i + 1)) acc ρ)) I4 (tgd_na q3) q3 fun σ5 H5 ρ5 I5 q5 hw => ⟨ρ5, _, _, _, I5, q5, fun b H6 ρ6 I6 q6 => ?_⟩
    · have hon := Tgt.only (K := C.K) (own := os) h1 hgo
      exact tgt_mono hon fun σ' H' ⟨hq, hw⟩ => ⟨by rw [hw, wipe_idem], hq (by rw [hw, wipe_idem])⟩
    · cases b with
      | true =>
        rw [if_pos rfl]
        refine ⟨ρ6, _, _, _, I6, q6.t rfl, fun v7 H7 x7 ρ7 I7 q7 => ?_⟩
        obtain ⟨d, ed, hlen, q7⟩ := wD_some q7
        obtain ⟨zs, hz, hzl, I8⟩ := I7.grow hτ ed
        exact ⟨zs, hz, by omega, back hw I8 q7⟩
      | false =>
        rw [if_neg (by decide)]
        exact back hw I6 (q6.f rfl)
  · have e : i = its.length := by omega
    subst e
    rw [List.drop_length] at q3
    have I5 : SS C σ H3 ρ3 (vs ++ [.ref A]) (τ ++ [.own acc]) := I3.drop hτ3
    exact .inl ⟨st (Nat.le_refl _), k _ _ _ _ I5 q3⟩
end
end Ds
namespace Ds
open PySem L2
section
variable {C : Ctx}
/-- a target, in every block -/
structure TgtOk (C : Ctx) (tge : Expr) (tg : Tgt) (scope : Scope) : Prop where
  pg : ∀ (s : Shared) (H : Hp) (Cc : Addr) (cl : List (Str × Addr)) (fp : List Addr), PG (C.blk s H scope Cc cl fp).X tge (tg.g C.K)
theorem tgt_one {i : Nat} {x : Str} {pos : Pos} {scope : Scope} (hN : C.X.N.Nodup) (hi : C.X.N[i]? = some x) (hx : Loc (relabel scope C.X.env) x) (hf : (relabel scope C.X.env).names.lookup x = some .local) : TgtOk C (.Name x pos) (.one i) scope :=
  ⟨fun s H Cc cl fp => pg_name (X := (C.blk s H scope Cc cl fp).X) hN hi hx (.inr hf)⟩
inductive NmsOk (N : List Str) (scope : Scope) : List Expr → List Nat → Prop
  | nil : NmsOk N scope [] []
  | cons {i : Nat} {x : Str} {pos : Pos} {es : List Expr} {is : List Nat} : N[i]? = some x → Loc scope x → scope.names.lookup x = some .local → NmsOk N scope es is → NmsOk N scope (.Name x pos :: es) (i :: is)
theorem pgs_ns {scope : Scope} (hN : C.X.N.Nodup) : ∀ {es : List Expr} {is : List Nat}, NmsOk C.X.N (relabel scope C.X.env) es is → ∀ (s : Shared) (H : Hp) (Cc : Addr) (cl : List (Str × Addr)) (fp : List Addr), PGs (C.blk s H scope Cc cl fp).X es (gNs is)
  | _, _, .nil, _, _, _, _, _ => pgs_nil
  | _, _, .cons h1 h2 h3 r, s, H, Cc, cl, fp => pgs_cons (pg_name (X := (C.blk s H scope Cc cl fp).X) hN h1 h2 (.inr h3)) (pgs_ns hN r s H Cc cl fp)
theorem tgt_many {es : List Expr} {is : List Nat} {k : Nat} {pos : Pos} {scope : Scope} (hc : C.X.calm = true) (hN : C.X.N.Nodup) (h : NmsOk C.X.N (relabel scope C.X.env) es is) (hn : ∀ env : Env, (assignEach es env).length = is.length := by intro _; rfl) (hst : ∀ env : Env, (assignEach es env).findIdx? (·.1) = none := by intro _; rfl) : TgtOk C (.Tuple es k pos) (.many is) scope :=
  ⟨fun s H Cc cl fp => pg_or (pg_tup (X := (C.blk s H scope Cc cl fp).X) hc (pgs_ns hN h s H Cc cl fp) (hn _) (hst _)) (pg_lst (X := (C.blk s H scope Cc cl fp).X) hc (pgs_ns hN h s H Cc cl fp) (hn _) (hst _))⟩
variable {elt tge iter : Expr} {ifs : List Expr} {scope : Scope} {own : List (Str × Nat)} {pos : Pos} {fi : DI} {tt : DTt} {fe : DE} {tg : Tgt}
theorem pe_der {s : Shared} {H : Hp} {Cc : Addr} {cl : List (Str × Addr)} {fp : List Addr} {e : Expr} {f : DE} (h : DPE (C.blk s H scope Cc cl fp) e f) : PE (C.blk s H scope Cc cl fp).X e (derE C f) :=
  let ⟨_, p, sm⟩ := h.ex
  ⟨fun pins s1 σ H1 Q I ⟨ρ, vs, τ, Qd, ⟨ow, J⟩, q, k⟩ => p.run pins s1 σ H1 Q I (sm σ H1 ρ vs τ Qd Q ⟨ow, J.blk⟩ q fun v H' x ρ' ⟨ow', J'⟩ q' => k v H' x ρ' ⟨ow', J'.unblk⟩ q')⟩
theorem pts_der {s : Shared} {H : Hp} {Cc : Addr} {cl : List (Str × Addr)} {fp : List Addr} {es : List Expr} {f : DTt} (h : DPTs (C.blk s H scope Cc cl fp) es f) : PTs (C.blk s H scope Cc cl fp).X es (derT C f) :=
  let ⟨_, p, sm⟩ := h.ex
  ⟨fun pins s1 σ H1 Q I ⟨ρ, vs, τ, Qd, ⟨ow, J⟩, q, k⟩ => p.run pins s1 σ H1 Q I (sm σ H1 ρ vs τ Qd Q ⟨ow, J.blk⟩ q fun v H' ρ' ⟨ow', J'⟩ q' => k v H' ρ' ⟨ow', J'.unblk⟩ q')⟩
theorem de_lc (hc : C.X.calm = true) (hN : C.X.N.Nodup) (hi : DPI C tge iter fi) (ok : BlkOk C.X.N C.X.env.scope scope own) (hg : TgtOk C tge tg scope)
    (ht : ∀ (s : Shared) (H : Hp) (Cc : Addr) (cl : List (Str × Addr)) (fp : List Addr), DPTs (C.blk s H scope Cc cl fp) ifs tt) (he : ∀ (s : Shared) (H : Hp) (Cc : Addr) (cl : List (Str × Addr)) (fp : List Addr), DPE (C.blk s H scope Cc cl fp) elt fe)
    (h1 : ∀ i ∈ tg.sl, i ∈ own.map (·.2)) (h2 : ∀ i ∈ own.map (·.2), i ∉ C.lent ∧ i ∈ C.cv) (hs : ∀ x, foldedSetIterable iter C.X.env x = pure x := by intro _; rfl) :
    DPE C (.ListComp elt [⟨tge, iter, ifs, 0⟩] scope pos) (dLc fi tg.d tt fe (own.map (·.2))) :=
  let ⟨_, p, s⟩ := hi.ex
  ⟨_, pe_lc hc hN p ok (fun s H Cc cl fp => hg.pg s H Cc cl fp) (fun s H Cc cl fp => pts_der (ht s H Cc cl fp)) (fun s H Cc cl fp => pe_der (he s H Cc cl fp)) hs, sim_lc s h1 h2⟩
end
end Ds
namespace Ds
open PySem L2
section
variable {C : Ctx} {σ : St} {H : Hp} {ρ : List T} {vs xs : List V} {τ ts : List T} {i : Nat} {ds : List D}
theorem DIsL.getD' {K : PySem.W.Frag} {B : Addr → Prop} {H : Hp} {ds : List D} {vs : List V} {i : Nat} {d : D} (h : DIsL K B H ds vs) (e : ds[i]? = some d) : ∃ v, vs[i]? = some v ∧ DIs K B H d v := h.get e
theorem SS.mut (I : SS C σ H ρ (vs ++ xs) (τ ++ ts)) (hτ : τ.length = vs.length) (ei : ρ[i]? = some (.own ds)) :
    ∃ l zs, σ[i]? = some (some (.ref l)) ∧ H l = some (.lst zs) ∧ zs.length = ds.length ∧ ∀ ds' zs' es ys, (∀ B', DIsL C.K B' H ds zs → (∀ (j : Nat) (x : T) (v : V) (d : D), ts[j]? = some x → xs[j]? = some v → frz x = some d → DIs C.K B' H d v) → DIsL C.K B' H ds' zs' ∧ DIsL C.K B' H es ys) →
      SS C σ (upd H l (.lst zs')) (ρ.set i (.own ds')) (vs ++ ys) (τ ++ es.map .dat) := by
  obtain ⟨ow, I⟩ := I
  have hlt := I.lt
  simp at hlt
  have hts : ts.length = xs.length := by omega
  have hi : i < ρ.length := (List.getElem?_eq_some_iff.mp ei).1
  let m := ρ.length + τ.length
  rcases I.slot ei with z | ⟨v, hv, r⟩
  · cases z
  · have own_inv : ∃ l zs, v = .ref l ∧ H l = some (.lst zs) ∧ DIsL C.K (Bar C ow) H ds zs ∧ ow i = [l] := by
      obtain ⟨a, zs, ea, e, q, eo⟩ := r.own_inv
      exact ⟨a, zs, ea, e, q, eo⟩
    obtain ⟨l, zs, rfl, hz, dz, on⟩ := own_inv
    refine ⟨l, zs, hv, hz, dz.length.symm, fun ds' zs' es ys nw => ?_⟩
    have lb : ∀ k, k ≠ i → l ∉ ow k := fun k hk q => I.dj i k l (Ne.symm hk) (by rw [on]; simp) q
    let ow' : Nat → List Addr := fun k => if k = i then [l] else if m ≤ k then [] else ow k
    have owi : ow' i = [l] := if_pos rfl
    have barN : ∀ b, Bar C ow' b → b = l ∨ (∃ k, k ≠ i ∧ k < m ∧ b ∈ ow k) ∨ C.B0 b := fun b z => by
      rcases z with ⟨k, z⟩ | z
      · have z : b ∈ (if k = i then [l] else if m ≤ k then [] else ow k) := z
        split at z
        · exact .inl (by simpa using z)
        · split at z
          · simp at z
          · exact .inr (.inl ⟨k, by assumption, by omega, z⟩)
      · exact .inr (.inr z)
    have lN : Bar C ow' l := .inl ⟨i, by rw [owi]; simp⟩
    have him : i < m := by simp [m]; omega
    -- the elements, at the new barrier, in the old heap
    have old : ∀ b o, H b = some o → ¬ Bar C ow b → ¬ Bar C ow' b := fun b o e n z => by
      rcases barN b z with rfl | ⟨k, _, _, h3⟩ | h
      · exact n (.inl ⟨i, by rw [on]; simp⟩)
      · exact n (.inl ⟨k, h3⟩)
      · exact n (.inr h)
    have q1 : DIsL C.K (Bar C ow') H ds zs := dz.move fun b o e n => ⟨e, old b o e n⟩
    have q2 : ∀ (j : Nat) (x : T) (v : V) (d : D), ts[j]? = some x → xs[j]? = some v → frz x = some d → DIs C.K (Bar C ow') H d v := fun j x v d e1 e2 e3 => by
      have et : (τ ++ ts)[τ.length + j]? = some x := by rw [List.getElem?_append_right (by omega)]; simpa using e1
      obtain ⟨v', hv', r'⟩ := I.temp et
      rw [List.getElem?_append_right (by omega), show τ.length + j - vs.length = j by omega, e2] at hv'
      cases hv'
      refine r'.frz I.tupOk old (fun a ha z => ?_) e3
      rcases barN a z with rfl | ⟨k, h1, h2, h3⟩ | h
      · exact lb _ (by omega) ha
      · exact I.dj k (ρ.length + (τ.length + j)) a (by omega) h3 ha
      · exact I.nb0 ha h
    obtain ⟨n1, n2⟩ := nw _ q1 q2
    have mv : ∀ b o, H b = some o → ¬ Bar C ow' b → upd H l (.lst zs') b = some o ∧ ¬ Bar C ow' b := fun b o e nb => ⟨(by rw [upd_ne (fun z => nb (by rw [z]; exact lN))]; exact e), nb⟩
    have hey : es.length = ys.length := n2.length
    refine ⟨ow', I.next (S := fun k => k = i ∨ m ≤ k) (by rw [List.length_set]; exact I.ln) (by simp [hτ, hey]) (noAliL_set I.na rfl) (fun k hk => ?_) (fun k u hk e => ?_) (List.length_set ..) (fun b o e hb => ?_) (fun b z => ?_)
      (fun k a hk h => ?_) (fun m1 m2 k u hk e => ?_) (fun k hk => ?_) (fun j k a hj hk hjk h => ?_) (fun k a hk h => ?_) (fun i hi => rfl)⟩
    · show (if k = i then [l] else if m ≤ k then [] else ow k) = ow k
      rw [if_neg (fun z => hk (.inl z)), if_neg (fun z => hk (.inr z))]
    · have h1 : k ≠ i := fun z => hk (.inl z)
      have h2 : k < m := by by_cases z : k < m; exact z; exact absurd (.inr (by omega)) hk
      refine ⟨?_, ?_, .inl rfl⟩
      · by_cases z : k < ρ.length
        · rw [List.getElem?_append_left (by simpa using z), List.getElem?_set_ne (Ne.symm h1)] at e
          rw [List.getElem?_append_left z]; exact e
        · rw [List.getElem?_append_right (by simp; omega), List.length_set, List.getElem?_append_left (by simp [m] at h2; omega)] at e
          rw [List.getElem?_append_right (by omega), List.getElem?_append_left (by simp [m] at h2; omega)]; exact e
      · have z : k < (σ ++ List.map some vs).length := by simp [← I.ln, ← hτ]; omega
        rw [List.map_append, List.map_append, ← List.append_assoc, ← List.append_assoc, List.getElem?_append_left z, List.getElem?_append_left z]
    · have : b ≠ l := fun z => hb i (.inl rfl) (by rw [on, z]; simp)
      rw [upd_ne this]; exact e
    · by_cases q : b = l
      · subst q; rw [upd_same]; simp
      · rw [upd_ne q]; exact z
    · have h : a ∈ (if k = i then [l] else if m ≤ k then [] else ow k) := h
      split at h
      · simp at h; subst h; exact .inl ⟨i, .inl rfl, by rw [on]; simp⟩
      · split at h
        · simp at h
        · exact absurd hk (fun z => z.elim (by assumption) (by assumption))
    · refine .inr ?_
      rcases hk with rfl | hk
      · rw [List.getElem?_append_left (by simpa using hi), List.getElem?_set_self hi] at e
        cases e
        refine ⟨.ref l, ?_, ?_⟩
        · rw [List.getElem?_append_left (by rw [← I.ln]; exact hi)]; exact hv
        · rw [owi]
          exact .own upd_same (n1.move mv)
      · have e2 : (List.map T.dat es)[k - m]? = some u := by
          rw [List.getElem?_append_right (by simp; omega), List.length_set, List.getElem?_append_right (by omega)] at e
          rw [show k - m = k - ρ.length - τ.length by omega]; exact e
        rw [List.getElem?_map, Option.map_eq_some_iff] at e2
        obtain ⟨d, ed, rfl⟩ := e2
        obtain ⟨w, hw, rw1⟩ := n2.get ed
        have oe : ow' k = [] := by
          show (if k = i then [l] else if m ≤ k then [] else ow k) = []
          rw [if_neg (by omega), if_pos hk]
        refine ⟨w, ?_, ?_⟩
        · rw [List.map_append, ← List.append_assoc, List.getElem?_append_right (by simp [← I.ln, ← hτ]; omega)]
          simp only [List.length_append, List.length_map, ← I.ln, ← hτ]
          rw [List.getElem?_map, show k - (ρ.length + τ.length) = k - m from rfl, hw]
          rfl
        · rw [oe]
          exact .dat (rw1.move mv)
    · show (if k = i then [l] else if m ≤ k then [] else ow k).Nodup
      split
      · simp
      · split
        · exact List.nodup_nil
        · exact I.nd k
    · have h : a ∈ (if j = i then [l] else if m ≤ j then [] else ow j) := h
      show a ∉ (if k = i then [l] else if m ≤ k then [] else ow k)
      split at h
      · simp at h; subst h
        rw [if_neg (by omega)]
        split
        · simp
        · exact lb k (by omega)
      · split at h
        · simp at h
        · exact absurd hj (fun z => z.elim (by assumption) (by assumption))
    · have h : a ∈ (if k = i then [l] else if m ≤ k then [] else ow k) := h
      split at h
      · simp at h; subst h; exact ⟨_, upd_same, trivial⟩
      · split at h
        · simp at h
        · exact absurd hk (fun z => z.elim (by assumption) (by assumption))
end

/-! ### methods of a list that a local holds -/
abbrev DLm := List T → List D → List T → (List D → D → Prop) → Prop
def dLm (i : Nat) (g : DLm) (fs : DA) : DE := fun ρ Q => match ρ[i]? with
  | some (.own _) => fs ρ fun ts ρ1 => match ρ1[i]? with
    | some (.own ds) => g ρ1 ds ts fun ds' r => Q (.dat r) (ρ1.set i (.own ds'))
    | _ => False
  | _ => False
structure LmIn (C : Ctx) (H : Hp) (ρ : List T) (xs : List V) (ts : List T) (ds : List D) (l : Addr) (zs : List V) : Prop where
  tl : ts.length = xs.length
  at_ : H l = some (.lst zs)
  zl : zs.length = ds.length
  lk : ∀ (j : Nat) (x : T) (d : D), ts[j]? = some x → Ds.lk ρ x = some d → ∃ v, xs[j]? = some v ∧ DIs C.K N0 H d v
  is : DIsL C.K N0 H ds zs
def LmNw (C : Ctx) (H : Hp) (xs : List V) (ts : List T) (ds : List D) (zs : List V) (ds' : List D) (e : D) (zs' : List V) (y : V) : Prop :=
  ∀ B', DIsL C.K B' H ds zs → (∀ (j : Nat) (x : T) (v : V) (d : D), ts[j]? = some x → xs[j]? = some v → frz x = some d → DIs C.K B' H d v) → DIsL C.K B' H ds' zs' ∧ DIs C.K B' H e y
def SimLm (C : Ctx) (r : V → List V → Hp → VK → Prop) (g : DLm) : Prop := ∀ (H : Hp) (ρ : List T) (xs : List V) (ts : List T) (ds : List D) (l : Addr) (zs : List V) (Qd : List D → D → Prop) (Q : VK), LmIn C H ρ xs ts ds l zs → g ρ ds ts Qd →
  (∀ (ds' : List D) (e : D) (zs' : List V) (y : V), LmNw C H xs ts ds zs ds' e zs' y → Qd ds' e → Q y (upd H l (.lst zs'))) → r (.ref l) xs H Q
section
variable {C : Ctx} {σ : St} {H : Hp} {ρ : List T} {vs xs : List V} {τ ts : List T} {i : Nat} {ds : List D}
theorem slot_own {ρ : List T} {i : Nat} {P : List D → Prop} (h : match ρ[i]? with | some (.own ds) => P ds | _ => False) : ∃ ds, ρ[i]? = some (.own ds) ∧ P ds := by
  split at h
  · exact ⟨_, by assumption, h⟩
  · exact h.elim
theorem lm_core {r : V → List V → Hp → VK → Prop} {g : DLm} {Q : VK} {Qd : List D → D → Prop} (hg : SimLm C r g) (I1 : SS C σ H ρ (vs ++ xs) (τ ++ ts)) (hl : ts.length = xs.length) (e1 : ρ[i]? = some (.own ds)) {l : Addr} (hv : σ[i]? = some (some (.ref l))) (q2 : g ρ ds ts Qd)
    (k : ∀ ds' e y H', SS C σ H' (ρ.set i (.own ds')) (vs ++ [y]) (τ ++ [.dat e]) → Qd ds' e → Q y H') : r (.ref l) xs H Q := by
  have hτ := I1.lenA hl
  obtain ⟨l', zs', hv', hz', hlen, mk⟩ := I1.mut hτ e1
  rw [hv] at hv'
  cases hv'
  obtain ⟨ow, J⟩ := id I1
  have isz : DIsL C.K N0 H ds zs' := by
    rcases J.slot e1 with z | ⟨v, hv2, r⟩
    · cases z
    · rw [hv] at hv2
      cases hv2
      obtain ⟨a, zs, ea, e, q, eo⟩ := r.own_inv
      cases ea
      rw [hz'] at e
      cases e
      exact q.free
  refine hg H ρ xs ts ds l zs' _ _ ⟨hl, hz', hlen, fun j x d ej ed => ?_, isz⟩ q2 fun ds' e zs2 y nw q3 => ?_
  · exact I1.lkA hτ ej ed
  · have := mk ds' zs2 [e] [y] fun B' a b => ⟨(nw B' a b).1, .cons (nw B' a b).2 .nil⟩
    exact k _ _ _ _ (by simpa using this) q3
theorem sim_lm {r : V → List V → Hp → VK → Prop} {g : DLm} {fs : DA} {t : TA} (hg : SimLm C r g) (ha : SimA C t fs) : Sim C (tBM C.K "list" r (tVar i) t) (dLm i g fs) := fun σ H ρ vs τ Qd Q I q k => by
  obtain ⟨ds0, e0, q⟩ := slot_own q
  obtain ⟨l, zs, hv, hz, _, _⟩ := SS.mut (xs := []) (ts := []) (by simpa using I) I.ltE e0
  refine ⟨.ref l, hv, .inl ⟨rfl, zs, .inl (.inl hz)⟩, ha σ H ρ vs τ _ _ I q fun xs H1 ts ρ1 I1 hl q1 => ?_⟩
  obtain ⟨ds, e1, q2⟩ := slot_own q1
  exact lm_core hg I1 hl e1 hv q2 fun ds' e y H' I' q' => k _ _ _ _ I' q'
theorem sim_lm0 {r : V → List V → Hp → VK → Prop} {g : DLm} (hg : SimLm C r g) : Sim C (tBM0 C.K "list" r (tVar i)) (dLm i g dNil) := fun σ H ρ vs τ Qd Q I q k => by
  obtain ⟨ds0, e0, q⟩ := slot_own q
  obtain ⟨l, zs, hv, hz, _, _⟩ := SS.mut (xs := []) (ts := []) (by simpa using I) I.ltE e0
  obtain ⟨ds, e1, q2⟩ := slot_own q
  refine ⟨.ref l, hv, .inl ⟨rfl, zs, .inl (.inl hz)⟩, ?_⟩
  exact lm_core (xs := []) (ts := []) hg (by simpa using I) rfl e1 hv q2 fun ds' e y H' I' q' => k _ _ _ _ I' q'
def lmAppend : DLm := fun _ ds ts k => match ts with
  | [x] => wD (frz x) fun d => ds.length < sizeLine ∧ k (ds ++ [d]) .none
  | _ => False
theorem sl_append : SimLm C rAppend lmAppend := fun H ρ xs ts ds l zs Qd Q I q k => by
  unfold lmAppend at q
  split at q
  · rename_i x
    obtain ⟨v, rfl⟩ := len1 I.tl
    obtain ⟨d, ed, hz, q⟩ := wD_some q
    exact ⟨l, zs, v, rfl, rfl, I.at_, by rw [I.zl]; exact hz, k _ _ _ _ (fun B' a b => ⟨a.append (.cons (b 0 x v d rfl rfl ed) .nil), .none⟩) q⟩
  · exact q.elim
def lmExtend : DLm := fun _ ds ts k => match ts with
  | [x] => wD (frz x) fun d => match d with
    | .list es => ds.length + es.length ≤ sizeLine ∧ k (ds ++ es) .none
    | _ => False
  | _ => False
mutual
theorem frz_lk {ρ : List T} : ∀ {t : T} {d : D}, frz t = some d → lk ρ t = some d
  | .dat _, _, e => e
  | .bor d', d, e => by
    unfold frz at e
    cases z : safe d' with
    | false => rw [z] at e; simp at e
    | true => rw [z] at e; exact e
  | .own _, _, e => e
  | .lst ts, d, e => by
    simp only [frz, Option.map_eq_some_iff] at e
    obtain ⟨ds, e1, rfl⟩ := e
    simp only [lk, frzL_lk e1, Option.map_some]
  | .tup ts, d, e => by
    simp only [frz, Option.map_eq_some_iff] at e
    obtain ⟨ds, e1, rfl⟩ := e
    simp only [lk, frzL_lk e1, Option.map_some]
  | .dct _, _, e => e
  | .lbo _, _, e => by simp [frz] at e
  | .scr _, _, e => by simp [frz] at e
  | .ali _, _, e => by simp [frz] at e
  | .emp, _, e => by simp [frz] at e
theorem frzL_lk {ρ : List T} : ∀ {ts : List T} {ds : List D}, frzL ts = some ds → lkL ρ ts = some ds
  | [], _, e => e
  | t :: ts, _, e => by
    simp only [frzL, Option.bind_eq_some_iff, Option.map_eq_some_iff] at e
    obtain ⟨d, e1, ds, e2, rfl⟩ := e
    simp only [lkL, frz_lk e1, frzL_lk e2, Option.bind_some, Option.map_some]
end
theorem sl_extend : SimLm C rExtend lmExtend := fun H ρ xs ts ds l zs Qd Q I q k => by
  unfold lmExtend at q
  split at q
  · rename_i x
    obtain ⟨v, rfl⟩ := len1 I.tl
    obtain ⟨d, ed, q⟩ := wD_some q
    cases d <;> first | exact q.elim | skip
    rename_i es
    obtain ⟨hz, q⟩ := q
    obtain ⟨w, ew, r⟩ := I.lk 0 x _ rfl (frz_lk ed)
    cases ew
    cases r with
    | @list a ws _ ha nb t =>
      refine ⟨l, a, zs, ws, rfl, rfl, I.at_, ha, by rw [I.zl, ← t.length]; exact hz, k _ _ _ _ (fun B' a1 b => ⟨a1.append ?_, .none⟩) q⟩
      have r2 := b 0 x _ _ rfl rfl ed
      cases r2 with
      | list ha2 nb2 t2 => rw [ha] at ha2; cases ha2; exact t2
  · exact q.elim
def lmPop : DLm := fun _ ds ts k => match ts with
  | [] => wD ds.getLast? fun d => k ds.dropLast d
  | _ => False
theorem sl_pop : SimLm C rPop lmPop := fun H ρ xs ts ds l zs Qd Q I q k => by
  unfold lmPop at q
  split at q
  · have : xs = [] := List.length_eq_zero_iff.mp I.tl.symm
    subst this
    obtain ⟨d, ed, q⟩ := wD_some q
    rw [List.getLast?_eq_getElem?] at ed
    obtain ⟨v, ev, _⟩ := I.is.get ed
    refine ⟨l, zs, v, rfl, rfl, I.at_, by rw [I.zl]; exact ev, k _ _ _ _ (fun B' a b => ⟨a.dropLast, ?_⟩) q⟩
    obtain ⟨v', ev', r⟩ := a.get ed
    rw [ev] at ev'
    cases ev'
    exact r
  · exact q.elim
def lmPopAt : DLm := fun ρ ds ts k => match ts with
  | [x] => wI (lk ρ x) fun i => -(2 ^ 63) ≤ i ∧ i < 2 ^ 63 ∧ wO (seqIndex? i ds.length) fun n => wD ds[n]? fun d => k (ds.eraseIdx n) d
  | _ => False
theorem sl_popAt : SimLm C rPopAt lmPopAt := fun H ρ xs ts ds l zs Qd Q I q k => by
  unfold lmPopAt at q
  split at q
  · rename_i x
    obtain ⟨v, rfl⟩ := len1 I.tl
    obtain ⟨i, ei, h1, h2, q⟩ := wI_some q
    obtain ⟨n, en, q⟩ := wO_some q
    obtain ⟨d, ed, q⟩ := wD_some q
    obtain ⟨w, ew, r⟩ := I.lk 0 x _ rfl ei
    cases ew
    rw [r.int_eq]
    obtain ⟨v, ev, _⟩ := I.is.get ed
    refine ⟨l, zs, i, n, v, rfl, rfl, I.at_, h1, h2, by rw [I.zl]; exact en, ev, k _ _ _ _ (fun B' a b => ⟨a.eraseIdx n, ?_⟩) q⟩
    obtain ⟨v', ev', r⟩ := a.get ed
    rw [ev] at ev'
    cases ev'
    exact r
  · exact q.elim
def lmReverse : DLm := fun _ ds ts k => match ts with
  | [] => k ds.reverse .none
  | _ => False
theorem sl_reverse : SimLm C rReverse lmReverse := fun H ρ xs ts ds l zs Qd Q I q k => by
  unfold lmReverse at q
  split at q
  · have : xs = [] := List.length_eq_zero_iff.mp I.tl.symm
    subst this
    exact ⟨l, zs, rfl, rfl, I.at_, k _ _ _ _ (fun B' a b => ⟨a.reverse, .none⟩) q⟩
  · exact q.elim
def lmInsert : DLm := fun ρ ds ts k => match ts with
  | [x, y] => wI (lk ρ x) fun i => wD (frz y) fun d => ds.length < sizeLine ∧ 0 ≤ i ∧ i < 2 ^ 63 ∧ k (ds.take i.toNat ++ [d] ++ ds.drop i.toNat) .none
  | _ => False
theorem sl_insert : SimLm C (fun x vs H Q => ∃ (l : Addr) (xs : List V) (i : Int) (y : V), x = .ref l ∧ vs = [.int i, y] ∧ H l = some (.lst xs) ∧ xs.length < sizeLine ∧ 0 ≤ i ∧ i < 2 ^ 63 ∧
    Q .non (upd H l (.lst (xs.take i.toNat ++ [y] ++ xs.drop i.toNat)))) lmInsert := fun H ρ xs ts ds l zs Qd Q I q k => by
  unfold lmInsert at q
  split at q
  · rename_i x y
    obtain ⟨v, w, rfl⟩ := len2 I.tl
    obtain ⟨i, ei, q⟩ := wI_some q
    obtain ⟨d, ed, h1, h2, h3, q⟩ := wD_some q
    obtain ⟨u, eu, r⟩ := I.lk 0 x _ rfl ei
    cases eu
    rw [r.int_eq]
    exact ⟨l, zs, i, w, rfl, rfl, I.at_, by rw [I.zl]; exact h1, h2, h3, k _ _ _ _ (fun B' a b => ⟨((a.take _).append (.cons (b 1 y w d rfl rfl ed) .nil)).append (a.drop _), .none⟩) q⟩
  · exact q.elim
variable {e : Expr} {es : List Expr} {x name : Str} {p apos cpos : Pos} {fs : DA} {id : String} {r : V → List V → Hp → VK → Prop} {g : DLm}
theorem de_lm (i : Nat) (slot : PySem.Slot "list" name id) (hty : typeOf (.builtin id) = pure (.type "method_descriptor")) (hm : MtR C.X id r) (hg : SimLm C r g) (hN : C.X.N[i]? = some x) (hv : Vis C.X.env.scope x) (ha : DPA C (e :: es) fs)
    (hd : (x == ("__debug__" : Str)) = false := by decide) (hcd : (x == ("__classdict__" : Str)) = false := by decide)
    (hbase : attributeBase (.Name x p) name C.X.env (eval (.Name x p) C.X.env) = eval (.Name x p) C.X.env := by rfl)
    (hfew : ((backTo cpos (starEach (e :: es) C.X.env)).all (fun x => !x.1) && (backToKw cpos (keywordEach [] C.X.env)).all (fun x => x.1.isSome)
      && decide ((e :: es).length + ([] : List Keyword).length + (if ([] : List Keyword).isEmpty then 0 else 1) < 30)) = true := by rfl)
    (hline : (apos.endLine == cpos.line) = true := by rfl) (hs : starEach (e :: es) C.X.env = (false, eval e C.X.env) :: starEach es C.X.env := by rfl) (hplain : (backTo cpos (starEach es C.X.env)).any (·.1) = false := by rfl) :
    DPE C (.Call (.Attribute (.Name x p) name apos) (e :: es) [] cpos) (dLm i g fs) :=
  let ⟨_, pa, sa⟩ := ha.ex
  ⟨_, pe_bm PySem.F.plainAttrs_list slot hty hm (pe_var hN hv hd hcd) pa hbase hfew hline hs hplain, sim_lm hg sa⟩
theorem de_lm0 (i : Nat) (slot : PySem.Slot "list" name id) (hty : typeOf (.builtin id) = pure (.type "method_descriptor")) (hm : MtR C.X id r) (hg : SimLm C r g) (hN : C.X.N[i]? = some x) (hv : Vis C.X.env.scope x)
    (hd : (x == ("__debug__" : Str)) = false := by decide) (hcd : (x == ("__classdict__" : Str)) = false := by decide)
    (hbase : attributeBase (.Name x p) name C.X.env (eval (.Name x p) C.X.env) = eval (.Name x p) C.X.env := by rfl)
    (hline : (apos.endLine == cpos.line) = true := by rfl) :
    DPE C (.Call (.Attribute (.Name x p) name apos) [] [] cpos) (dLm i g dNil) :=
  ⟨_, pe_bm0 PySem.F.plainAttrs_list slot hty hm (pe_var hN hv hd hcd) hbase hline, sim_lm0 hg⟩
end
end Ds
namespace Ds
open PySem L2
def dSetIx (i : Nat) (fi : DE) : DG := fun t ρ Q => wD (frz t) fun d => match ρ[i]? with
  | some (.own _) => fi ρ fun x ρ1 => match ρ1[i]? with
    | some (.own ds) => wI (lk ρ1 x) fun n => wO (ixN ds.length n) fun j => Q (ρ1.set i (.own (ds.set j d)))
    | _ => False
  | _ => False
def dAugIx (i : Nat) (op : Int → Int → Int) (fi fe : DE) : DS := fun D ρ => match ρ[i]? with
  | some (.own _) => fi ρ fun x ρ1 => match ρ1[i]? with
    | some (.own ds) => wI (lk ρ1 x) fun n => wI (gI ds n) fun m => fe ρ1 fun y ρ2 => wI (lk ρ2 y) fun k => match ρ2[i]? with
      | some (.own ds2) => wO (ixN ds2.length n) fun j => D.nx (ρ2.set i (.own (ds2.set j (.int (op m k)))))
      | _ => False
    | _ => False
  | _ => False
theorem get_list {X : Cx} : PGet X (rIxL X.K) := by
  intro pins s σ H x y v u Q I rx ry h
  obtain ⟨p, xs, i, z, rfl, rfl, hq, he, q⟩ := h
  cases rx
  obtain ⟨t, rfl⟩ := ry
  obtain ⟨its, r, pl, hz⟩ := I.list hq
  obtain ⟨j, h1, h2, h3, h4, h5⟩ := atI_get he
  obtain ⟨w, ew, rw'⟩ := r.get h2
  have hl := r.length
  have hn := line63
  have fin : EP X pins σ Q w s := ⟨z, H, I, rw', q⟩
  by_cases h0 : 0 ≤ i
  · have hj : i.toNat = j := by
      rw [seqIndex_of h0 h5] at h1
      exact Option.some.inj h1
    exact wpAny_getItem_list pl.isList h0 (by omega) (by rw [hj]; simpa using ew) fin
  · have hj : (i + (its.toArray.size : Int)).toNat = j := by
      rw [seqIndex_neg (by omega) h4] at h1
      rw [List.size_toArray, ← hl]
      exact Option.some.inj h1
    exact wpAny_getItem_list_neg pl.isList (by omega) (by rw [List.size_toArray] <;> omega) (by omega) (by rw [hj]; simpa using ew) fin
section
variable {C : Ctx} {i : Nat} {x : Str} {e ei : Expr} {fe fi : DE} {p pos tpos : Pos}
theorem dg_setIx (i : Nat) (hN : C.X.N[i]? = some x) (hv : Vis C.X.env.scope x) (hi : DPE C ei fi) (hd : (x == ("__debug__" : Str)) = false := by decide) (hcd : (x == ("__classdict__" : Str)) = false := by decide)
    (ha : ∀ v, assign (.Subscript (.Name x p) ei pos) C.X.env v = (do
      let ov ← holding [v] (eval (.Name x p) C.X.env)
      let iv ← holding [v, ov] (eval ei C.X.env)
      standAt pos
      holding [v, ov, iv] (setItem ov iv v)
      release [v, ov, iv] []) := by intro _; rfl) : DPG C (.Subscript (.Name x p) ei pos) (dSetIx i fi) :=
  let ⟨_, pi, si⟩ := hi.ex
  ⟨_, pg_sub (pe_var hN hv hd hcd) pi set_list ha, fun σ H ρ vs τ v t Qd Q I na q k => by
    obtain ⟨d, ed, q⟩ := wD_some q
    obtain ⟨ds0, e0, q⟩ := slot_own q
    obtain ⟨l, zs, hv, hz, _, _⟩ := SS.mut (xs := []) (ts := []) (by simpa using I) I.ltE e0
    refine ⟨.ref l, hv, si σ H ρ _ _ _ _ I q fun w H1 y ρ1 I1 q1 => ?_⟩
    obtain ⟨ds, e1, q2⟩ := slot_own q1
    obtain ⟨n, en, q3⟩ := wI_some q2
    obtain ⟨j, ej, q4⟩ := wO_some q3
    have wv := (I1.lk1 en).int_eq
    subst wv
    have I2 : SS C σ H1 ρ1 (vs ++ [v, .int n]) (τ ++ [t, y]) := by simpa using I1
    obtain ⟨l', zs', hv', hz', hlen, mk⟩ := I2.mut (I2.lenA rfl) e1
    rw [hv] at hv'
    cases hv'
    refine ⟨l, zs', n, j, rfl, rfl, hz', by rw [hlen]; exact ej, ?_⟩
    have I3 := mk (ds.set j d) (zs'.set j v) [] [] fun B' a b => ⟨a.set j (b 0 t v d rfl rfl ed), .nil⟩
    exact k _ _ _ (by simpa using I3) q4⟩
theorem ds_augIx (i : Nat) {op : Operator} {g : Int → Int → Int} (hp : PIp C.X op (ipI g)) (hN : C.X.N[i]? = some x) (hv : Vis C.X.env.scope x) (hi : DPE C ei fi) (he : DPE C e fe) (hd : (x == ("__debug__" : Str)) = false := by decide) (hcd : (x == ("__classdict__" : Str)) = false := by decide)
    (ha : ∀ ov iv new, augStore ei ov iv new = (do holding [new, ov, iv] (setItem ov iv new); release [new, ov, iv] []; pure Flow.next) := by intros; rfl) : DPS C (.AugAssign (.Subscript (.Name x p) ei tpos) op e pos) (dAugIx i g fi fe) :=
  let ⟨_, pi, si⟩ := hi.ex; let ⟨_, pe, se⟩ := he.ex
  ⟨_, ps_augS (pe_var hN hv hd hcd) pi get_list pe hp set_list ha, fun σ H ρ vs τ Dd D I na q k => by
    obtain ⟨ds0, e0, q⟩ := slot_own q
    obtain ⟨l, zs, hv, hz, _, _⟩ := SS.mut (xs := []) (ts := []) (by simpa using I) I.ltE e0
    refine ⟨.ref l, hv, si σ H ρ _ _ _ _ I q fun w H1 y ρ1 I1 q1 => ?_⟩
    obtain ⟨ds, e1, q2⟩ := slot_own q1
    obtain ⟨n, en, q3⟩ := wI_some q2
    obtain ⟨m, em, q4⟩ := wI_some q3
    rw [gI_at] at em
    have wv := (I1.lk1 en).int_eq
    subst wv
    obtain ⟨l', zs', hv', hz', hlen, _⟩ := SS.mut (xs := [V.int n]) (ts := [y]) I1 I.ltE e1
    rw [hv] at hv'
    cases hv'
    have isz : DIsL C.K N0 H1 ds zs' := by
      obtain ⟨ow, J⟩ := I1
      rcases J.slot e1 with z | ⟨v, hv2, r⟩
      · cases z
      · rw [hv] at hv2
        cases hv2
        obtain ⟨a, zs, ea, e, q, eo⟩ := r.own_inv
        cases ea
        rw [hz'] at e
        cases e
        exact q.free
    obtain ⟨v, ev, rv⟩ := atI_getD isz em
    refine ⟨l, zs', n, v, rfl, rfl, .inl (.inl hz'), ev, ?_⟩
    refine se σ H1 ρ1 _ _ _ _ I1 q4 fun w2 H2 y2 ρ2 I2 q5 => ?_
    obtain ⟨kk, ek, q6⟩ := wI_some q5
    obtain ⟨ds2, e2, q7⟩ := slot_own q6
    obtain ⟨j, ej, q8⟩ := wO_some q7
    have wv2 := (I2.lk1 ek).int_eq
    subst wv2
    have I3 : SS C σ H2 ρ2 (vs ++ [.int n, .int kk]) (τ ++ [y, y2]) := by simpa using I2
    obtain ⟨l2, zs2, hv2, hz2, hlen2, mk⟩ := I3.mut (I3.lenA rfl) e2
    rw [hv] at hv2
    cases hv2
    refine ⟨m, kk, rv.int_eq, rfl, l, zs2, n, j, rfl, rfl, hz2, by rw [hlen2]; exact ej, ?_⟩
    have I4 := mk (ds2.set j (.int (g m kk))) (zs2.set j (.int (g m kk))) [] [] fun B' a b => ⟨a.set j (.int _), .nil⟩
    exact k.nx _ _ _ (by simpa using I4) q8⟩
end
end Ds
namespace Ds
open PySem L2
/-! ### isinstance -/
def tyD : D → String
  | .none => "NoneType"
  | .bool _ => "bool"
  | .int _ => "int"
  | .str _ => "str"
  | .list _ => "list"
  | .tuple _ => "tuple"
  | .dict _ => "dict"
/-- is a value of type u one of T -/
def isT (u : String) : String → Bool
  | "int" => u == "int" || u == "bool"
  | T => u == T
theorem tyD_mem (d : D) : tyD d ∈ ["NoneType", "bool", "int", "str", "list", "tuple", "dict"] := by cases d <;> simp [tyD]
theorem kitB_all : ∀ T ∈ ["bool", "int", "str", "list", "tuple", "dict"], ∀ u ∈ ["NoneType", "bool", "int", "str", "list", "tuple", "dict"], kitB u T = some (isT u T) := by decide +kernel
theorem kit_is {T : String} (hT : T ∈ ["bool", "int", "str", "list", "tuple", "dict"]) (d : D) {K : PySem.W.Frag} : PySem.W.kitOne K (.type (tyD d)) (.type T) = some (isT (tyD d) T) := kit_ty (kitB_all T hT _ (tyD_mem d))
theorem DIs.tyx {K : PySem.W.Frag} {B : Addr → Prop} {H : Hp} {d : D} {v : V} (h : DIs K B H d v) : TyX K H v (.type (tyD d)) := by
  cases h with
  | none => exact .base .non
  | bool b => exact .base (.bl b)
  | int i => exact .base (.int i)
  | str x => exact .base (.str x)
  | list e _ _ => exact .base (.lst e)
  | tuple e _ =>
    rcases e with ⟨e | ⟨o, e⟩, _⟩ | ⟨o, its, n, e, c, _⟩
    · exact .base (.tup e)
    · exact .fTuple e
    · exact .kTuple e c
  | dict e _ _ _ => exact .base (.dK e)
def dIsi (Ts : List String) (fe : DE) : DE := fun ρ Q => fe ρ fun x ρ1 => wD (lk ρ1 x) fun d => Q (.dat (.bool (Ts.any fun T => isT (tyD d) T))) ρ1
section
variable {C : Ctx} {e : Expr} {fe : DE} {p p1 p2 pos tpos : Pos} {x y z : Str} {T U : String}
theorem de_isi (hg : Gl C.X "isinstance") (hm : C.X.mg "isinstance" = none) (he : DPE C e fe) (hgT : Gl C.X x) (hmT : C.X.mg x = none) (hT : T ∈ ["bool", "int", "str", "list", "tuple", "dict"]) (hv : bootBuiltins x = some (.type T)) (hn : x ≠ "__name__" := by decide) (hd : (x == ("__debug__" : Str)) = false := by decide)
    (hs : starEach [e, .Name x p1] C.X.env = (false, eval e C.X.env) :: starEach [.Name x p1] C.X.env := by rfl) (hs2 : starEach [.Name x p1] C.X.env = (false, eval (.Name x p1) C.X.env) :: starEach [] C.X.env := by rfl) (hpl : (backTo pos (starEach [.Name x p1] C.X.env)).any (·.1) = false := by rfl) :
    DPE C (.Call (.Name "isinstance" p) [e, .Name x p1] [] pos) (dIsi [T] fe) :=
  let ⟨_, pe, se⟩ := he.ex
  ⟨_, pe_callB call_isi hg hm PyProof.Rows.boot_isinstance (pa_cons pe (pa_cons (pe_bltn hgT hmT hv (v := .ty T) rfl hn hd) pa_nil hs2) hs) (by decide) (by decide) hs hpl, fun σ H ρ vs τ Qd Q I h k => se σ H ρ vs τ _ _ I h fun v H1 t ρ1 I1 q => by
    obtain ⟨d, ed, q⟩ := wD_some q
    refine ⟨v, .ty T, _, _, isT (tyD d) T, rfl, .ty T, (I1.lk1 ed).tyx, kit_is hT d, ?_⟩
    exact k _ _ _ _ (I1.pop.bool _) (by simpa using q)⟩
theorem de_isi2 {kk : Nat} (hg : Gl C.X "isinstance") (hm : C.X.mg "isinstance" = none) (he : DPE C e fe) (hgT : Gl C.X x) (hmT : C.X.mg x = none) (hT : T ∈ ["bool", "int", "str", "list", "tuple", "dict"]) (hv : bootBuiltins x = some (.type T))
    (hgU : Gl C.X y) (hmU : C.X.mg y = none) (hU : U ∈ ["bool", "int", "str", "list", "tuple", "dict"]) (hvU : bootBuiltins y = some (.type U))
    (hn : x ≠ "__name__" := by decide) (hd : (x == ("__debug__" : Str)) = false := by decide) (hn2 : y ≠ "__name__" := by decide) (hd2 : (y == ("__debug__" : Str)) = false := by decide)
    (hsx : starEach [.Name x p1, .Name y p2] C.X.env = (false, eval (.Name x p1) C.X.env) :: starEach [.Name y p2] C.X.env := by rfl) (hsy : starEach [.Name y p2] C.X.env = (false, eval (.Name y p2) C.X.env) :: starEach [] C.X.env := by rfl)
    (hs : starEach [e, .Tuple [.Name x p1, .Name y p2] kk tpos] C.X.env = (false, eval e C.X.env) :: starEach [.Tuple [.Name x p1, .Name y p2] kk tpos] C.X.env := by rfl)
    (hs2 : starEach [.Tuple [.Name x p1, .Name y p2] kk tpos] C.X.env = (false, eval (.Tuple [.Name x p1, .Name y p2] kk tpos) C.X.env) :: starEach [] C.X.env := by rfl)
    (hpl : (backTo pos (starEach [.Tuple [.Name x p1, .Name y p2] kk tpos] C.X.env)).any (·.1) = false := by rfl) :
    DPE C (.Call (.Name "isinstance" p) [e, .Tuple [.Name x p1, .Name y p2] kk tpos] [] pos) (dIsi [T, U] fe) :=
  let ⟨_, pe, se⟩ := he.ex
  ⟨_, pe_callB call_isiT hg hm PyProof.Rows.boot_isinstance (pa_cons pe (pa_cons (pe_tup (pa_cons (pe_bltn hgT hmT hv (v := .ty T) rfl hn hd) (pa_cons (pe_bltn hgU hmU hvU (v := .ty U) rfl hn2 hd2) pa_nil hsy) hsx)) pa_nil hs2) hs) (by decide) (by decide) hs hpl, fun σ H ρ vs τ Qd Q I h k => se σ H ρ vs τ _ _ I h fun v H1 t ρ1 I1 q => by
    obtain ⟨d, ed, q⟩ := wD_some q
    refine ⟨by show 2 ≤ sizeLine; decide, fun tp htp => ?_⟩
    have ty := (I1.lk1 ed).tyx
    have ty2 : TyX C.K (upd H1 tp (.tup [.ty T, .ty U])) v (.type (tyD d)) := by
      have r := (I1.lk1 ed).move (H' := upd H1 tp (.tup [.ty T, .ty U])) (B' := N0) fun b o e _ => ⟨same_upd htp b o e, id⟩
      exact r.tyx
    refine ⟨v, tp, [.ty T, .ty U], _, [.type T, .type U], isT (tyD d) T || isT (tyD d) U, rfl, upd_same, .cons (.ty T) (.cons (.ty U) .nil), ty2, ?_, ?_⟩
    · refine kitAny_cons (kit_is hT d) (fun h1 => kitAny_cons (kit_is hU d) (fun h2 => by rw [h1, h2]; exact kitAny_nil) (fun h2 => by rw [h1, h2]; rfl)) (fun h1 => by rw [h1]; rfl)
    · exact k _ _ _ _ (I1.pop.push (v := .bl _) (t := .dat (.bool _)) [] (same_upd htp) (fun _ _ _ _ _ _ _ => .dat (.bool _)) List.nodup_nil (fun _ z => by simp at z) fun _ z => by simp at z) (by simpa using q)⟩
end
/-! ### tuple(x), list(x) -/
def dTupOf : DOn := fun ρ ts Q => match ts with
  | [x] => match dr ρ x with
    | .scr ns => Q (.dat (.tuple (ns.map .int))) ρ
    | .dat (.tuple ds) => Q (.dat (.tuple ds)) ρ
    | .bor (.tuple ds) => Q (.bor (.tuple ds)) ρ
    | .bor (.list ds) => Q (.bor (.tuple ds)) ρ
    | t => wL t fun ds => Q (.dat (.tuple ds)) ρ
  | _ => False
def dLstOf : DOn := fun ρ ts Q => match ts with
  | [x] => match dr ρ x with
    | .scr ns => Q (.own (ns.map .int)) ρ
    | .dat (.tuple ds) => Q (.own ds) ρ
    | .bor (.tuple ds) => match safeL ds with
      | true => Q (.own ds) ρ
      | false => Q (.lbo ds) ρ
    | .bor (.list ds) => match safeL ds with
      | true => Q (.own ds) ρ
      | false => Q (.lbo ds) ρ
    | t => wL t fun ds => Q (.own ds) ρ
  | _ => False
section
variable {C : Ctx} {e : Expr} {fs : DA} {p pos : Pos}
theorem sim_tupOf : SimC C (fun xs H Q => ∃ p ys, xs = [.ref p] ∧ ((SqL C.K H p ys ∧ ∀ l, H l = none → Q (.ref l) (upd H l (.tup ys))) ∨ (SqT C.K H p ys ∧ Q (.ref p) H))) dTupOf := by
  intro σ H ρ vs τ xs ts Qd Q I hl hτ q k
  unfold dTupOf at q
  split at q
  · rename_i x
    obtain ⟨v, rfl⟩ := len1 hl
    obtain ⟨ow, J⟩ := id I
    rcases J.dr1 with z | ⟨os, r⟩
    · rw [z] at q; exact q.elim
    · generalize Ds.dr ρ x = t at q r
      have J' : SI C σ H ρ (vs ++ [v]) (τ ++ [x]) ow := J
      have gen : Ds.wL t (fun ds => Qd (.dat (.tuple ds)) ρ) → ∃ p ys, [v] = [.ref p] ∧ ((SqL C.K H p ys ∧ ∀ l, H l = none → Q (.ref l) (upd H l (.tup ys))) ∨ (SqT C.K H p ys ∧ Q (.ref p) H)) := fun q => by
        obtain ⟨l, zs, ds, rfl, e, t, q⟩ := J.wL r q
        exact ⟨l, zs, rfl, .inl ⟨.of e, fun p hp => k _ _ _ _ (J.newT hτ hp t) q⟩⟩
      cases r with
      | scr e => exact ⟨_, _, rfl, .inl ⟨e.sq, fun p hp => k _ _ _ _ (J.newT hτ hp ints_is) q⟩⟩
      | dat d =>
        cases d with
        | tuple e t => exact ⟨_, _, rfl, .inr ⟨e.sq, k _ _ _ _ (J.oneD hτ (.tuple e t)) q⟩⟩
        | list e n t => exact gen q
        | _ => exact q.elim
      | bor d =>
        cases d with
        | tuple e t => exact ⟨_, _, rfl, .inr ⟨e.sq, k _ _ _ _ (J.oneB hτ (.tuple e t)) q⟩⟩
        | list e n t => exact ⟨_, _, rfl, .inl ⟨.of e, fun p hp => k _ _ _ _ (J.newTB hτ hp t) q⟩⟩
        | _ => exact q.elim
      | own e t => exact gen q
      | lbo e t => exact gen q
      | lst e t => exact gen q
      | _ => exact q.elim
  · exact q.elim
theorem sim_lstOf : SimC C (fun xs H Q => ∃ p ys, xs = [.ref p] ∧ (SqL C.K H p ys ∨ SqT C.K H p ys) ∧ ∀ l, H l = none → Q (.ref l) (upd H l (.lst ys))) dLstOf := by
  intro σ H ρ vs τ xs ts Qd Q I hl hτ q k
  unfold dLstOf at q
  split at q
  · rename_i x
    obtain ⟨v, rfl⟩ := len1 hl
    obtain ⟨ow, J⟩ := id I
    rcases J.dr1 with z | ⟨os, r⟩
    · rw [z] at q; exact q.elim
    · generalize Ds.dr ρ x = t at q r
      have gen : Ds.wL t (fun ds => Qd (.own ds) ρ) → ∃ p ys, [v] = [.ref p] ∧ (SqL C.K H p ys ∨ SqT C.K H p ys) ∧ ∀ l, H l = none → Q (.ref l) (upd H l (.lst ys)) := fun q => by
        obtain ⟨l, zs, ds, rfl, e, t, q⟩ := J.wL r q
        exact ⟨l, zs, rfl, .inl (.of e), fun p hp => k _ _ _ _ (J.newL hτ hp t) q⟩
      cases r with
      | scr e => exact ⟨_, _, rfl, .inl e.sq, fun p hp => k _ _ _ _ (J.newL hτ hp ints_is) q⟩
      | dat d =>
        cases d with
        | tuple e t => exact ⟨_, _, rfl, .inr e.sq, fun p hp => k _ _ _ _ (J.newL hτ hp t) q⟩
        | list e n t => exact gen q
        | _ => exact q.elim
      | bor d =>
        cases d with
        | @tuple a zs ds e t =>
          refine ⟨_, _, rfl, .inr e.sq, fun p hp => ?_⟩
          have q : (match safeL ds with | true => Qd (.own ds) ρ | false => Qd (.lbo ds) ρ) := q
          cases z : safeL ds with
          | true => rw [z] at q; exact k _ _ _ _ (J.newL hτ hp (J.safeL t z)) q
          | false => rw [z] at q; exact k _ _ _ _ (J.newLB hτ hp t) q
        | @list a zs ds e n t =>
          refine ⟨_, _, rfl, .inl (.of e), fun p hp => ?_⟩
          have q : (match safeL ds with | true => Qd (.own ds) ρ | false => Qd (.lbo ds) ρ) := q
          cases z : safeL ds with
          | true => rw [z] at q; exact k _ _ _ _ (J.newL hτ hp (J.safeL t z)) q
          | false => rw [z] at q; exact k _ _ _ _ (J.newLB hτ hp t) q
        | _ => exact q.elim
      | own e t => exact gen q
      | lbo e t => exact gen q
      | lst e t => exact gen q
      | _ => exact q.elim
  · exact q.elim
theorem de_tupOf (hg : Gl C.X "tuple") (hm : C.X.mg "tuple" = none) (ha : DPA C [e] fs) (he : starEach [e] C.X.env = [(false, eval e C.X.env)] := by rfl) : DPE C (.Call (.Name "tuple" p) [e] [] pos) (dCB dTupOf fs) :=
  de_callTy call_tuple_of sim_tupOf hg hm PyProof.Rows.boot_tuple ha (by decide) (by decide) he
theorem de_lstOf (hg : Gl C.X "list") (hm : C.X.mg "list" = none) (ha : DPA C [e] fs) (he : starEach [e] C.X.env = [(false, eval e C.X.env)] := by rfl) : DPE C (.Call (.Name "list" p) [e] [] pos) (dCB dLstOf fs) :=
  de_callTy call_list_of sim_lstOf hg hm PyProof.Rows.boot_list ha (by decide) (by decide) he
end
end Ds
namespace Ds
open PySem L2
variable {X : Cx} {pins : List (Addr × Obj)} {σ : St} {H : Hp} {s : Shared} {B : Addr → Prop}
/-- a value's text, from the heap at hand -/
def Tells (P : Program) (w : World) (h : Heap) (u : Value) (d : D) : Prop := ∃ as, Reads h u d as ∧ (d.showable = true → d.shown.length ≤ sizeLine → ∃ bs, ReadAtMost h d.depth bs ∧ ReprK P w bs h d.depth u d.shown)
def TellsL (P : Program) (w : World) (h : Heap) (us : List Value) (ds : List D) : Prop := ∃ as, ReadsAll h us ds as ∧ (PyData.showableAll ds = true → (∀ t ∈ PyData.shownAll ds, t.length ≤ sizeLine) → ∃ bs, ReadAtMost h (PyData.depthAll ds) bs ∧ ReprAllK P w bs h (PyData.depthAll ds) us (PyData.shownAll ds))
section
variable {P : Program} {w : World} {h : Heap} {u : Value} {us : List Value} {d : D} {ds : List D}
theorem tells_leaf {as : List Addr} (r : Reads h u d as) (q : d.showable = true → d.shown.length ≤ sizeLine → ReprIs P w u d.shown) : Tells P w h u d :=
  ⟨as, r, fun a b => ⟨[], (fun _ z => nomatch z), .of_is (q a b) _ _ _⟩⟩
theorem tells_nil : TellsL P w h [] [] := ⟨[], .nil, fun _ _ => ⟨[], (fun _ z => nomatch z), by simp only [PyData.shownAll]; exact .nil⟩⟩
theorem tells_cons (a : Tells P w h u d) (b : TellsL P w h us ds) : TellsL P w h (u :: us) (d :: ds) := by
  obtain ⟨as1, r1, q1⟩ := a
  obtain ⟨as2, r2, q2⟩ := b
  refine ⟨as1 ++ as2, .cons r1 r2, fun sh len => ?_⟩
  rw [PyData.showableAll, Bool.and_eq_true] at sh
  rw [PyData.shownAll] at len
  obtain ⟨b1, m1, k1⟩ := q1 sh.1 (len _ (List.mem_cons_self ..))
  obtain ⟨b2, m2, k2⟩ := q2 sh.2 fun t ht => len t (List.mem_cons_of_mem _ ht)
  rw [PyData.depthAll, PyData.shownAll]
  have l1 : d.depth ≤ max d.depth (PyData.depthAll ds) := Nat.le_max_left ..
  have l2 : PyData.depthAll ds ≤ max d.depth (PyData.depthAll ds) := Nat.le_max_right ..
  exact ⟨b1 ++ b2, (m1.mono l1).append (m2.mono l2), .cons ((k1.more fun _ z => List.mem_append_left _ z).level_le l1) (k2.more_le (fun _ z => List.mem_append_right _ z) l2)⟩
theorem listText0 {ds : List D} (h : PyData.shownAll ds = []) : listText (PyData.shownAll ds) = "[]" := by rw [h]; exact listText_nil
structure LstAt (h : Heap) (a : Addr) (us : List Value) : Prop where
  ex : ∃ o n, h.get? a = some o ∧ o.cls = .type "list" ∧ o.data = .seq us.toArray n
theorem tells_list {a : Addr} (at_ : LstAt h a us) (q : TellsL P w h us ds) : Tells P w h (.ref a) (.list ds) := by
  obtain ⟨o, n, e1, e2, e3⟩ := at_.ex
  obtain ⟨as, rd, q⟩ := q
  have r : Reads h (.ref a) (.list ds) (a :: as) := .list e1 e2 e3 rd
  refine ⟨_, r, fun sh len => ?_⟩
  rw [PyData.showable] at sh
  rw [PyData.shown] at len
  obtain ⟨bs, m, k⟩ := q sh fun t ht => Nat.le_trans (listText_mem_le ht) len
  have lt : PyData.depthAll ds < (PyData.list ds).depth := by rw [PyData.depth]; omega
  refine ⟨a :: bs, ReadAtMost.cons r (Nat.le_of_lt lt) m, ?_⟩
  rw [PyData.depth, PyData.shown]
  match us, k with
  | [], k =>
    cases rd
    rw [listText0 rfl]
    exact .listEmpty e1 e2 e3
  | u :: us, k => exact .list e1 e2 e3 (not_mem_of_deeper r lt m) (by simpa using k.length_eq) fun i y e => k.item i y (by simpa using e)
theorem tells_tuple {a : Addr} {o : Obj} {n : Nat} (e1 : h.get? a = some o) (e2 : o.cls = .type "tuple") (e3 : o.data = .seq us.toArray n) (q : TellsL P w h us ds) : Tells P w h (.ref a) (.tuple ds) := by
  obtain ⟨as, rd, q⟩ := q
  have r : Reads h (.ref a) (.tuple ds) as := .tuple e1 e2 e3 rd
  refine ⟨_, r, fun sh len => ?_⟩
  rw [PyData.showable] at sh
  rw [PyData.shown] at len
  obtain ⟨bs, m, k⟩ := q sh fun t ht => Nat.le_trans (tupleText_mem_le ht) len
  have lt : PyData.depthAll ds < (PyData.tuple ds).depth := by rw [PyData.depth]; omega
  refine ⟨a :: bs, ReadAtMost.cons r (Nat.le_of_lt lt) m, ?_⟩
  rw [PyData.depth, PyData.shown]
  exact .tuple e1 e2 e3 (not_mem_of_deeper r lt m) k
/-- a dict's two sides -/
structure DctAt (P : Program) (w : World) (h : Heap) (a : Addr) (kvs : List (D × D)) : Prop where
  ex : ∃ o es n, h.get? a = some o ∧ o.cls = .type "dict" ∧ o.data = .dict es n ∧ (a == sysModules) = false ∧ TellsL P w h (es.toList.map (·.key)) (kvs.map (·.1)) ∧ TellsL P w h (es.toList.map (·.val)) (kvs.map (·.2))
theorem dct_parts {a : Addr} {kvs : List (D × D)} (c : DctAt P w h a kvs) : ∃ (o : Obj) (es : Array DictEntry) (n : Nat) (as : List Addr), h.get? a = some o ∧ o.cls = .type "dict" ∧ o.data = .dict es n ∧ (a == sysModules) = false ∧ Reads h (.ref a) (.dict kvs) as ∧
    ((PyData.dict kvs).showable = true → (PyData.dict kvs).shown.length ≤ sizeLine → ∃ bs, ReadAtMost h (PyData.depthKv kvs) bs ∧ a ∉ bs ∧ ReprEntriesK P w bs h (PyData.depthKv kvs) es.toList (PyData.shownKv kvs)) := by
  obtain ⟨o, es, n, e1, e2, e3, e4, ⟨as1, r1, q1⟩, ⟨as2, r2, q2⟩⟩ := c.ex
  have r : Reads h (.ref a) (.dict kvs) (a :: as1 ++ as2) := .dict e1 e2 e3 r1 r2
  refine ⟨o, es, n, _, e1, e2, e3, e4, r, fun sh len => ?_⟩
  rw [PyData.showable] at sh
  rw [PyData.shown] at len
  obtain ⟨s1, s2⟩ := PyData.showableKv_split kvs sh
  obtain ⟨b1, m1, k1⟩ := q1 s1 fun t ht => by
    obtain ⟨p, hp, hl⟩ := PyData.shownKv_key_le kvs t ht
    exact Nat.le_trans hl (Nat.le_trans (dictText_mem_le hp) len)
  obtain ⟨b2, m2, k2⟩ := q2 s2 fun t ht => by
    obtain ⟨p, hp, hl⟩ := PyData.shownKv_val_le kvs t ht
    exact Nat.le_trans hl (Nat.le_trans (dictText_mem_le hp) len)
  have m := (m1.mono (PyData.depthAll_keys_le kvs)).append (m2.mono (PyData.depthAll_vals_le kvs))
  have lt : PyData.depthKv kvs < (PyData.dict kvs).depth := by rw [PyData.depth]; omega
  refine ⟨b1 ++ b2, m, not_mem_of_deeper r lt m, ?_⟩
  rw [PyData.shownKv_eq]
  exact ReprEntriesK.of_two es.toList _ _ (k1.more_le (fun _ z => List.mem_append_left _ z) (PyData.depthAll_keys_le kvs)) (k2.more_le (fun _ z => List.mem_append_right _ z) (PyData.depthAll_vals_le kvs))
theorem tells_dict {a : Addr} {kvs : List (D × D)} (c : DctAt P w h a kvs) : Tells P w h (.ref a) (.dict kvs) := by
  obtain ⟨o, es, n, as, e1, e2, e3, e4, r, q⟩ := dct_parts c
  refine ⟨as, r, fun sh len => ?_⟩
  obtain ⟨bs, m, na, k⟩ := q sh len
  have lt : PyData.depthKv kvs < (PyData.dict kvs).depth := by rw [PyData.depth]; omega
  refine ⟨a :: bs, ReadAtMost.cons r (Nat.le_of_lt lt) m, ?_⟩
  rw [PyData.depth, PyData.shown]
  exact .dict e1 e2 e3 e4 na k
end
theorem key_tell {P : Program} {w : World} {h : Heap} {k : Key} {u : Value} (hk : keyIs k u = true) : Tells P w h u (kD k) := by
  rcases keyIs_shape hk with ⟨i, t, rfl, rfl⟩ | ⟨x, t, rfl, rfl⟩
  · exact tells_leaf (.int i t) fun sh _ => ReprIs.int t (by simp only [kD, PyData.showable] at sh; exact of_decide_eq_true sh)
  · exact tells_leaf (.str x t) fun _ len => ReprIs.str x t (by simp only [kD, PyData.shown] at len; exact len)
theorem keys_tell {P : Program} {w : World} {h : Heap} {es : List DictEntry} {kvs : List (Key × V)} {vs : List (Key × Value)} (a : KV kvs vs) (b : Pairs (mixKind P w) es vs) : TellsL P w h (es.map (·.key)) (kvs.map fun p => kD p.1) ∧ Vals (kvs.map (·.2)) (es.map (·.val)) := by
  induction b generalizing kvs with
  | nil => cases a; exact ⟨tells_nil, .nil⟩
  | cons hk hv rs ih =>
    cases a with
    | cons p r =>
      obtain ⟨i1, i2⟩ := ih r
      refine ⟨tells_cons ?_ i1, .cons ?_ i2⟩
      · dsimp only; rw [p.1]; exact key_tell hk
      · dsimp only; rw [hv]; exact p.2
theorem zip_fst {α β : Type} : ∀ {as : List α} {bs : List β}, as.length = bs.length → (as.zip bs).map (·.1) = as ∧ (as.zip bs).map (·.2) = bs
  | [], [], _ => ⟨rfl, rfl⟩
  | a :: as, b :: bs, h => by
    obtain ⟨h1, h2⟩ := zip_fst (as := as) (bs := bs) (by simpa using h)
    simp only [List.zip_cons_cons, List.map_cons, h1, h2, and_self]
mutual
theorem DIs.tells (I : Inv X pins σ H s) : ∀ {d : D} {v : V} {u : Value}, DIs X.K B H d v → RelV v u → Tells X.prog X.w s.heap u d
  | _, _, _, .none, r => by cases r; exact tells_leaf .none fun _ _ => ReprIs.none
  | _, _, _, .bool b, r => by cases r; exact tells_leaf (.bool b) fun _ _ => ReprIs.bool b
  | _, _, _, .int i, r => by
    obtain ⟨t, rfl⟩ := r
    exact tells_leaf (.int i t) fun sh _ => ReprIs.int t (by rw [PyData.showable] at sh; exact of_decide_eq_true sh)
  | _, _, _, .str x, r => by
    obtain ⟨t, rfl⟩ := r
    exact tells_leaf (.str x t) fun _ len => ReprIs.str x t (by rw [PyData.shown] at len; exact len)
  | _, _, _, .list e n t, r => by
    cases r
    obtain ⟨its, rv, ⟨o, m, ho, hc, _, hd⟩, _⟩ := I.list (SqL.of e)
    exact tells_list ⟨o, m, ho, hc, hd⟩ (DIsL.tells I t rv)
  | _, _, _, .tuple e t, r => by
    cases r
    obtain ⟨its, rv, ⟨o, ho, hc, m, hd⟩, _⟩ := I.tuple e.sq
    exact tells_tuple ho hc hd (DIsL.tells I t rv)
  | _, _, _, .dict (kvs := kvs) (ds := ds) e n t q, r => by
    cases r
    obtain ⟨_, sy, vs, rel, o, es, m, ho, hc, hd, _, pr, _⟩ := dk_of I.hok e
    have hl : (kvs.map fun p => kD p.1).length = ds.length := by have := t.length; simpa using this.symm
    obtain ⟨z1, z2⟩ := zip_fst hl
    refine tells_dict ⟨o, es, m, ho, hc.1, hd, sy, ?_, ?_⟩
    · rw [q, z1]; exact (keys_tell rel pr).1
    · rw [q, z2]; exact DIsL.tells I t (keys_tell (h := s.heap) rel pr).2
theorem DIsL.tells (I : Inv X pins σ H s) : ∀ {ds : List D} {vs : List V} {us : List Value}, DIsL X.K B H ds vs → Vals vs us → TellsL X.prog X.w s.heap us ds
  | _, _, _, .nil, .nil => tells_nil
  | _, _, _, .cons a b, .cons r rs => tells_cons (DIs.tells I a r) (DIsL.tells I b rs)
end
/-- repr of data -/
theorem call_reprD (hgd : X.A.guards = some []) (hu : X.A.units + 64 < cLine) : CallR X (.builtin "repr") (fun xs H Q => ∃ v d, xs = [v] ∧ DIs X.K N0 H d v ∧ d.showable = true ∧ d.shown.length ≤ sizeLine ∧ d.depth < 60 ∧ Q (.str d.shown) H) := by
  intro pins s σ H xs us Q I r h
  obtain ⟨v, d, rfl, dv, sh, len, dp, q⟩ := h
  obtain ⟨u, rfl, ru⟩ := r.one
  have fin : ∀ h' u tk, (∀ b o, s.heap.get? b = some o → h'.get? b = some o) → EP X pins σ Q (.str d.shown u) { s with heap := h', toks := tk } := fun h' t tk keep => ⟨.str d.shown, H, I.kept keep, ⟨t, rfl⟩, q⟩
  have fin0 : ∀ t tk, EP X pins σ Q (.str d.shown t) { s with toks := tk } := fun t tk => ⟨.str d.shown, H, I.tok tk, ⟨t, rfl⟩, q⟩
  have hu1 : X.A.units + 1 < cLine := by omega
  cases dv with
  | none =>
    cases ru
    rw [PyData.shown] at fin0
    exact PySem.P.repr_of_none (fin0 _ _)
  | bool b =>
    cases ru
    rw [PyData.shown] at fin0
    exact PySem.P.repr_of_bool (fin0 _ _)
  | int i =>
    obtain ⟨t, rfl⟩ := ru
    rw [PyData.shown] at fin0
    rw [PyData.showable] at sh
    exact PySem.P.repr_of_int (of_decide_eq_true sh) (fin0 _ _)
  | str x =>
    obtain ⟨t, rfl⟩ := ru
    rw [PyData.shown] at fin0 len
    exact PySem.P.repr_of_str (fin0 _ _) len
  | @list a zs ds e n t =>
    cases ru
    obtain ⟨its, rv, ⟨o, m, ho, hc, _, hd⟩, _⟩ := I.list (SqL.of e)
    obtain ⟨as, rd, q2⟩ := DIsL.tells I t rv
    rw [PyData.showable] at sh
    rw [PyData.shown] at len fin
    rw [PyData.depth] at dp
    obtain ⟨bs, m1, k⟩ := q2 sh fun t ht => Nat.le_trans (listText_mem_le ht) len
    have rr : Reads s.heap (.ref a) (.list ds) (a :: as) := .list ho hc hd rd
    have lt : PyData.depthAll ds < (PyData.list ds).depth := by rw [PyData.depth]; omega
    refine call_repr_slot hu1 ⟨o, ho, hc⟩ F.slot_list_repr.toG ?_
    match its, k with
    | [], k =>
      cases rd
      rw [listText0 rfl] at fin
      exact call_list_repr_empty ⟨o, ho, hc⟩ ho hd ⟨_, _, rfl, fin s.heap _ _ fun _ _ z => z⟩
    | u :: us, k =>
      exact call_list_reprK ho hc hd (not_mem_of_deeper rr lt m1) (by simpa using k.length_eq) (fun i y e => k.item i y (by simpa using e)) hgd (fun b _ => Clear.nil b) (by show X.A.units + 1 + (PyData.depthAll ds + 1) < cLine; omega) (fun _ _ z => z) (fun h' u tk keep => ⟨_, _, rfl, fin h' u tk keep⟩) len
  | @tuple a zs ds e t =>
    cases ru
    obtain ⟨its, rv, ⟨o, ho, hc, m, hd⟩, _⟩ := I.tuple e.sq
    obtain ⟨as, rd, q2⟩ := DIsL.tells I t rv
    rw [PyData.showable] at sh
    rw [PyData.shown] at len fin
    rw [PyData.depth] at dp
    obtain ⟨bs, m1, k⟩ := q2 sh fun t ht => Nat.le_trans (tupleText_mem_le ht) len
    have rr : Reads s.heap (.ref a) (.tuple ds) as := .tuple ho hc hd rd
    have lt : PyData.depthAll ds < (PyData.tuple ds).depth := by rw [PyData.depth]; omega
    refine call_repr_slot hu1 ⟨o, ho, hc⟩ F.slot_tuple_repr ?_
    exact call_tuple_reprK ho hc hd (not_mem_of_deeper rr lt m1) k hgd (fun b _ => Clear.nil b) (by show X.A.units + 1 + (PyData.depthAll ds + 1) < cLine; omega) (fun _ _ z => z) (fun h' u tk keep => ⟨_, _, rfl, fin h' u tk keep⟩) len
  | @dict a kvs ds ps e n t z =>
    cases ru
    obtain ⟨_, sy, vs, rel, o, es, m, ho, hc, hd, _, pr, _⟩ := dk_of I.hok e
    have hl : (kvs.map fun p => kD p.1).length = ds.length := by have := t.length; simpa using this.symm
    obtain ⟨z1, z2⟩ := zip_fst hl
    have c : DctAt X.prog X.w s.heap a ps := ⟨o, es, m, ho, hc.1, hd, sy, (by rw [z, z1]; exact (keys_tell rel pr).1), (by rw [z, z2]; exact DIsL.tells I t (keys_tell (h := s.heap) rel pr).2)⟩
    obtain ⟨o, es, m, as, ho, hc, hd, sy, rr, q2⟩ := dct_parts c
    obtain ⟨bs, m1, na, k⟩ := q2 sh len
    rw [PyData.shown] at len fin
    rw [PyData.depth] at dp
    refine call_repr_slot hu1 ⟨o, ho, hc⟩ F.slot_dict_repr ?_
    exact call_dict_reprK ho hc hd sy na k hgd (fun b _ => Clear.nil b) (by show X.A.units + 1 + (PyData.depthKv ps + 1) < cLine; omega) (fun _ _ z => z) (fun h' u tk keep => ⟨_, _, rfl, fin h' u tk keep⟩) len
/-- what may be told: its text fits -/
def dRepr : DOn := fun ρ ts Q => match ts with
  | [x] => wD (lk ρ x) fun d => d.showable = true ∧ d.shown.length ≤ sizeLine ∧ d.depth < 60 ∧ Q (.dat (.str d.shown)) ρ
  | _ => False
section
variable {C : Ctx} {p pos : Pos} {e : Expr} {fs : DA} {k : Nat}
theorem sim_repr : SimC C (fun xs H Q => ∃ v d, xs = [v] ∧ DIs C.K N0 H d v ∧ d.showable = true ∧ d.shown.length ≤ sizeLine ∧ d.depth < 60 ∧ Q (.str d.shown) H) dRepr := by
  intro σ H ρ vs τ xs ts Qd Q I hl hτ q k
  unfold dRepr at q
  split at q
  · obtain ⟨v, rfl⟩ := len1 hl
    obtain ⟨d, ed, h1, h2, h3, q⟩ := wD_some q
    exact ⟨v, d, rfl, I.lk1 ed, h1, h2, h3, k _ _ _ _ (I.pop.str _) q⟩
  · exact q.elim
theorem de_repr (hr : RoomG k C.X.A) (hg : Gl C.X "repr") (hm : C.X.mg "repr" = none) (ha : DPA C [e] fs) (he : starEach [e] C.X.env = [(false, eval e C.X.env)] := by rfl) : DPE C (.Call (.Name "repr" p) [e] [] pos) (dCB dRepr fs) :=
  de_callB (call_reprD hr.gd hr.units) sim_repr hg hm PyProof.Rows.boot_repr ha (by decide) (by decide) he
end
end Ds
namespace Ds
open PySem L2
section
variable {C : Ctx} {pos : Pos}
theorem SS.newD {σ : St} {H : Hp} {ρ : List T} {vs : List V} {τ : List T} (I : SS C σ H ρ vs τ) {p : Addr} (hp : H p = none) {kvs : List (Key × V)} {ds : List D} (h : ds.map sv = kvs.map fun q => some q.2) : SS C σ (upd H p (.dK kvs)) ρ (vs ++ [.ref p]) (τ ++ [.dct ((kvs.map (·.1)).zip ds)]) := by
  refine I.push [p] (same_upd hp) (fun ow ow' J m1 m2 nb _ => ?_) (by simp) (fun a ha => by simp at ha; rw [ha]; exact hp) (fun a ha => by simp at ha; subst ha; exact ⟨_, upd_same, trivial⟩)
  refine .dct upd_same ?_ rfl
  have go : ∀ {ds : List D} {zs : List V}, ds.map sv = zs.map some → DIsL C.K (Bar C ow') (upd H p (.dK kvs)) ds zs := by
    intro ds
    induction ds with
    | nil => intro zs e; cases zs with
      | nil => exact .nil
      | cons z zs => simp at e
    | cons d ds ih => intro zs e; cases zs with
      | nil => simp at e
      | cons z zs =>
        simp only [List.map_cons, List.cons.injEq] at e
        exact .cons (sv_is e.1) (ih e.2)
  exact go (by rw [h, List.map_map]; rfl)
def dDct (ps : List (Key × D)) : DE := fun ρ Q => Q (.dct ps) ρ
theorem de_dict0 : DPE C (.Dict [] [] pos) (dDct []) :=
  ⟨_, pe_dnewK, fun σ H ρ vs τ Qd Q I q k p hp => k _ _ _ _ (I.newD (kvs := []) (ds := []) hp rfl) q⟩
/-- an expression that is that scalar -/
theorem pe_tC {X : Cx} {e : Expr} {t : TE} {v : V} (h : PE X e t) (hv : ∀ σ H Q, Q v H → t σ H Q) : PE X e (tC v) := ⟨fun pins s σ H Q I q => h.run pins s σ H Q I (hv σ H Q q)⟩
theorem pairs_c {σ : St} {H : Hp} {Q : List (V × V) → Hp → Prop} : ∀ (kvs : List (Key × V)), Q (kvs.map fun p => (kV p.1, p.2)) H → tPairs (kvs.map fun p => (tC (kV p.1), tC p.2)) σ H Q
  | [], q => q
  | (k, v) :: r, q => pairs_c (Q := fun ps H3 => Q ((kV k, v) :: ps) H3) r q
theorem de_dictC {keys : List (Option Expr)} {values : List Expr} (kvs : List (Key × V)) (ds : List D) (h : PPs C.X pos keys values (kvs.map fun p => (tC (kV p.1), tC p.2))) (hds : ds.map sv = kvs.map fun q => some q.2) (hk : mergeK [] kvs = kvs) (hz : kvs.length ≤ 15)
    (hall : keys.all (·.isSome) = true) (hl : keys.length = values.length) (h0 : keys ≠ []) (h15 : keys.length ≤ 15) : DPE C (.Dict keys values pos) (dDct ((kvs.map (·.1)).zip ds)) :=
  ⟨_, pe_disp h hall hl h0 h15, fun σ H ρ vs τ Qd Q I q k p hp => pairs_c kvs ⟨upd_same, kvs, rfl, hz, by
    have e : upd (upd H p (.dK [])) p (.dK kvs) = upd H p (.dK kvs) := by
      funext b
      by_cases z : b = p
      · subst z; rw [upd_same, upd_same]
      · rw [upd_ne z, upd_ne z, upd_ne z]
    rw [hk, e]
    exact k _ _ _ _ (I.newD hp hds) q⟩⟩
end
section
variable {C : Ctx} {elt tge iter : Expr} {ifs : List Expr} {scope : Scope} {own : List (Str × Nat)} {pos py spos : Pos} {fi : DI} {tt : DTt} {fe : DE} {tg : Tgt} {i : Nat} {y : Str}
theorem ds_setLc (hc : C.X.calm = true) (hN : C.X.N.Nodup) (hy : C.X.N[i]? = some y) (hyl : C.X.env.scope.names.lookup y = some .local) (nl : i ∉ C.lent) (hsw : swapsWith (.ListComp elt [⟨tge, iter, ifs, 0⟩] scope pos) (some (.Name y py)) spos.line C.X.env = pure true)
    (hi : DPI C tge iter fi) (ok : BlkOk C.X.N C.X.env.scope scope own) (hg : TgtOk C tge tg scope)
    (ht : ∀ (s : Shared) (H : Hp) (Cc : Addr) (cl : List (Str × Addr)) (fp : List Addr), DPTs (C.blk s H scope Cc cl fp) ifs tt) (he : ∀ (s : Shared) (H : Hp) (Cc : Addr) (cl : List (Str × Addr)) (fp : List Addr), DPE (C.blk s H scope Cc cl fp) elt fe)
    (h1 : ∀ i ∈ tg.sl, i ∈ own.map (·.2)) (h2 : ∀ i ∈ own.map (·.2), i ∉ C.lent ∧ i ∈ C.cv) (hs : ∀ x, foldedSetIterable iter C.X.env x = pure x := by intro _; rfl) :
    DPS C (.Assign [.Name y py] (.ListComp elt [⟨tge, iter, ifs, 0⟩] scope pos) spos) (dAsg (dLc fi tg.d tt fe (own.map (·.2))) (dgName i)) :=
  let ⟨_, p, s⟩ := hi.ex
  ⟨_, ps_setLc hc hN hy hyl hsw p ok (fun s H Cc cl fp => hg.pg s H Cc cl fp) (fun s H Cc cl fp => pts_der (ht s H Cc cl fp)) (fun s H Cc cl fp => pe_der (he s H Cc cl fp)) hs, sim_asg (sim_lc s h1 h2) (by
    intro σ H ρ vs τ v t Qd Q I na q k
    obtain ⟨nt, q⟩ := na_ok q
    by_cases z : i < ρ.length
    · exact k _ _ _ (I.assign z nt (.inl na) nl) q
    · refine k _ _ ρ ?_ (by rw [getElem?_of_set z] at q; exact q)
      rw [getElem?_of_set (by rw [← I.lnN]; exact z)]
      exact I.pop)⟩
end
end Ds
namespace Ds
open PySem L2
/-- a def of the text and its promise -/
structure Has (P : Program) (w : World) (K : PySem.W.Frag) (mg : Str → Option Value) (base : Heap) (x : Str) (k : Nat) (ps : List Str) (ms : List Md) (spd : DSp) : Prop where
  ex : ∃ a fd, mg x = some (.ref a) ∧ PySem.W.keepIn K (.ref a) = true ∧ Binds K fd ps [] ∧ FnG P w K mg base k a fd ps (toSp K ps.length (lnOf ms) spd)
  mono : Mono spd
  len : ps.length = ms.length
/-- the same where the last parameters are left to their defaults -/
structure HasD (P : Program) (w : World) (K : PySem.W.Frag) (mg : Str → Option Value) (base : Heap) (x : Str) (k : Nat) (ps : List Str) (ms : List Md) (dds : List D) (spd : DSp) : Prop where
  ex : ∃ a fd dvs, mg x = some (.ref a) ∧ PySem.W.keepIn K (.ref a) = true ∧ dds.map sv = dvs.map some ∧ (∃ dsv, Vals dvs dsv ∧ Binds K fd ps dsv) ∧ FnG P w K mg base k a fd ps (toSp K ps.length (lnOf (ms ++ dds.map fun _ => .dat)) spd)
  mono : Mono spd
  len : ps.length = (ms ++ dds.map fun _ => Md.dat).length
section
variable {C : Ctx} {k j : Nat} {ps : List Str} {x : Str} {p pos : Pos} {e : Expr} {es : List Expr} {fs : DA} {ms : List Md} {dds : List D} {spd : DSp}
theorem de_fn (h : Has C.X.prog C.X.w C.X.K C.X.mg C.X.base x k ps ms spd) (hr : RoomG j C.X.A) (hk : k ≤ j) (tk : DTk C) (hg : Gl C.X x) (ha : DPA C (e :: es) fs) (hdb : (x == ("__debug__" : Str)) = false := by decide)
    (he : starEach (e :: es) C.X.env = (false, eval e C.X.env) :: starEach es C.X.env := by rfl) (hpl : (backTo pos (starEach es C.X.env)).any (·.1) = false := by rfl) : DPE C (.Call (.Name x p) (e :: es) [] pos) (dCall ms spd C.Wd fs) :=
  let ⟨_, _, h1, h2, h3, h4⟩ := h.ex
  de_call h4 (hr.mono hk) h.mono h.len hg h1 h2 h3 tk ha hdb he hpl
theorem de_fnD (h : HasD C.X.prog C.X.w C.X.K C.X.mg C.X.base x k ps ms dds spd) (hr : RoomG j C.X.A) (hk : k ≤ j) (tk : DTk C) (hg : Gl C.X x) (ha : DPA C (e :: es) fs) (hdb : (x == ("__debug__" : Str)) = false := by decide)
    (he : starEach (e :: es) C.X.env = (false, eval e C.X.env) :: starEach es C.X.env := by rfl) (hpl : (backTo pos (starEach es C.X.env)).any (·.1) = false := by rfl) : DPE C (.Call (.Name x p) (e :: es) [] pos) (dCallD dds ms spd C.Wd fs) :=
  let ⟨_, _, _, h1, h2, h3, h4, h5⟩ := h.ex
  de_callD h5 (hr.mono hk) h.mono h.len hg h1 h2 h4 h3 tk ha hdb he hpl
end
/-- a scalar of the text by name -/
structure HasC (mg : Str → Option Value) (x : Str) (v : V) : Prop where
  ex : ∃ u, mg x = some u ∧ RelV v u
theorem de_const {C : Ctx} {x : Str} {v : V} {d : D} {pos : Pos} (h : HasC C.X.mg x v) (hg : Gl C.X x) (e : sv d = some v) (hd : (x == ("__debug__" : Str)) = false := by decide) : DPE C (.Name x pos) (dC d) :=
  let ⟨_, h1, h2⟩ := h.ex
  de_glob hg h1 h2 e hd
theorem RoomG.u65 {k : Nat} {A : Around} (r : RoomG k A) : A.units + 65 < cLine := by have := r.rm.un; omega
end Ds
namespace Ds
open PySem L2
/-- not among them -/
def ninB (i : Nat) : List Nat → Bool
  | [] => true
  | j :: js => !(Nat.beq i j) && ninB i js
theorem nin_of {i : Nat} : ∀ {l : List Nat}, ninB i l = true → i ∉ l
  | [], _ => by simp
  | j :: js, h => by
    simp only [ninB, Bool.and_eq_true, Bool.not_eq_true'] at h
    simp only [List.mem_cons, not_or]
    exact ⟨fun e => by rw [e, Nat.beq_refl] at h; exact absurd h.1 (by simp), nin_of h.2⟩
def ownB (lent cv : List Nat) : List Nat → Bool
  | [] => true
  | i :: is => ninB i lent && !(ninB i cv) && ownB lent cv is
theorem in_of {i : Nat} : ∀ {l : List Nat}, ninB i l = false → i ∈ l
  | [], h => by simp [ninB] at h
  | j :: js, h => by
    simp only [ninB, Bool.and_eq_false_iff, Bool.not_eq_false'] at h
    rcases h with h | h
    · exact List.mem_cons.mpr (.inl (Nat.eq_of_beq_eq_true h))
    · exact List.mem_cons_of_mem _ (in_of h)
theorem own_of {lent cv : List Nat} : ∀ {is : List Nat}, ownB lent cv is = true → ∀ i ∈ is, i ∉ lent ∧ i ∈ cv
  | [], _ => by simp
  | j :: js, h => by
    simp only [ownB, Bool.and_eq_true, Bool.not_eq_true'] at h
    intro i hi
    rcases List.mem_cons.mp hi with rfl | hi
    · exact ⟨nin_of h.1.1, in_of h.1.2⟩
    · exact own_of h.2 i hi
/-- a block's facts, by reckoning -/
def blkB (N : List Str) (sc scope : Scope) (own : List (Str × Nat)) : Bool :=
  (match scope.kind with | .function => true | _ => false) &&
  (scope.names.all fun y => decide (scope.names.lookup y.1 = some y.2)) &&
  (own.all fun p => decide (N[p.2]? = some p.1)) &&
  (scope.names.all fun y => match y.2 with
    | .free => decide (sc.names.lookup y.1 = some .cell) || decide (sc.names.lookup y.1 = some .free)
    | .local => (own.map (·.1)).contains y.1 || !(N.contains y.1)
    | .cell => (own.map (·.1)).contains y.1 || !(N.contains y.1)
    | _ => true)
theorem blk_of {N : List Str} {sc scope : Scope} {own : List (Str × Nat)} (h : blkB N sc scope own = true) : BlkOk N sc scope own := by
  simp only [blkB, Bool.and_eq_true, List.all_eq_true, decide_eq_true_eq] at h
  obtain ⟨⟨⟨h1, h2⟩, h3⟩, h4⟩ := h
  refine ⟨?_, h2, h3, fun y hy e => ?_, fun y hy e => ?_⟩
  · cases e : scope.kind <;> rw [e] at h1 <;> first | rfl | cases h1
  · have := h4 y hy
    rw [e] at this
    simpa using this
  · have := h4 y hy
    rcases e with e | e <;> rw [e] at this <;> simpa using this
/-- nothing is let out -/
abbrev noW : Exn → List T → Prop := fun _ _ => False
structure DCmp (C : Ctx) (op : CmpOp) (b : Expr) (f : DO2) : Prop where
  ex : ∃ r, OpR C.X (compareOp op) r ∧ SimR2 C r f ∧ behindInMarks op b = false
section
variable {C : Ctx} {a b c : Expr} {fa fb fc : DE} {f : DO2} {op op' : CmpOp} {pos : Pos}
theorem dc_lt : DCmp C .Lt b dLt := ⟨_, op_lt, sim_fII fun H i j Qd Q q k => ⟨i, j, rfl, rfl, k _ _ rfl q⟩, nobehind _ (by decide) (by decide)⟩
theorem dc_le : DCmp C .LtE b dLe := ⟨_, op_le, sim_fII fun H i j Qd Q q k => ⟨i, j, rfl, rfl, k _ _ rfl q⟩, nobehind _ (by decide) (by decide)⟩
theorem dc_gt : DCmp C .Gt b dGt := ⟨_, op_gt, sim_fII fun H i j Qd Q q k => ⟨i, j, rfl, rfl, k _ _ rfl q⟩, nobehind _ (by decide) (by decide)⟩
theorem dc_ge : DCmp C .GtE b dGe := ⟨_, op_ge, sim_fII fun H i j Qd Q q k => ⟨i, j, rfl, rfl, k _ _ rfl q⟩, nobehind _ (by decide) (by decide)⟩
theorem dc_eq (hu : C.X.A.units + 64 < cLine) : DCmp C .Eq b dEq := ⟨_, (sim_eqD hu).1, (sim_eqD hu).2, nobehind _ (by decide) (by decide)⟩
theorem dc_ne (hu : C.X.A.units + 64 < cLine) : DCmp C .NotEq b dNe := ⟨_, (sim_neD hu).1, (sim_neD hu).2, nobehind _ (by decide) (by decide)⟩
theorem dc_in (hu : C.X.A.units + 65 < cLine) (hm : behindInMarks .In b = false) : DCmp C .In b dIn :=
  ⟨_, op_inD hu, sim_pu2 fun H d e u v Qd Q du ev q k => by
    cases e <;> first | exact q.elim | skip
    exact ⟨d, _, du.dpS q.1, ev.dpS q.2.1, q.1, q.2.1, k _ _ rfl q.2.2⟩, hm⟩
theorem dc_notIn (hu : C.X.A.units + 65 < cLine) (hm : behindInMarks .NotIn b = false) : DCmp C .NotIn b dNotIn :=
  ⟨_, op_notInD hu, sim_pu2 fun H d e u v Qd Q du ev q k => by
    cases e <;> first | exact q.elim | skip
    exact ⟨d, _, du.dpS q.1, ev.dpS q.2.1, q.1, q.2.1, k _ _ rfl q.2.2⟩, hm⟩
theorem dc_isN : DCmp C .Is b dIsN := ⟨_, op_isN, sim_pu2 fun H d e u v Qd Q du ev q k => by
    cases e <;> first | exact q.elim | skip
    refine ⟨ev.none_eq, ?_⟩
    rw [isN_eq du]
    exact k _ _ rfl q, nobehind _ (by decide) (by decide)⟩
theorem dc_isNotN : DCmp C .IsNot b dIsNotN := ⟨_, op_notN, sim_pu2 fun H d e u v Qd Q du ev q k => by
    cases e <;> first | exact q.elim | skip
    refine ⟨ev.none_eq, ?_⟩
    rw [isN_eq du]
    exact k _ _ rfl q, nobehind _ (by decide) (by decide)⟩
theorem dc_isB : DCmp C .Is b dIsB := ⟨_, op_isBl, sim_pu2 fun H d e u v Qd Q du ev q k => by
    cases d <;> cases e <;> first | exact q.elim | skip
    exact ⟨_, _, du.bool_eq, ev.bool_eq, k _ _ rfl q⟩, nobehind _ (by decide) (by decide)⟩
theorem dc_isNotB : DCmp C .IsNot b dIsNotB := ⟨_, op_notBl, sim_pu2 fun H d e u v Qd Q du ev q k => by
    cases d <;> cases e <;> first | exact q.elim | skip
    exact ⟨_, _, du.bool_eq, ev.bool_eq, k _ _ rfl q⟩, nobehind _ (by decide) (by decide)⟩
theorem de_cmpD (h : DCmp C op b f) (ha : DPE C a fa) (hb : DPE C b fb) : DPE C (.Compare a [op] [b] pos) (dOp f fa fb) :=
  let ⟨_, h1, h2, h3⟩ := h.ex
  de_cmp h1 h2 ha hb h3
/-- a value that tells -/
theorem sim_test {t : TE} {g : DE} (s : Sim C t g) : SimT C (tTest t) (tVal g) := fun σ H ρ vs τ Qd Q I q k => s σ H ρ vs τ _ _ I q fun v H1 x ρ1 I1 q1 => by
  obtain ⟨b, e, q1⟩ := wB_some q1
  exact ⟨b, (I1.lk1 e).bool_eq, k _ _ _ I1.pop q1⟩
theorem dt_cmpD (h : DCmp C op b f) (ha : DPE C a fa) (hb : DPE C b fb) : DPT C (.Compare a [op] [b] pos) (tVal (dOp f fa fb)) :=
  let ⟨_, h1, h2, h3⟩ := h.ex
  let ⟨_, pa, sa⟩ := ha.ex; let ⟨_, pb, sb⟩ := hb.ex
  ⟨_, pt_cmpR h1 pa pb h3, sim_test (sim_op h2 sa sb)⟩
/-- c ? t : u as a test -/
def dIfT (t : DTt) (u v : DTt) : DTt := fun ρ Q => t ρ fun b ρ1 => br b (u ρ1 Q) (v ρ1 Q)
end
end Ds
namespace Ds
open PySem L2
def dPar (fs : DA) (gs : DGs) : DS := fun D ρ => fs ρ fun ts ρ1 => match noAliL ts with
  | true => gs ts ρ1 D.nx
  | false => False
section
variable {C : Ctx} {a b c : Expr} {fs : DA} {pos px py pz pt pt2 : Pos} {x y z : Str} {kt k2 : Nat}
theorem sim_name {i : Nat} {x : Str} (hN : C.X.N.Nodup) (hi : C.X.N[i]? = some x) (nl : i ∉ C.lent) : SimG C (gName i) (dgName i) := fun σ H ρ vs τ v t Qd Q I na q k => by
  obtain ⟨nt, q⟩ := na_ok q
  by_cases z : i < ρ.length
  · exact k _ _ _ (I.assign z nt (.inl na) nl) q
  · refine k _ _ ρ ?_ (by rw [getElem?_of_set z] at q; exact q)
    rw [getElem?_of_set (by rw [← I.lnN]; exact z)]
    exact I.pop
theorem simGs_nil : SimGs C gNil dgNil := fun σ H ρ vs τ xs ts Qd Q I hl na nt q k => by
  unfold dgNil at q
  split at q
  · have : xs = [] := List.length_eq_zero_iff.mp hl.symm
    subst this
    exact ⟨rfl, k _ _ _ (by simpa using I) q⟩
  · exact q.elim
theorem simGs_cons {g : TG} {gs : TGs} {f : DG} {fs : DGs} (s1 : SimG C g f) (s2 : SimGs C gs fs) : SimGs C (gCons g gs) (dgCons f fs) := fun σ H ρ vs τ xs ts Qd Q I hl na nt q k => by
  unfold dgCons at q
  split at q
  · rename_i t ts
    match xs, hl with
    | v :: xs, hl =>
      simp [noAliL] at nt
      refine ⟨v, xs, rfl, s1 σ H ρ (vs ++ xs) (τ ++ ts) v t _ _ (I.first (by simpa using hl)) (by rw [noAliL_append, na, nt.2]; rfl) q fun σ' H' ρ' I' q' => ?_⟩
      exact s2 σ' H' ρ' vs τ xs ts _ _ I' (by simpa using hl) na nt.2 q' k
  · exact q.elim
theorem par_ok {ts : List T} {P : Prop} (h : match noAliL ts with | true => P | false => False) : noAliL ts = true ∧ P := by
  cases e : noAliL ts with
  | false => rw [e] at h; exact h.elim
  | true => rw [e] at h; exact ⟨rfl, h⟩
theorem ds_par {i j : Nat} (hc : C.X.calm = true) (hN : C.X.N.Nodup) (hi : C.X.N[i]? = some x) (hj : C.X.N[j]? = some y) (hij : Nat.beq i j = false) (hx : C.X.env.scope.names.lookup x = some .local) (hy : C.X.env.scope.names.lookup y = some .local) (n1 : i ∉ C.lent) (n2 : j ∉ C.lent) (ha : DPA C [a, b] fs)
    (hw : swappedStores [.Tuple [.Name x px, .Name y py] kt pt] (.Tuple [a, b] k2 pt2) C.X.env = pure (some [x, y]) := by rfl)
    (hs : swapsWithSole [.Tuple [.Name x px, .Name y py] kt pt] (.Tuple [a, b] k2 pt2) pos.line C.X.env = pure false := by rfl) :
    DPS C (.Assign [.Tuple [.Name x px, .Name y py] kt pt] (.Tuple [a, b] k2 pt2) pos) (dPar fs (dgCons (dgName i) (dgCons (dgName j) dgNil))) :=
  let ⟨_, pa, sa⟩ := ha.ex
  ⟨_, ps_par hc hN hi hj (Nat.ne_of_beq_eq_false hij) hx hy pa hw hs, fun σ H ρ vs τ Dd D I na q k => sa σ H ρ vs τ _ _ I q fun xs H1 ts ρ1 I1 hl q1 => by
    obtain ⟨nt, q1⟩ := par_ok q1
    obtain ⟨v, r, rfl, w, r2, rfl, rfl, h⟩ := simGs_cons (sim_name hN hi n1) (simGs_cons (sim_name hN hj n2) simGs_nil) σ H1 ρ1 vs τ xs ts _ D.nx I1 hl na nt q1 fun σ' H' ρ' I' q' => k.nx _ _ _ I' q'
    exact ⟨v, w, rfl, h⟩⟩
theorem ds_par3 {i j l : Nat} (hc : C.X.calm = true) (hN : C.X.N.Nodup) (hi : C.X.N[i]? = some x) (hj : C.X.N[j]? = some y) (hl : C.X.N[l]? = some z) (hij : Nat.beq i j = false) (hil : Nat.beq i l = false) (hjl : Nat.beq j l = false) (hx : C.X.env.scope.names.lookup x = some .local) (hy : C.X.env.scope.names.lookup y = some .local)
    (hz : C.X.env.scope.names.lookup z = some .local) (n1 : i ∉ C.lent) (n2 : j ∉ C.lent) (n3 : l ∉ C.lent) (ha : DPA C [a, b, c] fs)
    (hw : swappedStores [.Tuple [.Name x px, .Name y py, .Name z pz] kt pt] (.Tuple [a, b, c] k2 pt2) C.X.env = pure (some [x, y, z]) := by rfl)
    (hs : swapsWithSole [.Tuple [.Name x px, .Name y py, .Name z pz] kt pt] (.Tuple [a, b, c] k2 pt2) pos.line C.X.env = pure false := by rfl) :
    DPS C (.Assign [.Tuple [.Name x px, .Name y py, .Name z pz] kt pt] (.Tuple [a, b, c] k2 pt2) pos) (dPar fs (dgCons (dgName i) (dgCons (dgName j) (dgCons (dgName l) dgNil)))) :=
  let ⟨_, pa, sa⟩ := ha.ex
  ⟨_, ps_par3 hc hN hi hj hl (Nat.ne_of_beq_eq_false hij) (Nat.ne_of_beq_eq_false hil) (Nat.ne_of_beq_eq_false hjl) hx hy hz pa hw hs, fun σ H ρ vs τ Dd D I na q k => sa σ H ρ vs τ _ _ I q fun xs H1 ts ρ1 I1 hl2 q1 => by
    obtain ⟨nt, q1⟩ := par_ok q1
    obtain ⟨v, r, rfl, w, r2, rfl, u, r3, rfl, rfl, h⟩ := simGs_cons (sim_name hN hi n1) (simGs_cons (sim_name hN hj n2) (simGs_cons (sim_name hN hl n3) simGs_nil)) σ H1 ρ1 vs τ xs ts _ D.nx I1 hl2 na nt q1 fun σ' H' ρ' I' q' => k.nx _ _ _ I' q'
    exact ⟨v, w, u, rfl, h⟩⟩
end
end Ds
namespace Ds
open PySem L2
/-! ### reading off -/
theorem wO_i {α : Type} {o : Option α} {d : α} {k : α → Prop} (e : o = some d) (h : k d) : wO o k := by rw [e]; exact h
theorem wD_i {o : Option D} {d : D} {k : D → Prop} (e : o = some d) (h : k d) : wD o k := by rw [e]; exact h
theorem gI_nat {α : Type} {l : List α} {i : Int} {k : Nat} (e : i = (k : Int)) : gI l i = l[k]? := by subst e; rfl
theorem mul_ok {i j : Int} {a b : Nat} (h1 : i.natAbs.log2 < a) (h2 : j.natAbs.log2 < b) (h : a + b ≤ 1000000) : CMulW i j := by unfold CMulW; omega
theorem log2_lt {x : Int} {k : Nat} (h0 : 0 ≤ x) (h : x < 2 ^ k) (hk : 0 < k) : x.natAbs.log2 < k := by
  rcases Nat.eq_zero_or_pos x.natAbs with z | z
  · rw [z]; exact hk
  · rw [Nat.log2_lt (by omega)]
    have : ((2 ^ k : Nat) : Int) = (2 : Int) ^ k := by simp
    omega
theorem cut_from {α : Type} (l : List α) (k : Nat) : cut l (some (k : Int)) none = l.drop k := by
  have e : HT.sIx l.length 0 (some (k : Int)) = min k l.length := by simp [HT.sIx]; omega
  have e2 : HT.sIx l.length l.length none = l.length := by simp [HT.sIx]
  rw [cut, e, e2]
  by_cases h : k ≤ l.length
  · rw [Nat.min_eq_left h, List.take_of_length_le (by simp)]
  · rw [Nat.min_eq_right (by omega), List.drop_of_length_le (Nat.le_refl _), List.drop_of_length_le (by omega)]; simp
theorem cut_to {α : Type} (l : List α) (k : Nat) : cut l none (some (k : Int)) = l.take k := by
  have e : HT.sIx l.length l.length (some (k : Int)) = min k l.length := by simp [HT.sIx]; omega
  have e2 : HT.sIx l.length 0 none = 0 := by simp [HT.sIx]
  rw [cut, e, e2]
  by_cases h : k ≤ l.length
  · rw [Nat.min_eq_left h]; simp
  · rw [Nat.min_eq_right (by omega), List.take_of_length_le (by simp), List.take_of_length_le (by omega)]; simp
/-! ### data that is compared -/
theorem canLay_ints : ∀ ns : List Int, PyData.canLayAll0 (ns.map PyData.int) = true
  | [] => rfl
  | n :: ns => by simp only [List.map_cons, PyData.canLayAll0, PyData.canLay0, canLay_ints ns, Bool.and_self]
theorem depth_ints : ∀ ns : List Int, PyData.depthAll (ns.map PyData.int) = 0
  | [] => rfl
  | n :: ns => by simp only [List.map_cons, PyData.depthAll, PyData.depth, depth_ints ns, Nat.max_self]
theorem shaped_ints (ns : List Int) : SeqAt.shaped (.list (ns.map PyData.int)) = true := by
  simp only [SeqAt.shaped, PyData.canLay0, canLay_ints, PyData.depth, depth_ints]; rfl
theorem eqv_cons_nil {a : D} {l : List D} : PyData.eqv (.list (a :: l)) (.list []) = false := by rw [PyData.eqv, PyData.eqvAll]
theorem eqv_nil_nil : PyData.eqv (.list []) (.list []) = true := by rw [PyData.eqv, PyData.eqvAll]
theorem eqv_int {i j : Int} : PyData.eqv (.int i) (.int j) = (i == j) := by rw [PyData.eqv]
theorem eqv_str {i j : Str} : PyData.eqv (.str i) (.str j) = (i == j) := by rw [PyData.eqv]
/-! ### loops -/
theorem lc_inv {g : DG} {tt : DTt} {fe : DE} {own : List Nat} {K : List D → List T → Prop} {its : List T} {ρ : List T} (Pv : Nat → List D → List T → Prop) (h0 : Pv 0 [] ρ)
    (hs : ∀ (j : Nat) (t : T) (acc : List D) (ρ : List T) (K' : List D → List T → Prop), its[j]? = some t → Pv j acc ρ → (∀ acc' ρ', Pv (j + 1) acc' ρ' → K' acc' ρ') →
      g t ρ fun ρ1 => tt ρ1 fun b ρ2 => br b (fe ρ2 fun y ρ3 => wD (frz y) fun d => acc.length < sizeLine ∧ K' (acc ++ [d]) (wipeT ρ3 own)) (K' acc (wipeT ρ2 own))) (hd : ∀ acc ρ, Pv its.length acc ρ → K acc ρ) : dLcGo g tt fe own K its [] ρ := by
  have go : ∀ (l : List T) (j : Nat) (acc : List D) (ρ : List T), its.drop j = l → Pv j acc ρ → j ≤ its.length → dLcGo g tt fe own K l acc ρ := by
    intro l
    induction l with
    | nil =>
      intro j acc ρ e p hj
      have : j = its.length := by have := congrArg List.length e; rw [List.length_drop, List.length_nil] at this; omega
      subst this
      exact hd _ _ p
    | cons t l ih =>
      intro j acc ρ e p hj
      have hj2 : j < its.length := by have := congrArg List.length e; rw [List.length_drop, List.length_cons] at this; omega
      rw [List.drop_eq_getElem_cons hj2] at e
      injection e with e1 el
      have et : its[j]? = some t := by rw [← e1]; exact List.getElem?_eq_getElem hj2
      exact hs j t acc ρ (fun acc' ρ' => dLcGo g tt fe own K l acc' ρ') et p fun acc' ρ' p' => ih (j + 1) acc' ρ' el p' hj2
  exact go its 0 [] ρ rfl h0 (Nat.zero_le _)
/-- one name, each turn by itself: sel tells what a turn adds -/
theorem lc_pure {i : Nat} {tt : DTt} {fe : DE} {K : List D → List T → Prop} {its : List T} {ρ : List T} (sel : T → Option D) (hw : ρ.set i .emp = ρ) (hl : its.length ≤ sizeLine)
    (he : ∀ t, t ∈ its → noAli t = true ∧ ∀ (P : T → List T → Prop) (R : List T → Prop), (∀ d y, sel t = some d → frz y = some d → P y (ρ.set i t)) → (sel t = none → R (ρ.set i t)) → tt (ρ.set i t) fun b ρ2 => br b (fe ρ2 P) (R ρ2))
    (hk : K (its.filterMap sel) ρ) : dLcGo (dgName i) tt fe [i] K its [] ρ := by
  have hset : ∀ t : T, wipeT (ρ.set i t) [i] = ρ := fun t => by
    show (ρ.set i t).set i .emp = ρ
    rw [List.set_set, hw]
  refine lc_inv (fun j acc ρ' => acc = (its.take j).filterMap sel ∧ ρ' = ρ) ⟨by simp, rfl⟩ (fun j t acc ρ' K' et p k => ?_) (fun acc ρ' p => ?_)
  · obtain ⟨rfl, rfl⟩ := p
    obtain ⟨na, h⟩ := he t (List.mem_of_getElem? et)
    have hj : j < its.length := (List.getElem?_eq_some_iff.mp et).1
    have tk : its.take (j + 1) = its.take j ++ [t] := by rw [List.take_succ, et]; rfl
    show match noAli t with | true => _ | false => False
    rw [na]
    refine h _ _ (fun d y e fy => wD_i fy ⟨?_, ?_⟩) fun e => ?_
    · have h1 : ((its.take j).filterMap sel).length ≤ (its.take j).length := List.length_filterMap_le ..
      rw [List.length_take] at h1
      omega
    · rw [hset]
      refine k _ _ ⟨?_, rfl⟩
      rw [tk, List.filterMap_append]
      simp [e]
    · rw [hset]
      refine k _ _ ⟨?_, rfl⟩
      rw [tk, List.filterMap_append]
      simp [e]
  · obtain ⟨rfl, rfl⟩ := p
    rw [List.take_length]
    exact hk
/-- the ends of a def's body -/
abbrev fin0 (ln : Option Nat) (Q : T → T → Prop) : DEnds := { nx := fun ρ => cl (lentOf ln ρ) (Q (.dat .none) (lentOf ln ρ)), rt := fun r ρ => cl r (cl (lentOf ln ρ) (Q r (lentOf ln ρ))) }
abbrev finX (ln : Option Nat) (W : Exn → T → Prop) : Exn → List T → Prop := fun ex ρ => cl (lentOf ln ρ) (W ex (lentOf ln ρ))
end Ds
namespace Ds
open PySem L2
theorem dg_i {i : Nat} {t : T} {ρ : List T} {Q : List T → Prop} (na : noAli t = true) (h : Q (ρ.set i t)) : dgName i t ρ Q := by
  show match noAli t with | true => Q (ρ.set i t) | false => False
  rw [na]; exact h
/-- a statement behind another: what stands between them -/
theorem dSeq_cut {f g : DS} {D : DEnds} {ρ : List T} (P : List T → Prop) (h1 : ∀ K : List T → Prop, (∀ ρ', P ρ' → K ρ') → f { D with nx := K } ρ) (h2 : ∀ ρ', P ρ' → g D ρ') : dSeq f g D ρ := ⟨h1 _ h2⟩
end Ds
namespace Ds
open PySem L2
/-! ### texts of data -/
/-- it can be told in n letters, k deep -/
structure Tl (k n : Nat) (d : D) : Prop where
  sh : d.showable = true
  le : d.shown.length ≤ n
  dp : d.depth ≤ k
theorem Tl.mono {k n k' n' : Nat} {d : D} (h : Tl k n d) (hk : k ≤ k') (hn : n ≤ n') : Tl k' n' d := ⟨h.sh, Nat.le_trans h.le hn, Nat.le_trans h.dp hk⟩
theorem tl_all {k n : Nat} : ∀ {xs : List D}, (∀ x ∈ xs, Tl k n x) → PyData.showableAll xs = true ∧ ((PyData.shownAll xs).map (·.length)).sum ≤ xs.length * n ∧ PyData.depthAll xs ≤ k ∧ (PyData.shownAll xs).length = xs.length
  | [], _ => ⟨rfl, by simp [PyData.shownAll], by simp [PyData.depthAll], by simp [PyData.shownAll]⟩
  | x :: xs, h => by
    obtain ⟨h1, h2, h3, h4⟩ := tl_all (xs := xs) fun y hy => h y (List.mem_cons_of_mem _ hy)
    have q := h x (List.mem_cons_self ..)
    have q2 := q.le
    have q3 := q.dp
    refine ⟨?_, ?_, ?_, ?_⟩
    · simp only [PyData.showableAll, q.sh, h1, Bool.and_self]
    · simp only [PyData.shownAll, List.map_cons, List.sum_cons, List.length_cons]
      rw [Nat.add_mul, Nat.one_mul]; omega
    · simp only [PyData.depthAll]; omega
    · simp only [PyData.shownAll, List.length_cons, h4]
theorem Tl.list {k n m : Nat} {xs : List D} (h : ∀ x ∈ xs, Tl k n x) (hm : xs.length ≤ m) : Tl (k + 1) (m * (n + 2) + 3) (.list xs) := by
  obtain ⟨h1, h2, h3, h4⟩ := tl_all h
  have e := listText_len_le (PyData.shownAll xs)
  have e2 : xs.length * (n + 2) ≤ m * (n + 2) := Nat.mul_le_mul_right _ hm
  refine ⟨by simp only [PyData.showable, h1], ?_, by simp only [PyData.depth]; omega⟩
  simp only [PyData.shown]
  rw [h4] at e
  have e3 : m * (n + 2) = m * n + m * 2 := Nat.mul_add ..
  have e4 : xs.length * (n + 2) = xs.length * n + xs.length * 2 := Nat.mul_add ..
  omega
theorem Tl.tuple {k n m : Nat} {xs : List D} (h : ∀ x ∈ xs, Tl k n x) (hm : xs.length ≤ m) : Tl (k + 1) (m * (n + 2) + 3) (.tuple xs) := by
  obtain ⟨h1, h2, h3, h4⟩ := tl_all h
  have e := tupleText_len_le (PyData.shownAll xs)
  have e2 : xs.length * (n + 2) ≤ m * (n + 2) := Nat.mul_le_mul_right _ hm
  refine ⟨by simp only [PyData.showable, h1], ?_, by simp only [PyData.depth]; omega⟩
  simp only [PyData.shown]
  rw [h4] at e
  have e3 : m * (n + 2) = m * n + m * 2 := Nat.mul_add ..
  have e4 : xs.length * (n + 2) = xs.length * n + xs.length * 2 := Nat.mul_add ..
  omega
theorem Tl.int {i : Int} {k : Nat} (h : i.natAbs.log2 < k) (h0 : 0 < k) (hk : k ≤ 1920) : Tl 0 (k + 1) (.int i) := by
  refine ⟨by simp only [PyData.showable, decide_eq_true_eq]; omega, ?_, Nat.le_refl _⟩
  simp only [PyData.shown]
  rw [ofString_length]
  exact int_text_length_le (k := k) h0 h
theorem rep1 {α : Type} (a : α) : ∀ k : Nat, (List.replicate k [a]).flatten = List.replicate k a
  | 0 => rfl
  | k + 1 => by rw [List.replicate_succ, List.flatten_cons, rep1 a k, List.replicate_succ]; rfl
end Ds
namespace Ds
open PySem L2
/-- the slots written out -/
theorem seq_at {f g : DS} {D : DEnds} {ρ : List T} (ρ' : List T) (h : ρ = ρ') (q : f { D with nx := fun ρ1 => g D ρ1 } ρ') : dSeq f g D ρ := by rw [h]; exact ⟨q⟩
theorem lc_pureA {i : Nat} {tt : DTt} {fe : DE} {K : List D → List T → Prop} {its : List T} {ρ : List T} (its' : List T) (ρ' : List T) (h1 : its = its') (h2 : ρ = ρ') (sel : T → Option D) (hw : ρ'.set i .emp = ρ') (hl : its'.length ≤ sizeLine)
    (he : ∀ t, t ∈ its' → noAli t = true ∧ ∀ (P : T → List T → Prop) (R : List T → Prop), (∀ d y, sel t = some d → frz y = some d → P y (ρ'.set i t)) → (sel t = none → R (ρ'.set i t)) → tt (ρ'.set i t) fun b ρ2 => br b (fe ρ2 P) (R ρ2))
    (hk : K (its'.filterMap sel) ρ') : dLcGo (dgName i) tt fe [i] K its [] ρ := by
  subst h1 h2
  exact lc_pure sel hw hl he hk
end Ds
namespace Ds
open PySem L2
theorem want_scr {K : PySem.W.Frag} {spd : DSp} {H : Hp} {a : Addr} {ns : List Int} (hO : Only H) (hS : SqL K H a (ns.map V.int)) (h : ∀ Q W, Q (.dat (.bool true)) .emp → spd [.scr ns] Q W) (hm : Mono spd) :
    toSp K 1 none spd [.ref a] H (fun v _ => v = .bl true) fun _ _ _ => False := by
  have sb : SB K (fun b => b ∈ ([] : List Addr) ∨ False) H a (ns.map V.int) := by
    rcases hS with z | z
    · refine .inl ⟨?_, by simp⟩
      rcases z with z | z
      · rcases hO a with q | ⟨o, xs, q⟩
        · rw [z] at q; cases q
        · rw [z] at q; cases q
      · exact z
    · exact .inr z
  refine ⟨fun _ => False, [.scr ns], [], rfl, ⟨rfl, rfl, fun j t e => ?_, List.nodup_nil, fun _ z => by simp at z, fun _ z => by simp at z, fun _ z => z.elim⟩, ?_⟩
  · cases j with
    | zero =>
      simp at e
      subst e
      exact ⟨.ref a, rfl, .scr sb⟩
    | succ j => simp at e
  · refine hm _ (fun r t' => r = .dat (.bool true)) _ (fun _ _ => False) _ (fun r t' hr v H' Po => ?_) (fun ex t' z => z.elim) (h _ _ rfl)
    subst hr
    obtain ⟨go, ro, h1, _⟩ := Po.ex
    exact h1.dat_inv.bool_eq
theorem noX {P : Program} {w : World} {H : Hp} {s : Shared} {e : Value} {s' : Shared} (h : L2.CX P w [] H s (fun _ _ _ => False) e s') : False := by
  obtain ⟨_, _, _, _, _, _, _, _, _, _, _, _, z⟩ := h
  exact z
/-- the head, of one def `law(script)` -/
theorem walkD {l : PySem.W.OpenLaw} {k : Nat} {q : Program} {loose : List Str} {XP : (Str → Option Value) → Heap → Prop} {YP : World → Heap → Prop} {d : PySem.DefRec} {K : Params → PySem.W.Frag} {spd : DSp} (hn : l.most = some 63) (hdf : d.params.defaults = []) (room : RoomG k callerA)
    (hY : ∀ (w : World) (h : Heap), YP w h → (K w.params).In h) (hm : Mono spd) (hspd : ∀ (ns : List Int) Q W, ns.length ≤ 63 → Q (.dat (.bool true)) .emp → spd [.scr ns] Q W)
    (F : ∀ (w : World) (mg : Str → Option Value) (fa : Addr) (h : Heap), (K w.params).In h → h.Ns mainGlobals mg → mg d.name = some (.ref fa) → ∃ fd : FuncData, (∀ (s : Shared) (u : Value), BindsTo s fd ⟨[u], []⟩ [("script", u)]) ∧
      ∀ base : Heap, (K w.params).In base → base.Ns mainGlobals mg → FnG l.prog w (K w.params) mg base k fa fd ["script"] (toSp (K w.params) 1 none spd)) : PySem.W.WalkO q loose XP YP l.row.toRowW d [] (fun f vs => PySem.call f vs) :=
  walkG hn (by decide) hdf room hY (sp := fun w => toSp (K w.params) 1 none spd) F (fun w H a ns hl _ hO hS => want_scr hO hS (fun Q W h => hspd ns Q W hl h) hm) fun w H s e s' z => noX z
end Ds
namespace Ds
open PySem L2
theorem lc_gen {α : Type} {g : DG} {tt : DTt} {fe : DE} {own : List Nat} {K : List D → List T → Prop} {ρ : List T} (its : List α) (tg : α → T) (st : α → List T) (p : α → Bool) (gv : α → D) (hs : ∀ a ∈ its, wipeT (st a) own = ρ)
    (hg : ∀ a ∈ its, ∀ Q : List T → Prop, Q (st a) → g (tg a) ρ Q) (hl : its.length ≤ sizeLine)
    (he : ∀ a ∈ its, ∀ (P : T → List T → Prop) (R : List T → Prop), (p a = true → ∀ y, frz y = some (gv a) → P y (st a)) → (p a = false → R (st a)) → tt (st a) fun b ρ2 => br b (fe ρ2 P) (R ρ2))
    (hk : K ((its.filter p).map gv) ρ) : dLcGo g tt fe own K (its.map tg) [] ρ := by
  have go : ∀ (l pre : List α), its = pre ++ l → dLcGo g tt fe own K (l.map tg) ((pre.filter p).map gv) ρ := by
    intro l
    induction l with
    | nil => intro pre e; rw [List.append_nil] at e; subst e; exact hk
    | cons a l ih =>
      intro pre e
      have ha : a ∈ its := by rw [e]; simp
      have hn := ih (pre ++ [a]) (by rw [e]; simp)
      show g (tg a) ρ _
      refine hg a ha _ (he a ha _ _ (fun hp y hy => wD_i hy ⟨?_, ?_⟩) fun hp => ?_)
      · have h1 : ((pre.filter p).map gv).length ≤ pre.length := by rw [List.length_map]; exact List.length_filter_le ..
        have h2 := congrArg List.length e
        simp at h2
        omega
      · rw [hs a ha]
        rw [List.filter_append, List.map_append, List.filter_cons, if_pos hp] at hn
        exact hn
      · rw [hs a ha]
        rw [List.filter_append, List.map_append, List.filter_cons, if_neg (by rw [hp]; decide)] at hn
        rw [show ((List.filter p []).map gv) = [] from rfl, List.append_nil] at hn
        exact hn
  exact go its [] rfl
theorem filter_true {α : Type} (l : List α) : l.filter (fun _ => true) = l := List.filter_eq_self.mpr fun _ _ => rfl
theorem filter_no {α : Type} (l : List α) : l.filter (fun _ => false) = [] := by simp
theorem dgn_i {i : Nat} {t : T} {ρ : List T} (na : noAli t = true) {Q : List T → Prop} (h : Q (ρ.set i t)) : dgName i t ρ Q := by
  show match noAli t with | true => Q (ρ.set i t) | false => False
  rw [na]; exact h
/-- one name, no test -/
theorem lc_mp {α : Type} {i : Nat} {fe : DE} {K : List D → List T → Prop} {ρ : List T} (its : List α) (tg : α → T) (gv : α → D) (hw : ρ.set i .emp = ρ) (hl : its.length ≤ sizeLine) (na : ∀ a ∈ its, noAli (tg a) = true)
    (he : ∀ a ∈ its, ∀ P : T → List T → Prop, (∀ y, frz y = some (gv a) → P y (ρ.set i (tg a))) → fe (ρ.set i (tg a)) P) (hk : K (its.map gv) ρ) : dLcGo (dgName i) dYes fe [i] K (its.map tg) [] ρ :=
  lc_gen its tg (fun a => ρ.set i (tg a)) (fun _ => true) gv (fun a _ => by show (ρ.set i (tg a)).set i .emp = ρ; rw [List.set_set, hw]) (fun a ha Q h => dgn_i (na a ha) h) hl
    (fun a ha P R hp _ => br_t rfl (he a ha P fun y hy => hp rfl y hy)) (by rw [filter_true]; exact hk)
/-- one name, a test -/
theorem lc_fl {α : Type} {i : Nat} {tt : DTt} {fe : DE} {K : List D → List T → Prop} {ρ : List T} (its : List α) (tg : α → T) (p : α → Bool) (gv : α → D) (hw : ρ.set i .emp = ρ) (hl : its.length ≤ sizeLine) (na : ∀ a ∈ its, noAli (tg a) = true)
    (he : ∀ a ∈ its, ∀ (P : T → List T → Prop) (R : List T → Prop), (p a = true → ∀ y, frz y = some (gv a) → P y (ρ.set i (tg a))) → (p a = false → R (ρ.set i (tg a))) → tt (ρ.set i (tg a)) fun b ρ2 => br b (fe ρ2 P) (R ρ2))
    (hk : K ((its.filter p).map gv) ρ) : dLcGo (dgName i) tt fe [i] K (its.map tg) [] ρ :=
  lc_gen its tg (fun a => ρ.set i (tg a)) p gv (fun a _ => by show (ρ.set i (tg a)).set i .emp = ρ; rw [List.set_set, hw]) (fun a ha Q h => dgn_i (na a ha) h) hl he hk
/-- two names -/
theorem dgt2_i {i j : Nat} {t x y : T} {ρ : List T} (na : noAli t = true) (e : partsT t = some [x, y]) (nx : noAli x = true) (ny : noAli y = true) {Q : List T → Prop} (h : Q ((ρ.set i x).set j y)) : (Tgt.many [i, j]).d t ρ Q := by
  show match noAli t with | true => wO (partsT t) fun ts => ts.length = 2 ∧ dgNs [i, j] ts ρ Q | false => False
  rw [na]
  refine wO_i e ⟨rfl, ?_⟩
  exact dgn_i (Q := fun ρ1 => dgNs [j] [y] ρ1 Q) nx (dgn_i (Q := fun ρ1 => dgNs [] [] ρ1 Q) ny h)
theorem lc_mp2 {α : Type} {i j : Nat} {fe : DE} {K : List D → List T → Prop} {ρ : List T} (its : List α) (tg x y : α → T) (gv : α → D) (hw : (ρ.set j .emp).set i .emp = ρ) (hij : i ≠ j) (hl : its.length ≤ sizeLine) (na : ∀ a ∈ its, noAli (tg a) = true ∧ partsT (tg a) = some [x a, y a] ∧ noAli (x a) = true ∧ noAli (y a) = true)
    (he : ∀ a ∈ its, ∀ P : T → List T → Prop, (∀ z, frz z = some (gv a) → P z ((ρ.set i (x a)).set j (y a))) → fe ((ρ.set i (x a)).set j (y a)) P) (hk : K (its.map gv) ρ) : dLcGo (Tgt.many [i, j]).d dYes fe [i, j] K (its.map tg) [] ρ :=
  lc_gen its tg (fun a => (ρ.set i (x a)).set j (y a)) (fun _ => true) gv (fun a _ => by
    show ((((ρ.set i (x a)).set j (y a)).set j .emp).set i .emp) = ρ
    rw [List.set_set, List.set_comm _ _ hij, List.set_set]
    rw [List.set_comm _ _ (Ne.symm hij)] at hw ⊢
    first | exact hw | (rw [List.set_comm _ _ hij] at hw; exact hw) | (rw [List.set_comm _ _ hij]; exact hw)) (fun a ha Q h => dgt2_i (na a ha).1 (na a ha).2.1 (na a ha).2.2.1 (na a ha).2.2.2 h) hl
    (fun a ha P R hp _ => br_t rfl (he a ha P fun y hy => hp rfl y hy)) (by rw [filter_true]; exact hk)
theorem lc_fl2 {α : Type} {i j : Nat} {tt : DTt} {fe : DE} {K : List D → List T → Prop} {ρ : List T} (its : List α) (tg x y : α → T) (p : α → Bool) (gv : α → D) (hw : (ρ.set j .emp).set i .emp = ρ) (hij : i ≠ j) (hl : its.length ≤ sizeLine) (na : ∀ a ∈ its, noAli (tg a) = true ∧ partsT (tg a) = some [x a, y a] ∧ noAli (x a) = true ∧ noAli (y a) = true)
    (he : ∀ a ∈ its, ∀ (P : T → List T → Prop) (R : List T → Prop), (p a = true → ∀ z, frz z = some (gv a) → P z ((ρ.set i (x a)).set j (y a))) → (p a = false → R ((ρ.set i (x a)).set j (y a))) → tt ((ρ.set i (x a)).set j (y a)) fun b ρ2 => br b (fe ρ2 P) (R ρ2))
    (hk : K ((its.filter p).map gv) ρ) : dLcGo (Tgt.many [i, j]).d tt fe [i, j] K (its.map tg) [] ρ :=
  lc_gen its tg (fun a => (ρ.set i (x a)).set j (y a)) p gv (fun a _ => by
    show ((((ρ.set i (x a)).set j (y a)).set j .emp).set i .emp) = ρ
    rw [List.set_set, List.set_comm _ _ hij, List.set_set]
    rw [List.set_comm _ _ (Ne.symm hij)] at hw ⊢
    first | exact hw | (rw [List.set_comm _ _ hij] at hw; exact hw) | (rw [List.set_comm _ _ hij]; exact hw)) (fun a ha Q h => dgt2_i (na a ha).1 (na a ha).2.1 (na a ha).2.2.1 (na a ha).2.2.2 h) hl he hk
/-- a loop over a mapped list, by what has been taken -/
theorem for_pre {α : Type} {g : DG} {f : DS} {D : DEnds} {ρ : List T} (its : List α) (tg : α → T) (Pv : List α → List T → Prop) (h0 : Pv [] ρ)
    (hs : ∀ pre a post ρ (K : List T → Prop), its = pre ++ a :: post → Pv pre ρ → (∀ ρ', Pv (pre ++ [a]) ρ' → K ρ') → g (tg a) ρ fun ρ1 => f { D with nx := K, ct := K, bk := D.nx } ρ1) (hd : ∀ ρ, Pv its ρ → D.nx ρ) : dFor g f D (its.map tg) ρ := by
  have go : ∀ (l pre : List α) (ρ : List T), its = pre ++ l → Pv pre ρ → dFor g f D (l.map tg) ρ := by
    intro l
    induction l with
    | nil => intro pre ρ e p; rw [List.append_nil] at e; subst e; exact hd ρ p
    | cons a l ih =>
      intro pre ρ e p
      exact hs pre a l ρ (fun ρ2 => dFor g f D (l.map tg) ρ2) e p fun ρ' p' => ih (pre ++ [a]) ρ' (by rw [e]; simp) p'
  exact go its [] ρ rfl h0
theorem FnG.never {P : Program} {w : World} {K : PySem.W.Frag} {mg : Str → Option Value} {base : Heap} {k n : Nat} {f : Addr} {fd : FuncData} {ps : List Str} {ln : Option Nat} {spd : DSp} (h : ∀ ts Q W, ¬ spd ts Q W) : FnG P w K mg base k f fd ps (toSp K n ln spd) :=
  ⟨fun _ _ _ _ ⟨_, _, _, _, _, z⟩ => (h _ _ _ z).elim, fun _ _ _ _ _ _ _ _ _ _ _ _ _ ⟨_, _, _, _, _, z⟩ => (h _ _ _ z).elim⟩
/-! ### sizes of texts, by lists -/
def TlA (k n m : Nat) (xs : List D) : Prop := (∀ x ∈ xs, Tl k n x) ∧ xs.length ≤ m
theorem TlA.nil {k n m : Nat} : TlA k n m [] := ⟨by simp, Nat.zero_le _⟩
theorem TlA.cons {k n m : Nat} {x : D} {xs : List D} (h : Tl k n x) (t : TlA k n m xs) : TlA k n (m + 1) (x :: xs) :=
  ⟨fun y hy => by rcases List.mem_cons.mp hy with rfl | hy; exact h; exact t.1 y hy, by have := t.2; simp; omega⟩
theorem TlA.append {k n a b : Nat} {xs ys : List D} (h : TlA k n a xs) (t : TlA k n b ys) : TlA k n (a + b) (xs ++ ys) :=
  ⟨fun y hy => (List.mem_append.mp hy).elim (h.1 y) (t.1 y), by have := h.2; have := t.2; simp; omega⟩
theorem TlA.mono {k n m k' n' m' : Nat} {xs : List D} (h : TlA k n m xs) (hk : k ≤ k') (hn : n ≤ n') (hm : m ≤ m') : TlA k' n' m' xs := ⟨fun x hx => (h.1 x hx).mono hk hn, Nat.le_trans h.2 hm⟩
theorem TlA.map {α : Type} {k n m : Nat} {f : α → D} {l : List α} (h : ∀ a ∈ l, Tl k n (f a)) (hl : l.length ≤ m) : TlA k n m (l.map f) :=
  ⟨fun y hy => by obtain ⟨a, ha, rfl⟩ := List.mem_map.mp hy; exact h a ha, by simpa using hl⟩
theorem TlA.take {k n m : Nat} {xs : List D} (h : TlA k n m xs) (j : Nat) : TlA k n m (xs.take j) := ⟨fun y hy => h.1 y (List.mem_of_mem_take hy), by have := h.2; simp; omega⟩
theorem TlA.drop {k n m : Nat} {xs : List D} (h : TlA k n m xs) (j : Nat) : TlA k n m (xs.drop j) := ⟨fun y hy => h.1 y (List.mem_of_mem_drop hy), by have := h.2; simp; omega⟩
theorem TlA.rep {k n : Nat} {x : D} (h : Tl k n x) (c : Nat) : TlA k n c (List.replicate c x) := ⟨fun y hy => by rw [List.eq_of_mem_replicate hy]; exact h, by simp⟩
theorem TlA.repl {k n : Nat} {x : D} (h : Tl k n x) (c : Nat) : TlA k n c (List.replicate c [x]).flatten := by rw [rep1]; exact TlA.rep h c
theorem TlA.list {k n m : Nat} {xs : List D} (h : TlA k n m xs) : Tl (k + 1) (m * (n + 2) + 3) (.list xs) := Tl.list h.1 h.2
theorem TlA.tuple {k n m : Nat} {xs : List D} (h : TlA k n m xs) : Tl (k + 1) (m * (n + 2) + 3) (.tuple xs) := Tl.tuple h.1 h.2
/-- lists and tuples at once -/
theorem TlA.listM {k n m k' n' : Nat} {xs : List D} (h : TlA k n m xs) (hk : k + 1 ≤ k') (hn : m * (n + 2) + 3 ≤ n') : Tl k' n' (.list xs) := h.list.mono hk hn
theorem TlA.tupleM {k n m k' n' : Nat} {xs : List D} (h : TlA k n m xs) (hk : k + 1 ≤ k') (hn : m * (n + 2) + 3 ≤ n') : Tl k' n' (.tuple xs) := h.tuple.mono hk hn
theorem Tl.intB {i : Int} (n : Nat) {k : Nat} (h0 : -(2 ^ n) < i) (h1 : i < 2 ^ n) (hn : 0 < n) (hn2 : n ≤ 1920) (hk : n + 1 ≤ k) : Tl 0 k (.int i) := by
  refine (Tl.int (k := n) ?_ hn hn2).mono (Nat.le_refl _) hk
  have : i.natAbs < 2 ^ n := by
    have e : ((2 ^ n : Nat) : Int) = (2 : Int) ^ n := by simp
    omega
  rcases Nat.eq_zero_or_pos i.natAbs with z | z
  · rw [z]; exact hn
  · exact (Nat.log2_lt (by omega)).mpr this
/-! ### what == may be asked of -/
structure Lay (k : Nat) (d : D) : Prop where
  cl : d.canLay0 = true
  dp : d.depth ≤ k
theorem Lay.int {i : Int} {k : Nat} : Lay k (.int i) := ⟨rfl, Nat.zero_le _⟩
theorem Lay.bool {i : Bool} {k : Nat} : Lay k (.bool i) := ⟨rfl, Nat.zero_le _⟩
theorem Lay.str {i : Str} {k : Nat} (h : (PyData.str i).canLay0 = true) : Lay k (.str i) := ⟨h, Nat.zero_le _⟩
theorem Lay.none {k : Nat} : Lay k .none := ⟨rfl, Nat.zero_le _⟩
theorem lay_all {k : Nat} : ∀ {xs : List D}, (∀ x ∈ xs, Lay k x) → PyData.canLayAll0 xs = true ∧ PyData.depthAll xs ≤ k
  | [], _ => ⟨rfl, Nat.zero_le _⟩
  | x :: xs, h => by
    obtain ⟨h1, h2⟩ := lay_all (xs := xs) fun y hy => h y (List.mem_cons_of_mem _ hy)
    have q := h x (List.mem_cons_self ..)
    have q2 := q.dp
    refine ⟨by simp only [PyData.canLayAll0, q.cl, h1, Bool.and_self], ?_⟩
    simp only [PyData.depthAll]; omega
theorem Lay.list {k : Nat} {xs : List D} (h : ∀ x ∈ xs, Lay k x) : Lay (k + 1) (.list xs) := by
  obtain ⟨h1, h2⟩ := lay_all h
  exact ⟨by simp only [PyData.canLay0, h1], by simp only [PyData.depth]; omega⟩
theorem Lay.tuple {k : Nat} {xs : List D} (h : ∀ x ∈ xs, Lay k x) : Lay (k + 1) (.tuple xs) := by
  obtain ⟨h1, h2⟩ := lay_all h
  exact ⟨by simp only [PyData.canLay0, h1], by simp only [PyData.depth]; omega⟩
theorem Lay.mono {j k : Nat} {d : D} (h : Lay j d) (hk : j ≤ k) : Lay k d := ⟨h.cl, Nat.le_trans h.dp hk⟩
theorem Lay.shaped {k : Nat} {d : D} (h : Lay k d) (hk : k ≤ 64) : SeqAt.shaped d = true := by
  simp only [SeqAt.shaped, h.cl, Bool.true_and]; exact decide_eq_true (Nat.le_trans h.dp hk)
theorem Lay.intL {ns : List Int} : Lay 1 (.list (ns.map .int)) := .list fun x hx => by obtain ⟨_, _, rfl⟩ := List.mem_map.mp hx; exact .int
theorem Lay.intT {ns : List Int} : Lay 1 (.tuple (ns.map .int)) := .tuple fun x hx => by obtain ⟨_, _, rfl⟩ := List.mem_map.mp hx; exact .int
end Ds
namespace Ds
open PySem L2
def dLc2Go (g : DG) (tt : DTt) (fi1 : DI) (g1 : DG) (tt1 : DTt) (fe : DE) (own own1 : List Nat) (K : List D → List T → Prop) : List T → List D → List T → Prop
  | [], acc, ρ => K acc ρ
  | t :: its, acc, ρ => g t ρ fun ρ1 => tt ρ1 fun b ρ2 => br b (fi1 ρ2 fun its1 ρ3 => dLcGo g1 tt1 fe own1 (fun acc' ρ4 => dLc2Go g tt fi1 g1 tt1 fe own own1 K its acc' (wipeT ρ4 own)) its1 acc (wipeT ρ3 own1)) (dLc2Go g tt fi1 g1 tt1 fe own own1 K its acc (wipeT ρ2 own))
def dLc2 (fi : DI) (g : DG) (tt : DTt) (fi1 : DI) (g1 : DG) (tt1 : DTt) (fe : DE) (own own1 : List Nat) : DE := fun ρ Q => fi ρ fun its ρ1 => dLc2Go g tt fi1 g1 tt1 fe own own1 (fun ds ρ2 => Q (.own ds) ρ2) its [] (wipeT ρ1 own)
section
variable {C : Ctx}
def derI (C : Ctx) (f : DI) : TI := fun σ H R => ∃ (ρ : List T) (vs : List V) (τ : List T) (Qd : List T → List T → Prop), SS C σ H ρ vs τ ∧ f ρ Qd ∧ ∀ J H' sv sx its ρ', SS C σ H' ρ' (vs ++ sv) (τ ++ sx) → noAliL sx = true → WalksD C J sv sx its → Qd its ρ' → R J H'
theorem SS.blk {σ : St} {H : Hp} {ρ : List T} {vs : List V} {τ : List T} {s : Shared} {H1 : Hp} {scope : Scope} {Cc : Addr} {cl : List (Str × Addr)} {fp : List Addr} (I : SS C σ H ρ vs τ) : SS (C.blk s H1 scope Cc cl fp) σ H ρ vs τ := let ⟨ow, J⟩ := I; ⟨ow, J.blk⟩
theorem SS.unblk {σ : St} {H : Hp} {ρ : List T} {vs : List V} {τ : List T} {s : Shared} {H1 : Hp} {scope : Scope} {Cc : Addr} {cl : List (Str × Addr)} {fp : List Addr} (I : SS (C.blk s H1 scope Cc cl fp) σ H ρ vs τ) : SS C σ H ρ vs τ := let ⟨ow, J⟩ := I; ⟨ow, J.unblk⟩
theorem pi_der {s : Shared} {H : Hp} {Cc : Addr} {cl : List (Str × Addr)} {fp : List Addr} {scope : Scope} {tg it : Expr} {f : DI} (h : DPI (C.blk s H scope Cc cl fp) tg it f) : PI (C.blk s H scope Cc cl fp).X tg it (derI C f) :=
  let ⟨_, p, sm⟩ := h.ex
  ⟨fun pins s1 σ H1 R I ⟨ρ, vs, τ, Qd, J, q, k⟩ => p.run pins s1 σ H1 R I (sm σ H1 ρ vs τ Qd R J.blk q fun J' H' sv sx its ρ' I' na wk q' => k J' H' sv sx its ρ' I'.unblk na (fun i σ H ρ vs τ hτ I => ⟨(wk i σ H ρ vs τ hτ I.blk).1, fun t e => ⟨((wk i σ H ρ vs τ hτ I.blk).2 t e).1, fun w H' hy => (((wk i σ H ρ vs τ hτ I.blk).2 t e).2 w H' hy).unblk⟩⟩) q')⟩
variable {elt tge iter tge1 iter1 : Expr} {ifs ifs1 : List Expr} {scope : Scope} {own : List (Str × Nat)} {os1 : List Nat} {pos : Pos} {fi fi1 : DI} {tt tt1 : DTt} {fe : DE} {tg tg1 : Tgt}
theorem sim_lc2 {wi : TI} (hi : SimI C wi fi) (h1 : ∀ i ∈ tg.sl, i ∈ own.map (·.2)) (h2 : ∀ i ∈ own.map (·.2), i ∉ C.lent ∧ i ∈ C.cv) (h3 : ∀ i ∈ tg1.sl, i ∈ os1) (h4 : ∀ i ∈ os1, i ∈ own.map (·.2)) :
    Sim C (tLc2 wi (tg.g C.K) (derT C tt) (derI C fi1) (tg1.g C.K) (derT C tt1) (derE C fe) (own.map (·.2)) os1) (dLc2 fi tg.d tt fi1 tg1.d tt1 fe (own.map (·.2)) os1) := fun σ H ρ vs τ Qd Q I h k => hi σ H ρ vs τ _ _ I h fun J H1 sv sx its ρ1 I1 nx wk q A hD => by
  let os := own.map (·.2)
  have hτ := I.ltE
  have hsx : sx.length = sv.length := by have := I1.ltE; simp at this; omega
  have hc : ∀ i ∈ os, i ∈ C.cv := fun i hi => (h2 i hi).2
  have hl : ∀ i ∈ os, i ∉ C.lent := fun i hi => (h2 i hi).1
  have hc1 : ∀ i ∈ os1, i ∈ C.cv := fun i hi => hc i (h4 i hi)
  have hl1 : ∀ i ∈ os1, i ∉ C.lent := fun i hi => hl i (h4 i hi)
  -- the new list under the sources
  have I2 : SS C σ (upd H1 A (.lst [])) (wipeT ρ1 os) (vs ++ [.ref A] ++ sv) (τ ++ [.own []] ++ sx) := by
    obtain ⟨ow, J1⟩ := id I1
    have J2 : SS C σ (upd H1 A (.lst [])) ρ1 (vs ++ sv ++ [.ref A]) (τ ++ sx ++ [.own []]) := by
      have J1' : SI C σ H1 ρ1 (vs ++ sv ++ []) (τ ++ sx ++ []) ow := by simpa using J1
      exact J1'.newL J1.lt hD .nil
    have J3 := SS.under (vs := vs) (τ := τ) (sv := sv) (sx := sx) hsx (sv2 := []) (sx2 := []) rfl (by simpa using J2)
    have J4 : SS C σ (upd H1 A (.lst [])) ρ1 (vs ++ [.ref A] ++ sv) (τ ++ [.own []] ++ sx) := by simpa using J3
    exact J4.toW rfl hc hl
  let G : List T → List D → List T → Prop := dLc2Go tg.d tt fi1 tg1.d tt1 fe os os1 (fun ds ρ2 => Qd (.own ds) ρ2)
  have hτ2 : (τ ++ [T.own []]).length = (vs ++ [V.ref A]).length := by simp [hτ]
  refine ⟨fun i m H => m = its.length - i ∧ i ≤ its.length ∧ ∃ acc ρ, SS C σ H ρ (vs ++ [.ref A] ++ sv) (τ ++ [.own acc] ++ sx) ∧ wipeT ρ os = ρ ∧ G (its.drop i) acc ρ, ⟨_, rfl, Nat.zero_le _, [], _, I2, wipeT_idem _ _, q⟩, ?_⟩
  rintro i m H3 ⟨rfl, hle, acc, ρ3, I3, hw3, q3⟩
  have hτ3 : (τ ++ [T.own acc]).length = (vs ++ [V.ref A]).length := by simp [hτ]
  have I3w : SS C (wipe σ os) H3 ρ3 (vs ++ [.ref A] ++ sv) (τ ++ [.own acc] ++ sx) := by
    have := I3.toW (σ := wipe σ os) (own := os) (wipe_idem σ os).symm hc hl
    rwa [hw3] at this
  obtain ⟨st, go⟩ := wk i (wipe σ os) H3 ρ3 (vs ++ [.ref A]) (τ ++ [.own acc]) hτ3 I3w
  by_cases hlt : i < its.length
  · have e : its[i]? = some its[i] := List.getElem?_eq_getElem hlt
    obtain ⟨g1, y⟩ := go _ e
    let Nx : Hp → Prop := fun H' => ∃ acc ρ, SS C σ H' ρ (vs ++ [.ref A] ++ sv) (τ ++ [.own acc] ++ sx) ∧ wipeT ρ os = ρ ∧ G (its.drop (i + 1)) acc ρ
    refine .inr ⟨g1, Nx, fun H' ⟨acc, ρ', I', hw', q'⟩ => ⟨_, by omega, rfl, by omega, acc, ρ', I', hw', q'⟩, fun w H4 hy => ?_⟩
    have I4 := y w H4 hy
    rw [List.drop_eq_getElem_cons hlt] at q3
    have back : ∀ {σ2 : St} {H5 : Hp} {ρ5 : List T} {acc5 : List D}, wipe σ2 os = wipe σ os → SS C σ2 H5 ρ5 (vs ++ [.ref A] ++ sv) (τ ++ [.own acc5] ++ sx) → G (its.drop (i + 1)) acc5 (wipeT ρ5 os) → Nx H5 := fun {σ2 H5 ρ5 acc5} hw I5 q5 => ⟨acc5, _, I5.toW hw hc hl, wipeT_idem _ _, q5⟩
    have inner : ∀ (σ5 : St) (hw : wipe σ5 os = wipe σ os) (H6 : Hp) (ρ6 : List T), SS C σ5 H6 ρ6 (vs ++ [.ref A] ++ sv) (τ ++ [.own acc] ++ sx) → (fi1 ρ6 fun its1 ρ3 => dLcGo tg1.d tt1 fe os1 (fun acc' ρ4 => G (its.drop (i + 1)) acc' (wipeT ρ4 os)) its1 acc (wipeT ρ3 os1)) →
        derI C fi1 σ5 H6 fun J1 H4 => ∃ W1 : Nat → Nat → Hp → Prop, (∃ m, W1 0 m H4) ∧ ∀ j k H, W1 j k H →
          (J1.stop j H ∧ Nx H) ∨ (J1.go j H ∧ ∃ Nx1 : Hp → Prop, (∀ H', Nx1 H' → ∃ k', k' < k ∧ W1 (j + 1) k' H') ∧ ∀ x H', J1.yld j H x H' → tg1.g C.K x (wipe σ5 os1) H' fun σ3 H5 => wipe σ3 os1 = wipe σ5 os1 ∧ derT C tt1 σ3 H5 fun b H6 =>
            if b = true then derE C fe σ3 H6 fun y H7 => ∃ acc, H7 A = some (.lst acc) ∧ acc.length < sizeLine ∧ Nx1 (upd H7 A (.lst (acc ++ [y]))) else Nx1 H6) := by
      intro σ5 hw H6 ρ6 I6 q6
      refine ⟨ρ6, _, _, _, I6, q6, fun J1 H7 sv1 sx1 its1 ρ7 I7 nx1 wk1 q7 => ?_⟩
      let G1 : List T → List D → List T → Prop := dLcGo tg1.d tt1 fe os1 (fun acc' ρ4 => G (its.drop (i + 1)) acc' (wipeT ρ4 os))
      have hs1 : sx1.length = sv1.length := by have := I7.ltE; simp at this; omega
      refine ⟨fun j k H => k = its1.length - j ∧ j ≤ its1.length ∧ ∃ acc ρ, SS C σ5 H ρ (vs ++ [.ref A] ++ sv ++ sv1) (τ ++ [.own acc] ++ sx ++ sx1) ∧ wipeT ρ os1 = ρ ∧ G1 (its1.drop j) acc ρ, ⟨_, rfl, Nat.zero_le _, acc, _, I7.toW rfl hc1 hl1, wipeT_idem _ _, q7⟩, ?_⟩
      rintro j kk H8 ⟨rfl, hle1, acc8, ρ8, I8, hw8, q8⟩
      have hτ8 : (τ ++ [T.own acc8] ++ sx).length = (vs ++ [V.ref A] ++ sv).length := by simp [hτ, hsx]
      have I8w : SS C (wipe σ5 os1) H8 ρ8 (vs ++ [.ref A] ++ sv ++ sv1) (τ ++ [.own acc8] ++ sx ++ sx1) := by
        have := I8.toW (σ := wipe σ5 os1) (own := os1) (wipe_idem σ5 os1).symm hc1 hl1
        rwa [hw8] at this
      obtain ⟨st1, go1⟩ := wk1 j (wipe σ5 os1) H8 ρ8 (vs ++ [.ref A] ++ sv) (τ ++ [.own acc8] ++ sx) hτ8 I8w
      by_cases hlt1 : j < its1.length
      · have e1 : its1[j]? = some its1[j] := List.getElem?_eq_getElem hlt1
        obtain ⟨g2, y1⟩ := go1 _ e1
        let Nx1 : Hp → Prop := fun H' => ∃ acc ρ, SS C σ5 H' ρ (vs ++ [.ref A] ++ sv ++ sv1) (τ ++ [.own acc] ++ sx ++ sx1) ∧ wipeT ρ os1 = ρ ∧ G1 (its1.drop (j + 1)) acc ρ
        refine .inr ⟨g2, Nx1, fun H' ⟨acc, ρ', I', hw', q'⟩ => ⟨_, by omega, rfl, by omega, acc, ρ', I', hw', q'⟩, fun w1 H9 hy1 => ?_⟩
        have I9 := y1 w1 H9 hy1
        rw [List.drop_eq_getElem_cons hlt1] at q8
        have back1 : ∀ {σ2 : St} {H5 : Hp} {ρ5 : List T} {acc5 : List D}, wipe σ2 os1 = wipe σ5 os1 → SS C σ2 H5 ρ5 (vs ++ [.ref A] ++ sv ++ sv1) (τ ++ [.own acc5] ++ sx ++ sx1) → G1 (its1.drop (j + 1)) acc5 (wipeT ρ5 os1) → Nx1 H5 := fun {σ2 H5 ρ5 acc5} hw I5 q5 => ⟨acc5, _, I5.toW hw hc1 hl1, wipeT_idem _ _, q5⟩
        have hgo := Tgt.sim (C := C) (tg := tg1) (fun i hi => h2 i (h4 i (h3 i hi))) (wipe σ5 os1) H9 ρ8 _ _ w1 its1[j] _ (fun σ2 H2 => ∀ (hw : wipe σ2 os1 = wipe σ5 os1), derT C tt1 σ2 H2 fun b H3 => if b = true then derE C fe σ2 H3 fun y H4 => ∃ acc, H4 A = some (.lst acc) ∧ acc.length < sizeLine ∧ Nx1 (upd H4 A (.lst (acc ++ [y]))) else Nx1 H3) I9 (tgd_na q8) q8 fun σA HA ρA IA qA hwA => ⟨ρA, _, _, _, IA, qA, fun b HB ρB IB qB => ?_⟩
        · have hon := Tgt.only (K := C.K) (own := os1) h3 hgo
          exact tgt_mono hon fun σ' H' ⟨hq, hw⟩ => ⟨by rw [hw, wipe_idem], hq (by rw [hw, wipe_idem])⟩
        · cases b with
          | true =>
            rw [if_pos rfl]
            refine ⟨ρB, _, _, _, IB, qB.t rfl, fun v7 HC x7 ρC IC qC => ?_⟩
            obtain ⟨d, ed, hlen, qC⟩ := wD_some qC
            have IC' : SS C σA HC ρC (vs ++ [.ref A] ++ (sv ++ sv1) ++ [v7]) (τ ++ [.own acc8] ++ (sx ++ sx1) ++ [x7]) := by simpa using IC
            obtain ⟨zs, hz, hzl, ID⟩ := IC'.grow hτ ed
            exact ⟨zs, hz, by omega, back1 hwA (by simpa using ID) qC⟩
          | false =>
            rw [if_neg (by decide)]
            exact back1 hwA IB (qB.f rfl)
      · have e1 : j = its1.length := by omega
        subst e1
        rw [List.drop_length] at q8
        exact .inl ⟨st1 (Nat.le_refl _), back hw (I8.drop hτ8) q8⟩
    have hgo := Tgt.sim (C := C) (tg := tg) (fun i hi => h2 i (h1 i hi)) (wipe σ os) H4 ρ3 _ _ w its[i] _ (fun σ2 H2 => ∀ (hw : wipe σ2 os = wipe σ os), derT C tt σ2 H2 fun b H3 => if b = true then (derI C fi1 σ2 H3 fun J1 H4 => ∃ W1 : Nat → Nat → Hp → Prop, (∃ m, W1 0 m H4) ∧ ∀ j k H, W1 j k H →
          (J1.stop j H ∧ Nx H) ∨ (J1.go j H ∧ ∃ Nx1 : Hp → Prop, (∀ H', Nx1 H' → ∃ k', k' < k ∧ W1 (j + 1) k' H') ∧ ∀ x H', J1.yld j H x H' → tg1.g C.K x (wipe σ2 os1) H' fun σ3 H5 => wipe σ3 os1 = wipe σ2 os1 ∧ derT C tt1 σ3 H5 fun b H6 =>
            if b = true then derE C fe σ3 H6 fun y H7 => ∃ acc, H7 A = some (.lst acc) ∧ acc.length < sizeLine ∧ Nx1 (upd H7 A (.lst (acc ++ [y]))) else Nx1 H6)) else Nx H3) I4 (tgd_na q3) q3 fun σ5 H5 ρ5 I5 q5 hw => ⟨ρ5, _, _, _, I5, q5, fun b H6 ρ6 I6 q6 => ?_⟩
    · have hon := Tgt.only (K := C.K) (own := os) h1 hgo
      exact tgt_mono hon fun σ' H' ⟨hq, hw⟩ => ⟨by rw [hw, wipe_idem], hq (by rw [hw, wipe_idem])⟩
    · cases b with
      | true =>
        rw [if_pos rfl]
        exact inner σ5 hw H6 ρ6 I6 (q6.t rfl)
      | false =>
        rw [if_neg (by decide)]
        exact back hw I6 (q6.f rfl)
  · have e : i = its.length := by omega
    subst e
    rw [List.drop_length] at q3
    have I5 : SS C σ H3 ρ3 (vs ++ [.ref A]) (τ ++ [.own acc]) := I3.drop hτ3
    exact .inl ⟨st (Nat.le_refl _), k _ _ _ _ I5 q3⟩
theorem de_lc2 (hc : C.X.calm = true) (hN : C.X.N.Nodup) (hi : DPI C tge iter fi) (ok : BlkOk C.X.N C.X.env.scope scope own) (hg : TgtOk C tge tg scope) (hg1 : TgtOk C tge1 tg1 scope)
    (ht : ∀ (s : Shared) (H : Hp) (Cc : Addr) (cl : List (Str × Addr)) (fp : List Addr), DPTs (C.blk s H scope Cc cl fp) ifs tt) (hi1 : ∀ (s : Shared) (H : Hp) (Cc : Addr) (cl : List (Str × Addr)) (fp : List Addr), DPI (C.blk s H scope Cc cl fp) tge1 iter1 fi1)
    (ht1 : ∀ (s : Shared) (H : Hp) (Cc : Addr) (cl : List (Str × Addr)) (fp : List Addr), DPTs (C.blk s H scope Cc cl fp) ifs1 tt1) (he : ∀ (s : Shared) (H : Hp) (Cc : Addr) (cl : List (Str × Addr)) (fp : List Addr), DPE (C.blk s H scope Cc cl fp) elt fe)
    (h1 : ∀ i ∈ tg.sl, i ∈ own.map (·.2)) (h2 : ∀ i ∈ own.map (·.2), i ∉ C.lent ∧ i ∈ C.cv) (h3 : ∀ i ∈ tg1.sl, i ∈ os1) (h4 : ∀ i ∈ os1, i ∈ own.map (·.2)) (hs : ∀ x, foldedSetIterable iter C.X.env x = pure x := by intro _; rfl) (hs1 : ∀ env x, foldedSetIterable iter1 env x = pure x := by intro _ _; rfl) :
    DPE C (.ListComp elt [⟨tge, iter, ifs, 0⟩, ⟨tge1, iter1, ifs1, 0⟩] scope pos) (dLc2 fi tg.d tt fi1 tg1.d tt1 fe (own.map (·.2)) os1) :=
  let ⟨_, p, s⟩ := hi.ex
  ⟨_, pe_lc2 hc hN p ok h4 (fun s H Cc cl fp => hg.pg s H Cc cl fp) (fun s H Cc cl fp => pts_der (ht s H Cc cl fp)) (fun s H Cc cl fp => pi_der (hi1 s H Cc cl fp)) (fun s H Cc cl fp => hg1.pg s H Cc cl fp) (fun s H Cc cl fp => pts_der (ht1 s H Cc cl fp)) (fun s H Cc cl fp => pe_der (he s H Cc cl fp)) hs hs1, sim_lc2 s h1 h2 h3 h4⟩
end
end Ds
namespace Ds
open PySem L2
theorem TIsL.own_at {K : PySem.W.Frag} {B Bb : Addr → Prop} {σ : St} {H : Hp} : ∀ {us : List T} {zs : List V} {os : List Addr} {j : Nat} {ds : List D}, TIsL K B Bb σ H us zs os → us[j]? = some (.own ds) →
    ∃ l ls, zs[j]? = some (.ref l) ∧ H l = some (.lst ls) ∧ DIsL K B H ds ls ∧ l ∈ os ∧ (os.Nodup → ∀ (B' Bb' : Addr → Prop) (H' : Hp) (ds' : List D) (ls' : List V), (∀ b o, H b = some o → ¬ B b → H' b = some o ∧ ¬ B' b) → (∀ b o, H b = some o → ¬ Bb b → H' b = some o ∧ ¬ Bb' b) →
      (∀ b o, b ∈ os → b ≠ l → H b = some o → H' b = some o) → H' l = some (.lst ls') → DIsL K B' H' ds' ls' → TIsL K B' Bb' σ H' (us.set j (.own ds')) zs os)
  | [], _, _, _, _, _, e => by simp at e
  | t :: us, _, _, 0, ds, .cons (o1 := o1) (o2 := o2) r q, e => by
    simp at e; subst e
    obtain ⟨l, ls, rfl, h1, h2, rfl⟩ := r.own_inv
    refine ⟨l, ls, rfl, h1, h2, by simp, fun nd B' Bb' H' ds' ls' m1 m2 m3 h3 h4 => ?_⟩
    simp only [List.set_cons_zero]
    refine .cons (.own h3 h4) (q.move m1 m2 (fun b o hb eb => m3 b o (by simp [hb]) (fun z => ?_) eb) (.inl rfl))
    subst z
    simp only [List.cons_append, List.nil_append, List.nodup_cons] at nd
    exact nd.1 hb
  | t :: us, _, _, j + 1, ds, .cons (o1 := o1) (o2 := o2) r q, e => by
    obtain ⟨l, ls, h0, h1, h2, h3, h4⟩ := TIsL.own_at (j := j) q (by simpa using e)
    refine ⟨l, ls, by simpa using h0, h1, h2, by simp [h3], fun nd B' Bb' H' ds' ls' m1 m2 m3 h5 h6 => ?_⟩
    rw [List.nodup_append] at nd
    simp only [List.set_cons_succ]
    refine .cons (r.move m1 m2 (fun b o hb eb => m3 b o (by simp [hb]) (fun z => ?_) eb) (.inl rfl)) (h4 nd.2.1 B' Bb' H' ds' ls' m1 m2 (fun b o hb => m3 b o (by simp [hb])) h5 h6)
    subst z
    exact nd.2.2 b hb b h3 rfl
section
variable {C : Ctx} {σ : St} {H : Hp} {ρ : List T} {vs : List V} {τ : List T} {i j : Nat} {ds : List D} {us : List T}
theorem TIs.lst_inv {K : PySem.W.Frag} {B Bb : Addr → Prop} {σ : St} {H : Hp} {v : V} : ∀ {os : List Addr}, TIs K B Bb σ H (.lst us) v os → ∃ a zs o, v = .ref a ∧ H a = some (.lst zs) ∧ TIsL K B Bb σ H us zs o ∧ os = a :: o
  | _, .lst h t => ⟨_, _, _, rfl, h, t, rfl⟩
theorem SS.mutN (I : SS C σ H ρ vs τ) (ei : ρ[i]? = some (.lst us)) (ej : us[j]? = some (.own ds)) : ∃ l0 zs0 l zs, σ[i]? = some (some (.ref l0)) ∧ H l0 = some (.lst zs0) ∧ zs0[j]? = some (.ref l) ∧ us.length = zs0.length ∧ H l = some (.lst zs) ∧ DIsL C.K N0 H ds zs ∧
    ∀ ds' zs', (∀ B', DIsL C.K B' H ds zs → DIsL C.K B' H ds' zs') → SS C σ (upd H l (.lst zs')) (ρ.set i (.lst (us.set j (.own ds')))) vs τ := by
  obtain ⟨ow, I⟩ := I
  have hi : i < ρ.length := (List.getElem?_eq_some_iff.mp ei).1
  rcases I.slot ei with z | ⟨v, hv, r⟩
  · cases z
  · obtain ⟨l0, zs0, o0, rfl, h0, t0, eo⟩ := r.lst_inv
    obtain ⟨l, zs, e1, e2, e3, e4, e5⟩ := t0.own_at ej
    have nd := I.nd i
    rw [eo, List.nodup_cons] at nd
    have lne : l0 ≠ l := fun z => nd.1 (z ▸ e4)
    refine ⟨l0, zs0, l, zs, hv, h0, e1, t0.length, e2, e3.free, fun ds' zs' nw => ⟨ow, ?_⟩⟩
    have lb : ∀ b o, H b = some o → ¬ Bar C ow b → b ≠ l := fun b o _ n z => n (.inl ⟨i, by rw [eo, z]; simp [e4]⟩)
    refine I.next (S := fun k => k = i) (by simp [I.ln]) I.lt (noAliL_set I.na (by
        have := noAliL_iff.mp I.na i _ ei
        simp only [noAli] at this ⊢
        exact noAliL_set this rfl)) (fun k _ => rfl) (fun k u hk e => ?_) (by simp) (fun b o e hb => ?_) (fun b z => ?_) (fun k a hk h => ?_) (fun m1 m2 k u hk e => ?_) (fun k hk => I.nd k) (fun j k a hj hk hjk h => I.dj j k a hjk h) (fun k a hk h => ?_) fun _ _ => rfl
    · refine ⟨?_, rfl, .inl rfl⟩
      by_cases z : k < ρ.length
      · rw [List.getElem?_append_left (by simpa using z), List.getElem?_set_ne (Ne.symm hk)] at e
        rw [List.getElem?_append_left z]; exact e
      · rw [List.getElem?_append_right (by simp; omega), List.length_set] at e
        rw [List.getElem?_append_right (by omega)]; exact e
    · have : b ≠ l := fun z => hb i rfl (by rw [eo, z]; simp [e4])
      rw [upd_ne this]; exact e
    · by_cases q : b = l
      · subst q; rw [upd_same]; simp
      · rw [upd_ne q]; exact z
    · exact .inl ⟨k, hk, h⟩
    · subst hk
      rw [List.getElem?_append_left (by simpa using hi), List.getElem?_set_self hi] at e
      cases e
      refine .inr ⟨.ref l0, by rw [List.getElem?_append_left (by rw [← I.ln]; exact hi)]; exact hv, ?_⟩
      rw [eo]
      have mv : ∀ b o, H b = some o → ¬ Bar C ow b → upd H l (.lst zs') b = some o ∧ ¬ Bar C ow b := fun b o e n => ⟨by rw [upd_ne (lb b o e n)]; exact e, n⟩
      exact .lst (by rw [upd_ne lne]; exact h0) (e5 nd.2 _ _ _ ds' zs' m1 m2 (fun b o _ hb eb => by rw [upd_ne hb]; exact eb) upd_same ((nw _ e3).move mv))
    · by_cases q : a = l
      · subst q; exact ⟨_, upd_same, trivial⟩
      · obtain ⟨o, e, c⟩ := I.ot k a h
        exact ⟨o, by rw [upd_ne q]; exact e, c⟩
end
/-- x[j].append(d), d a scalar -/
def dAppN (i j : Nat) (d : D) : DE := fun ρ Q => match ρ[i]? with
  | some (.lst us) => match us[j]? with
    | some (.own ds) => ds.length < sizeLine ∧ Q (.dat .none) (ρ.set i (.lst (us.set j (.own (ds ++ [d])))))
    | _ => False
  | _ => False
section
variable {C : Ctx} {i j : Nat} {x : Str} {e : Expr} {d : D} {v : V} {p p2 p3 apos cpos : Pos} {jt : Nat}
theorem de_appN (i j : Nat) (hsv : sv d = some v) (hN : C.X.N[i]? = some x) (hv : Vis C.X.env.scope x) (ha : PE C.X e (tC v))
    (hd : (x == ("__debug__" : Str)) = false := by decide) (hcd : (x == ("__classdict__" : Str)) = false := by decide)
    (hbase : attributeBase (.Subscript (.Name x p) (.Constant (.int j) jt p2) p3) "append" C.X.env (eval (.Subscript (.Name x p) (.Constant (.int j) jt p2) p3) C.X.env) = eval (.Subscript (.Name x p) (.Constant (.int j) jt p2) p3) C.X.env := by rfl)
    (hfew : ((backTo cpos (starEach [e] C.X.env)).all (fun x => !x.1) && (backToKw cpos (keywordEach [] C.X.env)).all (fun x => x.1.isSome)
      && decide (([e] : List Expr).length + ([] : List Keyword).length + (if ([] : List Keyword).isEmpty then 0 else 1) < 30)) = true := by rfl)
    (hline : (apos.endLine == cpos.line) = true := by rfl) (hs : starEach [e] C.X.env = (false, eval e C.X.env) :: starEach [] C.X.env := by rfl) (hplain : (backTo cpos (starEach [] C.X.env)).any (·.1) = false := by rfl) :
    DPE C (.Call (.Attribute (.Subscript (.Name x p) (.Constant (.int j) jt p2) p3) "append" apos) [e] [] cpos) (dAppN i j d) :=
  ⟨_, pe_bm PySem.F.plainAttrs_list PySem.F.slot_list_append PySem.F.type_list_append mt_append (pe_ix ix_list (pe_var hN hv hd hcd) pe_int (fun _ _ => rfl)) (pa_cons ha pa_nil hs) hbase hfew hline hs hplain, fun σ H ρ vs τ Qd Q I q k => by
    unfold dAppN at q
    cases e1 : ρ[i]? with
    | none => rw [e1] at q; exact q.elim
    | some t =>
      rw [e1] at q
      cases t <;> first | exact q.elim | skip
      rename_i us
      dsimp only at q
      cases e2 : us[j]? with
      | none => rw [e2] at q; exact q.elim
      | some t =>
        rw [e2] at q
        cases t <;> first | exact q.elim | skip
        rename_i ds
        obtain ⟨l0, zs0, l, zs, h1, h2, h3, h4, h5, h6, h7⟩ := I.mutN e1 e2
        refine ⟨.ref l0, h1, l0, zs0, j, .ref l, rfl, rfl, .of h2, atI_nat h3, .inl ⟨rfl, zs, .of h5⟩, l, zs, v, rfl, rfl, h5, by rw [← h6.length]; exact q.1, ?_⟩
        exact k _ _ _ _ ((h7 (ds ++ [d]) (zs ++ [v]) fun B' a => a.snoc (sv_is hsv)).non) q.2⟩
end
/-- a new list whose items keep what they own -/
def dLstK (f : DA) : DE := fun ρ Q => f ρ fun ts ρ' => match small 1000 ts with
  | true => Q (mkLK ts) ρ'
  | false => False
theorem de_lstK {C : Ctx} {es : List Expr} {fs : DA} {pos : Pos} (h : DPA C es fs) : DPE C (.List es pos) (dLstK fs) :=
  let ⟨_, pa, sa⟩ := h.ex
  ⟨_, pe_lst pa, fun σ H ρ vs τ Qd Q I q k => sa σ H ρ vs τ _ _ I q fun xs H1 ts ρ1 I1 hl q1 => by
    obtain ⟨z, q1⟩ := small_ok q1
    refine ⟨by omega, fun p hp => ?_⟩
    obtain ⟨ow, J⟩ := id I1
    exact k _ _ _ _ (J.dispLK (I1.lenA hl) hp) q1⟩
/-- ==, of data that is the same -/
theorem eqv_self (d : D) (h : d.canLay0 = true) : PyData.eqv d d = true := SeqAt.eqv_refl d h
theorem Lay.eqv {k : Nat} {d : D} (h : Lay k d) : PyData.eqv d d = true := SeqAt.eqv_refl d h.cl
end Ds
namespace Ds
open PySem L2
theorem lc_genA {α : Type} {g : DG} {tt : DTt} {fe : DE} {own : List Nat} {K : List D → List T → Prop} {ρ : List T} (its : List α) (acc : List D) (tg : α → T) (st : α → List T) (p : α → Bool) (gv : α → D) (hs : ∀ a ∈ its, wipeT (st a) own = ρ)
    (hg : ∀ a ∈ its, ∀ Q : List T → Prop, Q (st a) → g (tg a) ρ Q) (hl : acc.length + its.length ≤ sizeLine)
    (he : ∀ a ∈ its, ∀ (P : T → List T → Prop) (R : List T → Prop), (p a = true → ∀ y, frz y = some (gv a) → P y (st a)) → (p a = false → R (st a)) → tt (st a) fun b ρ2 => br b (fe ρ2 P) (R ρ2))
    (hk : K (acc ++ (its.filter p).map gv) ρ) : dLcGo g tt fe own K (its.map tg) acc ρ := by
  induction its generalizing acc with
  | nil => show K acc ρ; simpa using hk
  | cons a l ih =>
    have ha : a ∈ a :: l := List.mem_cons_self ..
    have up : ∀ b ∈ l, b ∈ a :: l := fun b hb => List.mem_cons_of_mem _ hb
    show g (tg a) ρ _
    refine hg a ha _ (he a ha _ _ (fun hp y hy => wD_i hy ⟨by simp at hl; omega, ?_⟩) fun hp => ?_)
    · rw [hs a ha]
      refine ih (acc ++ [gv a]) (fun b hb => hs b (up b hb)) (fun b hb => hg b (up b hb)) (by simp at hl ⊢; omega) (fun b hb => he b (up b hb)) ?_
      rw [List.filter_cons, if_pos hp] at hk
      simpa using hk
    · rw [hs a ha]
      refine ih acc (fun b hb => hs b (up b hb)) (fun b hb => hg b (up b hb)) (by simp at hl ⊢; omega) (fun b hb => he b (up b hb)) ?_
      rw [List.filter_cons, if_neg (by rw [hp]; decide)] at hk
      exact hk
theorem lc2_mp {α β : Type} {g g1 : DG} {fi1 : DI} {fe : DE} {own own1 : List Nat} {K : List D → List T → Prop} {ρ : List T} (its : List α) (tg : α → T) (st : α → List T) (inn : α → List β) (tg1 : α → β → T) (st1 : α → β → List T) (gv : α → β → D)
    (hg : ∀ a ∈ its, ∀ Q : List T → Prop, Q (st a) → g (tg a) ρ Q) (hi : ∀ a ∈ its, ∀ Q : List T → List T → Prop, Q ((inn a).map (tg1 a)) (st a) → fi1 (st a) Q) (hw : ∀ a ∈ its, wipeT (st a) own1 = st a) (hso : ∀ a ∈ its, wipeT (st a) own = ρ)
    (hs1 : ∀ a ∈ its, ∀ b ∈ inn a, wipeT (st1 a b) own1 = st a) (hg1 : ∀ a ∈ its, ∀ b ∈ inn a, ∀ Q : List T → Prop, Q (st1 a b) → g1 (tg1 a b) (st a) Q)
    (he : ∀ a ∈ its, ∀ b ∈ inn a, ∀ P : T → List T → Prop, (∀ y, frz y = some (gv a b) → P y (st1 a b)) → fe (st1 a b) P) (hl : (its.map fun a => (inn a).length).sum ≤ sizeLine)
    (hk : K (its.flatMap fun a => (inn a).map (gv a)) ρ) : dLc2Go g dYes fi1 g1 dYes fe own own1 K (its.map tg) [] ρ := by
  have go : ∀ (its : List α) (acc : List D), (∀ a ∈ its, ∀ Q : List T → Prop, Q (st a) → g (tg a) ρ Q) → (∀ a ∈ its, ∀ Q : List T → List T → Prop, Q ((inn a).map (tg1 a)) (st a) → fi1 (st a) Q) → (∀ a ∈ its, wipeT (st a) own1 = st a) → (∀ a ∈ its, wipeT (st a) own = ρ) →
      (∀ a ∈ its, ∀ b ∈ inn a, wipeT (st1 a b) own1 = st a) → (∀ a ∈ its, ∀ b ∈ inn a, ∀ Q : List T → Prop, Q (st1 a b) → g1 (tg1 a b) (st a) Q) →
      (∀ a ∈ its, ∀ b ∈ inn a, ∀ P : T → List T → Prop, (∀ y, frz y = some (gv a b) → P y (st1 a b)) → fe (st1 a b) P) → (acc.length + (its.map fun a => (inn a).length).sum ≤ sizeLine) → K (acc ++ its.flatMap fun a => (inn a).map (gv a)) ρ →
      dLc2Go g dYes fi1 g1 dYes fe own own1 K (its.map tg) acc ρ := by
    intro its
    induction its with
    | nil => intro acc _ _ _ _ _ _ _ _ hk; show K acc ρ; simpa using hk
    | cons a l ih =>
      intro acc hg hi hw hso hs1 hg1 he hl hk
      have ha : a ∈ a :: l := List.mem_cons_self ..
      have up : ∀ b ∈ l, b ∈ a :: l := fun b hb => List.mem_cons_of_mem _ hb
      simp only [List.map_cons, List.sum_cons] at hl
      show g (tg a) ρ _
      refine hg a ha _ (br_t rfl (hi a ha _ ?_))
      rw [hw a ha]
      refine lc_genA (inn a) acc (tg1 a) (st1 a) (fun _ => true) (gv a) (hs1 a ha) (hg1 a ha) (by omega) (fun b hb P R hp _ => br_t rfl (he a ha b hb P fun y hy => hp rfl y hy)) ?_
      rw [filter_true, hso a ha]
      refine ih _ (fun b hb => hg b (up b hb)) (fun b hb => hi b (up b hb)) (fun b hb => hw b (up b hb)) (fun b hb => hso b (up b hb)) (fun b hb => hs1 b (up b hb)) (fun b hb => hg1 b (up b hb)) (fun b hb => he b (up b hb)) (by simp; omega) ?_
      rw [List.flatMap_cons, ← List.append_assoc] at hk
      exact hk
  exact go its [] hg hi hw hso hs1 hg1 he (by simpa using hl) (by simpa using hk)
end Ds
namespace Ds
open PySem L2
abbrev DKv := List (Key × D)
def valD (ps : DKv) (k : Key) : Option D := (ps.find? fun p => decide (p.1 = k)).map (·.2)
def putD (ps : DKv) (k : Key) (d : D) : DKv := match ps.any fun p => decide (p.1 = k) with
  | true => ps.map fun p => if p.1 = k then (p.1, d) else p
  | false => ps ++ [(k, d)]
inductive DKs (K : PySem.W.Frag) (B : Addr → Prop) (H : Hp) : DKv → List (Key × V) → Prop
  | nil : DKs K B H [] []
  | cons {k : Key} {d : D} {v : V} {ps : DKv} {kvs : List (Key × V)} : DIs K B H d v → DKs K B H ps kvs → DKs K B H ((k, d) :: ps) ((k, v) :: kvs)
section
variable {K : PySem.W.Frag} {B B' : Addr → Prop} {H H' : Hp}
theorem DKs.length : ∀ {ps : DKv} {kvs : List (Key × V)}, DKs K B H ps kvs → ps.length = kvs.length
  | _, _, .nil => rfl
  | _, _, .cons _ t => congrArg (· + 1) (DKs.length t)
theorem DKs.move (h1 : ∀ b o, H b = some o → ¬ B b → H' b = some o ∧ ¬ B' b) : ∀ {ps : DKv} {kvs : List (Key × V)}, DKs K B H ps kvs → DKs K B' H' ps kvs
  | _, _, .nil => .nil
  | _, _, .cons d t => .cons (d.move h1) (DKs.move h1 t)
theorem DKs.of_zip : ∀ {kvs : List (Key × V)} {ds : List D}, DIsL K B H ds (kvs.map (·.2)) → DKs K B H ((kvs.map (·.1)).zip ds) kvs
  | [], [], _ => .nil
  | (k, v) :: kvs, d :: ds, .cons h t => .cons h (DKs.of_zip t)
theorem DKs.to_zip : ∀ {kvs : List (Key × V)} {ps : DKv}, DKs K B H ps kvs → ∃ ds, DIsL K B H ds (kvs.map (·.2)) ∧ ps = (kvs.map (·.1)).zip ds
  | [], _, .nil => ⟨[], .nil, rfl⟩
  | (k, v) :: kvs, _, .cons h t => by
    obtain ⟨ds, h1, h2⟩ := DKs.to_zip t
    exact ⟨_ :: ds, .cons h h1, by rw [h2]; rfl⟩
theorem DKs.get {k : Key} : ∀ {ps : DKv} {kvs : List (Key × V)}, DKs K B H ps kvs → (∀ d, valD ps k = some d → ∃ v, valV kvs k = some v ∧ DIs K B H d v) ∧ (valD ps k).isSome = (valV kvs k).isSome
  | _, _, .nil => ⟨fun d e => by simp [valD] at e, rfl⟩
  | _, _, .cons (k := j) (d := d) (v := v) (ps := ps) (kvs := kvs) h t => by
    obtain ⟨h1, h2⟩ := DKs.get (k := k) t
    by_cases e : j = k
    · have e1 : valD ((j, d) :: ps) k = some d := by simp [valD, List.find?_cons, e]
      rw [e1, valV_pos (p := (j, v)) e]
      exact ⟨fun x hx => by cases hx; exact ⟨v, rfl, h⟩, rfl⟩
    · have e1 : valD ((j, d) :: ps) k = valD ps k := by simp [valD, List.find?_cons, e]
      rw [e1, valV_neg (p := (j, v)) e]
      exact ⟨h1, h2⟩
theorem DKs.any {k : Key} : ∀ {ps : DKv} {kvs : List (Key × V)}, DKs K B H ps kvs → (ps.any fun p => decide (p.1 = k)) = kvs.any fun p => decide (p.1 = k)
  | _, _, .nil => rfl
  | _, _, .cons h t => by rw [List.any_cons, List.any_cons, DKs.any t]
theorem DKs.snoc {k : Key} {d : D} {v : V} (q : DIs K B H d v) : ∀ {ps : DKv} {kvs : List (Key × V)}, DKs K B H ps kvs → DKs K B H (ps ++ [(k, d)]) (kvs ++ [(k, v)])
  | _, _, .nil => .cons q .nil
  | _, _, .cons h t => .cons h (DKs.snoc q t)
theorem DKs.mapk {k : Key} {d : D} {v : V} (q : DIs K B H d v) : ∀ {ps : DKv} {kvs : List (Key × V)}, DKs K B H ps kvs → DKs K B H (ps.map fun p => if p.1 = k then (p.1, d) else p) (kvs.map fun p => if p.1 = k then (p.1, v) else p)
  | _, _, .nil => .nil
  | _, _, .cons (k := j) h t => by
    rw [List.map_cons, List.map_cons]
    by_cases e : j = k
    · rw [if_pos e, if_pos e]; exact .cons q (DKs.mapk q t)
    · rw [if_neg e, if_neg e]; exact .cons h (DKs.mapk q t)
theorem DKs.put {k : Key} {d : D} {v : V} {ps : DKv} {kvs : List (Key × V)} (h : DKs K B H ps kvs) (q : DIs K B H d v) : DKs K B H (putD ps k d) (putK kvs k v) := by
  unfold putD putK
  rw [← h.any]
  cases e : (ps.any fun p => decide (p.1 = k)) with
  | true => rw [if_pos rfl]; exact h.mapk q
  | false => rw [if_neg (by decide)]; exact h.snoc q
theorem TIs.dct_inv {Bb : Addr → Prop} {σ : St} {ps : DKv} {v : V} : ∀ {os : List Addr}, TIs K B Bb σ H (.dct ps) v os → ∃ a kvs, v = .ref a ∧ H a = some (.dK kvs) ∧ DKs K B H ps kvs ∧ os = [a]
  | _, .dct h t q => ⟨_, _, rfl, h, by subst q; exact .of_zip t, rfl⟩
theorem TIs.dctK {Bb : Addr → Prop} {σ : St} {ps : DKv} {a : Addr} {kvs : List (Key × V)} (h : H a = some (.dK kvs)) (q : DKs K B H ps kvs) : TIs K B Bb σ H (.dct ps) (.ref a) [a] :=
  let ⟨_, h1, h2⟩ := q.to_zip; .dct h h1 h2
end
section
variable {C : Ctx} {σ : St} {H : Hp} {ρ : List T} {vs xs : List V} {τ ts : List T} {i : Nat} {ps : DKv}
theorem SS.mutD (I : SS C σ H ρ (vs ++ xs) (τ ++ ts)) (hτ : τ.length = vs.length) (ei : ρ[i]? = some (.dct ps)) :
    ∃ l zs, σ[i]? = some (some (.ref l)) ∧ H l = some (.dK zs) ∧ zs.length = ps.length ∧ DKs C.K N0 H ps zs ∧ ∀ ps' zs' es ys, (∀ B', DKs C.K B' H ps zs → (∀ (j : Nat) (x : T) (v : V) (d : D), ts[j]? = some x → xs[j]? = some v → frz x = some d → DIs C.K B' H d v) → DKs C.K B' H ps' zs' ∧ DIsL C.K B' H es ys) →
      SS C σ (upd H l (.dK zs')) (ρ.set i (.dct ps')) (vs ++ ys) (τ ++ es.map .dat) := by
  obtain ⟨ow, I⟩ := I
  have hlt := I.lt
  simp at hlt
  have hts : ts.length = xs.length := by omega
  have hi : i < ρ.length := (List.getElem?_eq_some_iff.mp ei).1
  let m := ρ.length + τ.length
  rcases I.slot ei with z | ⟨v, hv, r⟩
  · cases z
  · have own_inv : ∃ l zs, v = .ref l ∧ H l = some (.dK zs) ∧ DKs C.K (Bar C ow) H ps zs ∧ ow i = [l] := by
      obtain ⟨a, zs, ea, e, q, eo⟩ := r.dct_inv
      exact ⟨a, zs, ea, e, q, eo⟩
    obtain ⟨l, zs, rfl, hz, dz, on⟩ := own_inv
    refine ⟨l, zs, hv, hz, dz.length.symm, dz.move fun _ _ e _ => ⟨e, id⟩, fun ps' zs' es ys nw => ?_⟩
    have lb : ∀ k, k ≠ i → l ∉ ow k := fun k hk q => I.dj i k l (Ne.symm hk) (by rw [on]; simp) q
    let ow' : Nat → List Addr := fun k => if k = i then [l] else if m ≤ k then [] else ow k
    have owi : ow' i = [l] := if_pos rfl
    have barN : ∀ b, Bar C ow' b → b = l ∨ (∃ k, k ≠ i ∧ k < m ∧ b ∈ ow k) ∨ C.B0 b := fun b z => by
      rcases z with ⟨k, z⟩ | z
      · have z : b ∈ (if k = i then [l] else if m ≤ k then [] else ow k) := z
        split at z
        · exact .inl (by simpa using z)
        · split at z
          · simp at z
          · exact .inr (.inl ⟨k, by assumption, by omega, z⟩)
      · exact .inr (.inr z)
    have lN : Bar C ow' l := .inl ⟨i, by rw [owi]; simp⟩
    have him : i < m := by simp [m]; omega
    -- the elements, at the new barrier, in the old heap
    have old : ∀ b o, H b = some o → ¬ Bar C ow b → ¬ Bar C ow' b := fun b o e n z => by
      rcases barN b z with rfl | ⟨k, _, _, h3⟩ | h
      · exact n (.inl ⟨i, by rw [on]; simp⟩)
      · exact n (.inl ⟨k, h3⟩)
      · exact n (.inr h)
    have q1 : DKs C.K (Bar C ow') H ps zs := dz.move fun b o e n => ⟨e, old b o e n⟩
    have q2 : ∀ (j : Nat) (x : T) (v : V) (d : D), ts[j]? = some x → xs[j]? = some v → frz x = some d → DIs C.K (Bar C ow') H d v := fun j x v d e1 e2 e3 => by
      have et : (τ ++ ts)[τ.length + j]? = some x := by rw [List.getElem?_append_right (by omega)]; simpa using e1
      obtain ⟨v', hv', r'⟩ := I.temp et
      rw [List.getElem?_append_right (by omega), show τ.length + j - vs.length = j by omega, e2] at hv'
      cases hv'
      refine r'.frz I.tupOk old (fun a ha z => ?_) e3
      rcases barN a z with rfl | ⟨k, h1, h2, h3⟩ | h
      · exact lb _ (by omega) ha
      · exact I.dj k (ρ.length + (τ.length + j)) a (by omega) h3 ha
      · exact I.nb0 ha h
    obtain ⟨n1, n2⟩ := nw _ q1 q2
    have mv : ∀ b o, H b = some o → ¬ Bar C ow' b → upd H l (.dK zs') b = some o ∧ ¬ Bar C ow' b := fun b o e nb => ⟨(by rw [upd_ne (fun z => nb (by rw [z]; exact lN))]; exact e), nb⟩
    have hey : es.length = ys.length := n2.length
    refine ⟨ow', I.next (S := fun k => k = i ∨ m ≤ k) (by rw [List.length_set]; exact I.ln) (by simp [hτ, hey]) (noAliL_set I.na rfl) (fun k hk => ?_) (fun k u hk e => ?_) (List.length_set ..) (fun b o e hb => ?_) (fun b z => ?_)
      (fun k a hk h => ?_) (fun m1 m2 k u hk e => ?_) (fun k hk => ?_) (fun j k a hj hk hjk h => ?_) (fun k a hk h => ?_) (fun i hi => rfl)⟩
    · show (if k = i then [l] else if m ≤ k then [] else ow k) = ow k
      rw [if_neg (fun z => hk (.inl z)), if_neg (fun z => hk (.inr z))]
    · have h1 : k ≠ i := fun z => hk (.inl z)
      have h2 : k < m := by by_cases z : k < m; exact z; exact absurd (.inr (by omega)) hk
      refine ⟨?_, ?_, .inl rfl⟩
      · by_cases z : k < ρ.length
        · rw [List.getElem?_append_left (by simpa using z), List.getElem?_set_ne (Ne.symm h1)] at e
          rw [List.getElem?_append_left z]; exact e
        · rw [List.getElem?_append_right (by simp; omega), List.length_set, List.getElem?_append_left (by simp [m] at h2; omega)] at e
          rw [List.getElem?_append_right (by omega), List.getElem?_append_left (by simp [m] at h2; omega)]; exact e
      · have z : k < (σ ++ List.map some vs).length := by simp [← I.ln, ← hτ]; omega
        rw [List.map_append, List.map_append, ← List.append_assoc, ← List.append_assoc, List.getElem?_append_left z, List.getElem?_append_left z]
    · have : b ≠ l := fun z => hb i (.inl rfl) (by rw [on, z]; simp)
      rw [upd_ne this]; exact e
    · by_cases q : b = l
      · subst q; rw [upd_same]; simp
      · rw [upd_ne q]; exact z
    · have h : a ∈ (if k = i then [l] else if m ≤ k then [] else ow k) := h
      split at h
      · simp at h; subst h; exact .inl ⟨i, .inl rfl, by rw [on]; simp⟩
      · split at h
        · simp at h
        · exact absurd hk (fun z => z.elim (by assumption) (by assumption))
    · refine .inr ?_
      rcases hk with rfl | hk
      · rw [List.getElem?_append_left (by simpa using hi), List.getElem?_set_self hi] at e
        cases e
        refine ⟨.ref l, ?_, ?_⟩
        · rw [List.getElem?_append_left (by rw [← I.ln]; exact hi)]; exact hv
        · rw [owi]
          exact TIs.dctK upd_same (n1.move mv)
      · have e2 : (List.map T.dat es)[k - m]? = some u := by
          rw [List.getElem?_append_right (by simp; omega), List.length_set, List.getElem?_append_right (by omega)] at e
          rw [show k - m = k - ρ.length - τ.length by omega]; exact e
        rw [List.getElem?_map, Option.map_eq_some_iff] at e2
        obtain ⟨d, ed, rfl⟩ := e2
        obtain ⟨w, hw, rw1⟩ := n2.get ed
        have oe : ow' k = [] := by
          show (if k = i then [l] else if m ≤ k then [] else ow k) = []
          rw [if_neg (by omega), if_pos hk]
        refine ⟨w, ?_, ?_⟩
        · rw [List.map_append, ← List.append_assoc, List.getElem?_append_right (by simp [← I.ln, ← hτ]; omega)]
          simp only [List.length_append, List.length_map, ← I.ln, ← hτ]
          rw [List.getElem?_map, show k - (ρ.length + τ.length) = k - m from rfl, hw]
          rfl
        · rw [oe]
          exact .dat (rw1.move mv)
    · show (if k = i then [l] else if m ≤ k then [] else ow k).Nodup
      split
      · simp
      · split
        · exact List.nodup_nil
        · exact I.nd k
    · have h : a ∈ (if j = i then [l] else if m ≤ j then [] else ow j) := h
      show a ∉ (if k = i then [l] else if m ≤ k then [] else ow k)
      split at h
      · simp at h; subst h
        rw [if_neg (by omega)]
        split
        · simp
        · exact lb k (by omega)
      · split at h
        · simp at h
        · exact absurd hj (fun z => z.elim (by assumption) (by assumption))
    · have h : a ∈ (if k = i then [l] else if m ≤ k then [] else ow k) := h
      split at h
      · simp at h; subst h; exact ⟨_, upd_same, trivial⟩
      · split at h
        · simp at h
        · exact absurd hk (fun z => z.elim (by assumption) (by assumption))
end
/-- a key -/
def wK (o : Option D) (k : Key → Prop) : Prop := match o with
  | some (.int i) => k (.inl i)
  | some (.str x) => k (.inr x)
  | _ => False
theorem wK_some {o : Option D} {k : Key → Prop} (h : wK o k) : ∃ j, o = some (kD j) ∧ k j := by
  unfold wK at h
  split at h
  · exact ⟨.inl _, rfl, h⟩
  · exact ⟨.inr _, rfl, h⟩
  · exact h.elim
theorem kD_is {K : PySem.W.Frag} {B : Addr → Prop} {H : Hp} {j : Key} {v : V} (h : DIs K B H (kD j) v) : v = kV j := by
  cases j with
  | inl i => exact h.int_eq
  | inr x => exact h.str_eq
def sDct (ρ : List T) (i : Nat) (P : DKv → Prop) : Prop := match ρ[i]? with
  | some (.dct ps) => P ps
  | _ => False
theorem sDct_is {ρ : List T} {i : Nat} {P : DKv → Prop} (h : sDct ρ i P) : ∃ ps, ρ[i]? = some (.dct ps) ∧ P ps := by
  unfold sDct at h
  split at h
  · exact ⟨_, by assumption, h⟩
  · exact h.elim
def dDGet (i : Nat) (fk : DE) : DE := fun ρ Q => sDct ρ i fun _ => fk ρ fun x ρ1 => wK (lk ρ1 x) fun k => sDct ρ1 i fun ps => wO (valD ps k) fun d => Q (.dat d) ρ1
def dDIn (i : Nat) (fk : DE) : DE := fun ρ Q => fk ρ fun x ρ1 => wK (lk ρ1 x) fun k => sDct ρ1 i fun ps => Q (.dat (.bool (valD ps k).isSome)) ρ1
def dDNin (i : Nat) (fk : DE) : DE := fun ρ Q => fk ρ fun x ρ1 => wK (lk ρ1 x) fun k => sDct ρ1 i fun ps => Q (.dat (.bool (!(valD ps k).isSome))) ρ1
def dDPut (i : Nat) (fk fv : DE) : DS := fun D ρ => fv ρ fun y ρ1 => wD (frz y) fun d => sDct ρ1 i fun _ => fk ρ1 fun x ρ2 => wK (lk ρ2 x) fun k => sDct ρ2 i fun ps => ps.length < sizeLine ∧ D.nx (ρ2.set i (.dct (putD ps k d)))
def dDAug (i : Nat) (op : Int → Int → Int) (fk fv : DE) : DS := fun D ρ => sDct ρ i fun _ => fk ρ fun x ρ1 => wK (lk ρ1 x) fun k => sDct ρ1 i fun ps => wI (valD ps k) fun n => fv ρ1 fun y ρ2 => wI (lk ρ2 y) fun m => sDct ρ2 i fun ps2 => ps2.length < sizeLine ∧ D.nx (ρ2.set i (.dct (putD ps2 k (.int (op n m)))))
section
variable {C : Ctx} {i : Nat} {x : Str} {ek ev : Expr} {fk fv : DE} {p pos pos2 : Pos}
theorem SI.dct_at {σ : St} {H : Hp} {ρ : List T} {vs : List V} {τ : List T} {ow : Nat → List Addr} {ps : DKv} (J : SI C σ H ρ vs τ ow) (e : ρ[i]? = some (.dct ps)) : ∃ l kvs, σ[i]? = some (some (.ref l)) ∧ H l = some (.dK kvs) ∧ DKs C.K (Bar C ow) H ps kvs := by
  rcases J.slot e with z | ⟨v, hv, r⟩
  · cases z
  · obtain ⟨a, kvs, rfl, h1, h2, _⟩ := r.dct_inv
    exact ⟨a, kvs, hv, h1, h2⟩
theorem de_dget (i : Nat) (hu : C.X.A.units + 1 < cLine) (hN : C.X.N[i]? = some x) (hv : Vis C.X.env.scope x) (hk : DPE C ek fk) (hs : NoSl ek := by exact fun _ _ => rfl) (hd : (x == ("__debug__" : Str)) = false := by decide) (hcd : (x == ("__classdict__" : Str)) = false := by decide) : DPE C (.Subscript (.Name x p) ek pos) (dDGet i fk) :=
  let ⟨_, pk, sk⟩ := hk.ex
  ⟨_, pe_dget hu (pe_var hN hv hd hcd) pk hs, fun σ H ρ vs τ Qd Q I q k => by
    obtain ⟨ps0, e0, q⟩ := sDct_is q
    obtain ⟨ow, J⟩ := id I
    obtain ⟨l, kvs, h1, h2, _⟩ := J.dct_at e0
    refine ⟨.ref l, h1, sk σ H ρ vs τ _ _ I q fun v H1 y ρ1 I1 q1 => ?_⟩
    obtain ⟨j, ej, q1⟩ := wK_some q1
    obtain ⟨ps, e1, q1⟩ := sDct_is q1
    obtain ⟨d, ed, q1⟩ := wO_some q1
    have ekv := kD_is (I1.lk1 ej)
    subst ekv
    obtain ⟨ow1, J1⟩ := id I1
    obtain ⟨l', kvs', h1', h2', h3'⟩ := J1.dct_at e1
    rw [h1] at h1'; cases h1'
    obtain ⟨w, ew, dw⟩ := h3'.get.1 d ed
    refine ⟨l, w, rfl, by rw [← ew]; exact DGet.k h2', ?_⟩
    have J' : SI C σ H1 ρ1 (vs ++ [kV j]) (τ ++ [y]) ow1 := J1
    exact k _ _ _ _ (J'.oneD J1.lt1 dw) q1⟩
theorem din_core {σ : St} {H : Hp} {ρ : List T} {vs : List V} {τ : List T} {y : T} {v : V} {ps : DKv} {j : Key} (I : SS C σ H ρ (vs ++ [v]) (τ ++ [y])) (ej : lk ρ y = some (kD j)) (e : ρ[i]? = some (.dct ps)) : v = kV j ∧ ∃ l o, σ[i]? = some (some (.ref l)) ∧ DGet H l (kV j) o ∧ o.isSome = (valD ps j).isSome := by
  have ekv := kD_is (I.lk1 ej)
  obtain ⟨ow, J⟩ := id I
  obtain ⟨l, kvs, h1, h2, h3⟩ := J.dct_at e
  exact ⟨ekv, l, _, h1, DGet.k h2, h3.get.2.symm⟩
theorem de_din (i : Nat) (hu : C.X.A.units + 1 < cLine) (hN : C.X.N[i]? = some x) (hv : Vis C.X.env.scope x) (hk : DPE C ek fk) (hd : (x == ("__debug__" : Str)) = false := by decide) (hcd : (x == ("__classdict__" : Str)) = false := by decide)
    (hb : behindInMarks .In (.Name x p) = false := by rfl) : DPE C (.Compare ek [.In] [.Name x p] pos) (dDIn i fk) :=
  let ⟨_, pk, sk⟩ := hk.ex
  ⟨_, pe_cmp (pc_din hu pk (pe_var hN hv hd hcd)) hb, fun σ H ρ vs τ Qd Q I q k => sk σ H ρ vs τ _ _ I q fun v H1 y ρ1 I1 q1 => by
    obtain ⟨j, ej, q1⟩ := wK_some q1
    obtain ⟨ps, e1, q1⟩ := sDct_is q1
    obtain ⟨rfl, l, o, h1, h2, h3⟩ := din_core I1 ej e1
    refine ⟨.ref l, h1, l, o, rfl, h2, ?_⟩
    rw [h3]
    exact k _ _ _ _ (I1.pop.bool _) q1⟩
theorem de_dnin (i : Nat) (hu : C.X.A.units + 1 < cLine) (hN : C.X.N[i]? = some x) (hv : Vis C.X.env.scope x) (hk : DPE C ek fk) (hd : (x == ("__debug__" : Str)) = false := by decide) (hcd : (x == ("__classdict__" : Str)) = false := by decide)
    (hb : behindInMarks .NotIn (.Name x p) = false := by rfl) : DPE C (.Compare ek [.NotIn] [.Name x p] pos) (dDNin i fk) :=
  let ⟨_, pk, sk⟩ := hk.ex
  ⟨_, pe_cmp (pc_dnotin hu pk (pe_var hN hv hd hcd)) hb, fun σ H ρ vs τ Qd Q I q k => sk σ H ρ vs τ _ _ I q fun v H1 y ρ1 I1 q1 => by
    obtain ⟨j, ej, q1⟩ := wK_some q1
    obtain ⟨ps, e1, q1⟩ := sDct_is q1
    obtain ⟨rfl, l, o, h1, h2, h3⟩ := din_core I1 ej e1
    refine ⟨.ref l, h1, l, o, rfl, h2, ?_⟩
    rw [h3]
    exact k _ _ _ _ (I1.pop.bool _) q1⟩
theorem ds_dput (i : Nat) (hu : C.X.A.units + 1 < cLine) (hN : C.X.N[i]? = some x) (hv : Vis C.X.env.scope x) (hk : DPE C ek fk) (hval : DPE C ev fv) (hd : (x == ("__debug__" : Str)) = false := by decide) (hcd : (x == ("__classdict__" : Str)) = false := by decide)
    (hs : swapsWith ev (some (.Subscript (.Name x p) ek pos2)) pos.line C.X.env = pure false := by rfl) : DPS C (.Assign [.Subscript (.Name x p) ek pos2] ev pos) (dDPut i fk fv) :=
  let ⟨_, pk, sk⟩ := hk.ex; let ⟨_, pv, sv'⟩ := hval.ex
  ⟨_, ps_dput hu (pe_var hN hv hd hcd) pk pv hs, fun σ H ρ vs τ Dd D I na q k => sv' σ H ρ vs τ _ _ I q fun w H1 y ρ1 I1 q1 => by
    obtain ⟨d, ed, q1⟩ := wD_some q1
    obtain ⟨ps0, e0, q1⟩ := sDct_is q1
    obtain ⟨ow, J⟩ := id I1
    obtain ⟨l, kvs, h1, h2, _⟩ := J.dct_at e0
    refine ⟨.ref l, h1, sk σ H1 ρ1 _ _ _ _ I1 q1 fun v H2 z ρ2 I2 q2 => ?_⟩
    obtain ⟨j, ej, q2⟩ := wK_some q2
    obtain ⟨ps, e1, q2⟩ := sDct_is q2
    have ekv := kD_is (I2.lk1 ej)
    subst ekv
    have I3 : SS C σ H2 ρ2 (vs ++ [w, kV j]) (τ ++ [y, z]) := by simpa using I2
    obtain ⟨l', zs, h1', h2', h3', _, mk⟩ := I3.mutD (I3.lenA rfl) e1
    rw [h1] at h1'; cases h1'
    refine ⟨l, _, rfl, DPut.k h2' (by rw [h3']; exact q2.1), ?_⟩
    have I4 := mk (putD ps j d) (putK zs j w) [] [] fun B' a b => ⟨a.put (b 0 y w d rfl rfl ed), .nil⟩
    exact k.nx _ _ _ (by simpa using I4) q2.2⟩
theorem ds_daug (i : Nat) {op : Operator} {g : Int → Int → Int} {rd : V → V → Hp → VK → Prop} (hop : InOp C.X op rd) (hrd : ∀ (n m : Int) (H : Hp) (Q : VK), Q (.int (g n m)) H → rd (.int n) (.int m) H Q) (hu : C.X.A.units + 1 < cLine) (hN : C.X.N[i]? = some x) (hv : Vis C.X.env.scope x) (hk : DPE C ek fk) (hval : DPE C ev fv) (hd : (x == ("__debug__" : Str)) = false := by decide) (hcd : (x == ("__classdict__" : Str)) = false := by decide)
    (ha : ∀ ov iv new, augStore ek ov iv new = (do holding [new, ov, iv] (setItem ov iv new); release [new, ov, iv] []; pure .next) := by intros; rfl) : DPS C (.AugAssign (.Subscript (.Name x p) ek pos2) op ev pos) (dDAug i g fk fv) :=
  let ⟨_, pk, sk⟩ := hk.ex; let ⟨_, pv, sv'⟩ := hval.ex
  ⟨_, ps_daug hu (pe_var hN hv hd hcd) pk pv hop ha, fun σ H ρ vs τ Dd D I na q k => by
    obtain ⟨ps0, e0, q⟩ := sDct_is q
    obtain ⟨ow, J⟩ := id I
    obtain ⟨l, kvs, h1, h2, _⟩ := J.dct_at e0
    refine ⟨.ref l, h1, sk σ H ρ vs τ _ _ I q fun v H1 y ρ1 I1 q1 => ?_⟩
    obtain ⟨j, ej, q1⟩ := wK_some q1
    obtain ⟨ps, e1, q1⟩ := sDct_is q1
    obtain ⟨n, en, q1⟩ := wI_some q1
    have ekv := kD_is (I1.lk1 ej)
    subst ekv
    obtain ⟨ow1, J1⟩ := id I1
    obtain ⟨l', kvs', h1', h2', h3'⟩ := J1.dct_at e1
    rw [h1] at h1'; cases h1'
    obtain ⟨w, ew, dw⟩ := h3'.get.1 _ en
    have ewi := dw.int_eq
    subst ewi
    refine ⟨l, .int n, rfl, by rw [← ew]; exact DGet.k h2', ?_⟩
    refine sv' σ H1 ρ1 _ _ _ _ I1 q1 fun w2 H2 y2 ρ2 I2 q2 => ?_
    obtain ⟨m, em, q2⟩ := wI_some q2
    obtain ⟨ps2, e2, q2⟩ := sDct_is q2
    have em2 := (I2.lk1 em).int_eq
    subst em2
    refine hrd n m H2 _ ?_
    have I3 : SS C σ H2 ρ2 (vs ++ [kV j, .int m]) (τ ++ [y, y2]) := by simpa using I2
    obtain ⟨l', zs, h1', h2', h3', _, mk⟩ := I3.mutD (I3.lenA rfl) e2
    rw [h1] at h1'; cases h1'
    refine ⟨_, DPut.k h2' (by rw [h3']; exact q2.1), ?_⟩
    have I4 := mk (putD ps2 j (.int (g n m))) (putK zs j (.int (g n m))) [] [] fun B' a b => ⟨a.put (.int _), .nil⟩
    exact k.nx _ _ _ (by simpa using I4) q2.2⟩
end
end Ds
namespace Ds
open PySem L2
section
variable {C : Ctx} {σ : St} {H : Hp} {ρ : List T} {vs xs : List V} {τ ts : List T} {i : Nat} {acc : DKv} {l : Addr} {w : V} {x : T}
theorem SI.newD0 {ow : Nat → List Addr} (I : SI C σ H ρ (vs ++ xs) (τ ++ ts) ow) (hτ : τ.length = vs.length) {p : Addr} (hp : H p = none) : SS C σ (upd H p (.dK [])) ρ (vs ++ [.ref p]) (τ ++ [.dct []]) :=
  I.one hτ (same_upd hp) _ _ [p] (fun ow' m1 m2 _ => TIs.dctK upd_same .nil) (by simp) (fun a h => by simp at h; subst h; exact .inr hp) fun a h => by simp at h; subst h; exact ⟨_, upd_same, trivial⟩
theorem SS.growD (h : SS C σ H ρ (vs ++ [.ref l] ++ xs ++ [w]) (τ ++ [.dct acc] ++ ts ++ [x])) (hτ : τ.length = vs.length) {d : D} (hd : frz x = some d) (j : Key) :
    ∃ zs, H l = some (.dK zs) ∧ zs.length = acc.length ∧ SS C σ (upd H l (.dK (putK zs j w))) ρ (vs ++ [.ref l] ++ xs) (τ ++ [.dct (putD acc j d)] ++ ts) := by
  obtain ⟨ow, I⟩ := h
  have hl := I.lt
  simp at hl
  have hts : ts.length = xs.length := by omega
  let n := ρ.length + τ.length
  let m := ρ.length + (τ.length + 1 + ts.length)
  obtain ⟨v, hv, r⟩ := I.temp (j := τ.length) (t := .dct acc) (by simp)
  have ev : v = .ref l := by rw [hτ] at hv; simp at hv; exact hv.symm
  subst ev
  have rtop := I.top
  have em : ρ.length + (τ ++ [T.dct acc] ++ ts).length = m := by simp [m]; omega
  rw [em] at rtop
  have own_inv : ∃ zs, H l = some (.dK zs) ∧ DKs C.K (Bar C ow) H acc zs ∧ ow n = [l] := by
    obtain ⟨a, zs, ea, e, q, eo⟩ := r.dct_inv
    cases ea
    exact ⟨zs, e, q, eo⟩
  obtain ⟨zs, hz, dz, on⟩ := own_inv
  have lb : ∀ k, k ≠ n → l ∉ ow k := fun k hk q => I.dj n k l (Ne.symm hk) (by rw [on]; simp) q
  have hnm : n < m := by simp [n, m]; omega
  have low : ∀ (k : Nat) (α : Type) (A B E : List α), k < A.length → (A ++ B)[k]? = (A ++ E)[k]? := fun k α A B E h => by rw [List.getElem?_append_left h, List.getElem?_append_left h]
  let ow' : Nat → List Addr := fun k => if k = n then [l] else if k = m then [] else ow k
  have barN : ∀ b, Bar C ow' b → b = l ∨ (∃ k, k ≠ n ∧ k ≠ m ∧ b ∈ ow k) ∨ C.B0 b := fun b z => by
    rcases z with ⟨k, z⟩ | z
    · have z : b ∈ (if k = n then [l] else if k = m then [] else ow k) := z
      split at z
      · exact .inl (by simpa using z)
      · split at z
        · simp at z
        · exact .inr (.inl ⟨k, by assumption, by assumption, z⟩)
    · exact .inr (.inr z)
  have lN : Bar C ow' l := .inl ⟨n, by show l ∈ (if n = n then [l] else if n = m then [] else ow n); rw [if_pos rfl]; simp⟩
  refine ⟨zs, hz, dz.length.symm, ow', I.next (S := fun k => k = n ∨ m ≤ k) I.ln (by simp; omega) I.na (fun k hk => ?_) (fun k u hk e => ?_) rfl (fun b o e hb => ?_) (fun b z => ?_)
    (fun k a hk h => ?_) (fun m1 m2 k u hk e => ?_) (fun k hk => ?_) (fun i k a hj hk hjk h => ?_) (fun k a hk h => ?_) (fun i hi => rfl)⟩
  · show (if k = n then [l] else if k = m then [] else ow k) = ow k
    rw [if_neg (fun z => hk (.inl z)), if_neg (fun z => hk (.inr (by omega)))]
  · have h1 : k ≠ n := fun z => hk (.inl z)
    have h2 : k < m := by by_cases z : k < m; exact z; exact absurd (.inr (by omega)) hk
    refine ⟨?_, ?_, .inl rfl⟩
    · by_cases z : k < n
      · simp only [← List.append_assoc] at e ⊢
        rw [List.getElem?_append_left (by simp; omega), List.getElem?_append_left (by simp; omega)] at e
        rw [List.getElem?_append_left (by simp; omega), List.getElem?_append_left (by simp; omega), List.getElem?_append_left (by simp; omega)]
        exact e
      · simp only [← List.append_assoc] at e ⊢
        rw [List.getElem?_append_right (by simp; omega)] at e
        rw [List.getElem?_append_left (by simp; omega), List.getElem?_append_right (by simp; omega)]
        simpa using e
    · have z : k < (σ ++ List.map some (vs ++ [V.ref l] ++ xs)).length := by simp [← I.ln, ← hτ]; omega
      have e3 : (σ ++ List.map some (vs ++ [V.ref l] ++ xs ++ [w])) = (σ ++ List.map some (vs ++ [V.ref l] ++ xs)) ++ [some w] := by simp
      rw [e3]
      exact (List.getElem?_append_left z).symm
  · have : b ≠ l := fun z => hb n (.inl rfl) (by rw [on, z]; simp)
    rw [upd_ne this]; exact e
  · by_cases q : b = l
    · subst q; rw [upd_same]; simp
    · rw [upd_ne q]; exact z
  · have h : a ∈ (if k = n then [l] else if k = m then [] else ow k) := h
    split at h
    · simp at h; subst h; exact .inl ⟨n, .inl rfl, by rw [on]; simp⟩
    · split at h
      · simp at h
      · rename_i h1 h2
        exact .inl ⟨k, hk, h⟩
  · refine .inr ?_
    rcases hk with rfl | hk
    · have eu : u = .dct (putD acc j d) := by
        simp only [← List.append_assoc] at e
        rw [List.getElem?_append_left (by simp [n]), List.getElem?_append_right (by simp [n])] at e
        simp [n] at e; exact e.symm
      subst eu
      refine ⟨.ref l, ?_, ?_⟩
      · simp only [List.map_append, ← List.append_assoc]
        rw [List.getElem?_append_left (by simp [← I.ln, ← hτ, n]), List.getElem?_append_right (by simp [← I.ln, ← hτ, n])]
        simp [← I.ln, ← hτ, n]
      · show TIs _ _ _ _ _ _ _ (if n = n then [l] else if n = m then [] else ow n)
        rw [if_pos rfl]
        refine TIs.dctK upd_same ((dz.move m1).put ?_)
        have q : DIs C.K (Bar C ow') H d w := rtop.frz I.tupOk (fun b o e nb z => (m1 b o e nb).2 z) (fun a ha z => by
          rcases barN a z with rfl | ⟨k, h1, h2, h3⟩ | h
          · exact lb m (by omega) ha
          · exact I.dj k m a h2 h3 ha
          · exact I.nb0 ha h) hd
        exact q.move fun b o e nb => ⟨(by rw [upd_ne (fun z => nb (by rw [z]; exact lN))]; exact e), nb⟩
    · have : k < (ρ ++ (τ ++ [T.dct (putD acc j d)] ++ ts)).length := (List.getElem?_eq_some_iff.mp e).1
      simp at this
      omega
  · show (if k = n then [l] else if k = m then [] else ow k).Nodup
    split
    · simp
    · split
      · exact List.nodup_nil
      · exact I.nd k
  · have h : a ∈ (if i = n then [l] else if i = m then [] else ow i) := h
    show a ∉ (if k = n then [l] else if k = m then [] else ow k)
    split at h
    · simp at h; subst h
      rw [if_neg (by omega)]
      split
      · simp
      · exact lb k (by omega)
    · split at h
      · simp at h
      · split
        · simp only [List.mem_singleton]; intro z; exact lb i (by assumption) (by rw [← z]; exact h)
        · split
          · simp
          · exact I.dj i k a hjk h
  · have h : a ∈ (if k = n then [l] else if k = m then [] else ow k) := h
    split at h
    · simp at h; subst h; exact ⟨_, upd_same, trivial⟩
    · split at h
      · simp at h
      · obtain ⟨o, e, c⟩ := I.ot k a h
        rename_i h1 h2
        exact ⟨o, (by rw [upd_ne (fun z => lb k h1 (by rw [← z]; exact h))]; exact e), c⟩
end
def dDcGo (g : DG) (tt : DTt) (fk fv : DE) (own : List Nat) (K : DKv → List T → Prop) : List T → DKv → List T → Prop
  | [], acc, ρ => K acc ρ
  | t :: its, acc, ρ => g t ρ fun ρ1 => tt ρ1 fun b ρ2 => br b (fk ρ2 fun x ρ3 => wK (lk ρ3 x) fun j => fv ρ3 fun y ρ4 => wD (frz y) fun d => acc.length < sizeLine ∧ dDcGo g tt fk fv own K its (putD acc j d) (wipeT ρ4 own)) (dDcGo g tt fk fv own K its acc (wipeT ρ2 own))
def dDc (fi : DI) (g : DG) (tt : DTt) (fk fv : DE) (own : List Nat) : DE := fun ρ Q => fi ρ fun its ρ1 => dDcGo g tt fk fv own (fun ds ρ2 => Q (.dct ds) ρ2) its [] (wipeT ρ1 own)
section
variable {C : Ctx} {ek ev tge iter : Expr} {ifs : List Expr} {scope : Scope} {own : List (Str × Nat)} {pos : Pos} {fi : DI} {tt : DTt} {fk fv : DE} {tg : Tgt}
theorem sim_dc {wi : TI} (hi : SimI C wi fi) (h1 : ∀ i ∈ tg.sl, i ∈ own.map (·.2)) (h2 : ∀ i ∈ own.map (·.2), i ∉ C.lent ∧ i ∈ C.cv) :
    Sim C (tDc wi (tg.g C.K) (derT C tt) (derE C fk) (derE C fv) (own.map (·.2))) (dDc fi tg.d tt fk fv (own.map (·.2))) := fun σ H ρ vs τ Qd Q I h k => hi σ H ρ vs τ _ _ I h fun J H1 sv sx its ρ1 I1 nx wk q A hD => by
  let os := own.map (·.2)
  have hτ := I.ltE
  have hsx : sx.length = sv.length := by have := I1.ltE; simp at this; omega
  have hc : ∀ i ∈ os, i ∈ C.cv := fun i hi => (h2 i hi).2
  have hl : ∀ i ∈ os, i ∉ C.lent := fun i hi => (h2 i hi).1
  -- the new list under the sources
  have I2 : SS C σ (upd H1 A (.dK [])) (wipeT ρ1 os) (vs ++ [.ref A] ++ sv) (τ ++ [.dct []] ++ sx) := by
    obtain ⟨ow, J1⟩ := id I1
    have J2 : SS C σ (upd H1 A (.dK [])) ρ1 (vs ++ sv ++ [.ref A]) (τ ++ sx ++ [.dct []]) := by
      have J1' : SI C σ H1 ρ1 (vs ++ sv ++ []) (τ ++ sx ++ []) ow := by simpa using J1
      exact J1'.newD0 J1.lt hD
    have J3 := SS.under (vs := vs) (τ := τ) (sv := sv) (sx := sx) hsx (sv2 := []) (sx2 := []) rfl (by simpa using J2)
    have J4 : SS C σ (upd H1 A (.dK [])) ρ1 (vs ++ [.ref A] ++ sv) (τ ++ [.dct []] ++ sx) := by simpa using J3
    exact J4.toW rfl hc hl
  have hτ2 : (τ ++ [T.dct []]).length = (vs ++ [V.ref A]).length := by simp [hτ]
  refine ⟨fun i m H => m = its.length - i ∧ i ≤ its.length ∧ ∃ acc ρ, SS C σ H ρ (vs ++ [.ref A] ++ sv) (τ ++ [.dct acc] ++ sx) ∧ wipeT ρ os = ρ ∧ dDcGo tg.d tt fk fv os (fun ds ρ2 => Qd (.dct ds) ρ2) (its.drop i) acc ρ, ⟨_, rfl, Nat.zero_le _, [], _, I2, wipeT_idem _ _, q⟩, ?_⟩
  rintro i m H3 ⟨rfl, hle, acc, ρ3, I3, hw3, q3⟩
  have hτ3 : (τ ++ [T.dct acc]).length = (vs ++ [V.ref A]).length := by simp [hτ]
  have I3w : SS C (wipe σ os) H3 ρ3 (vs ++ [.ref A] ++ sv) (τ ++ [.dct acc] ++ sx) := by
    have := I3.toW (σ := wipe σ os) (own := os) (wipe_idem σ os).symm hc hl
    rwa [hw3] at this
  obtain ⟨st, go⟩ := wk i (wipe σ os) H3 ρ3 (vs ++ [.ref A]) (τ ++ [.dct acc]) hτ3 I3w
  by_cases hlt : i < its.length
  · have e : its[i]? = some its[i] := List.getElem?_eq_getElem hlt
    obtain ⟨g1, y⟩ := go _ e
    refine .inr ⟨g1, fun H' => ∃ acc ρ, SS C σ H' ρ (vs ++ [.ref A] ++ sv) (τ ++ [.dct acc] ++ sx) ∧ wipeT ρ os = ρ ∧ dDcGo tg.d tt fk fv os (fun ds ρ2 => Qd (.dct ds) ρ2) (its.drop (i + 1)) acc ρ, fun H' ⟨acc, ρ', I', hw', q'⟩ => ⟨_, by omega, rfl, by omega, acc, ρ', I', hw', q'⟩, fun w H4 hy => ?_⟩
    have I4 := y w H4 hy
    have nt : noAli its[i] = true ∨ noAli its[i] = false := by cases noAli its[i] <;> simp
    rw [List.drop_eq_getElem_cons hlt] at q3
    have back : ∀ {σ2 : St} {H5 : Hp} {ρ5 : List T} {acc5 : DKv}, wipe σ2 os = wipe σ os → SS C σ2 H5 ρ5 (vs ++ [.ref A] ++ sv) (τ ++ [.dct acc5] ++ sx) → dDcGo tg.d tt fk fv os (fun ds ρ2 => Qd (.dct ds) ρ2) (its.drop (i + 1)) acc5 (wipeT ρ5 os) →
        ∃ acc ρ, SS C σ H5 ρ (vs ++ [.ref A] ++ sv) (τ ++ [.dct acc] ++ sx) ∧ wipeT ρ os = ρ ∧ dDcGo tg.d tt fk fv os (fun ds ρ2 => Qd (.dct ds) ρ2) (its.drop (i + 1)) acc ρ := fun {σ2 H5 ρ5 acc5} hw I5 q5 => ⟨acc5, _, I5.toW hw hc hl, wipeT_idem _ _, q5⟩
    have hgo := Tgt.sim (C := C) (tg := tg) (fun i hi => h2 i (h1 i hi)) (wipe σ os) H4 ρ3 _ _ w its[i] _ (fun σ2 H2 => ∀ (hw : wipe σ2 os = wipe σ os), derT C tt σ2 H2 fun b H3 => if b = true then derE C fk σ2 H3 fun y H4 => derE C fv σ2 H4 fun z H5 => ∃ kvs k, y = kV k ∧ H5 A = some (.dK kvs) ∧ kvs.length < sizeLine ∧
        (∃ acc2 ρ, SS C σ (upd H5 A (.dK (putK kvs k z))) ρ (vs ++ [.ref A] ++ sv) (τ ++ [.dct acc2] ++ sx) ∧ wipeT ρ os = ρ ∧ dDcGo tg.d tt fk fv os (fun ds ρ2 => Qd (.dct ds) ρ2) (its.drop (i + 1)) acc2 ρ) else
        (∃ acc ρ, SS C σ H3 ρ (vs ++ [.ref A] ++ sv) (τ ++ [.dct acc] ++ sx) ∧ wipeT ρ os = ρ ∧ dDcGo tg.d tt fk fv os (fun ds ρ2 => Qd (.dct ds) ρ2) (its.drop (i + 1)) acc ρ)) I4 (tgd_na q3) q3 fun σ5 H5 ρ5 I5 q5 hw => ⟨ρ5, _, _, _, I5, q5, fun b H6 ρ6 I6 q6 => ?_⟩
    · have hon := Tgt.only (K := C.K) (own := os) h1 hgo
      exact tgt_mono hon fun σ' H' ⟨hq, hw⟩ => ⟨by rw [hw, wipe_idem], hq (by rw [hw, wipe_idem])⟩
    · cases b with
      | true =>
        rw [if_pos rfl]
        refine ⟨ρ6, _, _, _, I6, q6.t rfl, fun v7 H7 x7 ρ7 I7 q7 => ?_⟩
        obtain ⟨j, ej, q7⟩ := wK_some q7
        have ekv := kD_is (I7.lk1 ej)
        subst ekv
        refine ⟨ρ7, _, _, _, I7, q7, fun v8 H8 x8 ρ8 I8 q8 => ?_⟩
        obtain ⟨d, ed, q8⟩ := wD_some q8
        have I8' : SS C σ5 H8 ρ8 (vs ++ [.ref A] ++ (sv ++ [kV j]) ++ [v8]) (τ ++ [.dct acc] ++ (sx ++ [x7]) ++ [x8]) := by simpa using I8
        obtain ⟨zs, hz, hzl, I9⟩ := I8'.growD hτ ed j
        have I10 : SS C σ5 (upd H8 A (.dK (putK zs j v8))) ρ8 (vs ++ [.ref A] ++ sv ++ [kV j]) (τ ++ [.dct (putD acc j d)] ++ sx ++ [x7]) := by simpa using I9
        exact ⟨zs, j, rfl, hz, by omega, back hw I10.pop q8.2⟩
      | false =>
        rw [if_neg (by decide)]
        exact back hw I6 (q6.f rfl)
  · have e : i = its.length := by omega
    subst e
    rw [List.drop_length] at q3
    have I5 : SS C σ H3 ρ3 (vs ++ [.ref A]) (τ ++ [.dct acc]) := I3.drop hτ3
    exact .inl ⟨st (Nat.le_refl _), k _ _ _ _ I5 q3⟩
theorem de_dc (hc : C.X.calm = true) (hN : C.X.N.Nodup) (hi : DPI C tge iter fi) (ok : BlkOk C.X.N C.X.env.scope scope own) (hg : TgtOk C tge tg scope)
    (ht : ∀ (s : Shared) (H : Hp) (Cc : Addr) (cl : List (Str × Addr)) (fp : List Addr), DPTs (C.blk s H scope Cc cl fp) ifs tt) (hk : ∀ (s : Shared) (H : Hp) (Cc : Addr) (cl : List (Str × Addr)) (fp : List Addr), DPE (C.blk s H scope Cc cl fp) ek fk) (he : ∀ (s : Shared) (H : Hp) (Cc : Addr) (cl : List (Str × Addr)) (fp : List Addr), DPE (C.blk s H scope Cc cl fp) ev fv)
    (h1 : ∀ i ∈ tg.sl, i ∈ own.map (·.2)) (h2 : ∀ i ∈ own.map (·.2), i ∉ C.lent ∧ i ∈ C.cv) (hs : ∀ x, foldedSetIterable iter C.X.env x = pure x := by intro _; rfl) :
    DPE C (.DictComp ek ev [⟨tge, iter, ifs, 0⟩] scope pos) (dDc fi tg.d tt fk fv (own.map (·.2))) :=
  let ⟨_, p, s⟩ := hi.ex
  ⟨_, pe_dc hc hN p ok (fun s H Cc cl fp => hg.pg s H Cc cl fp) (fun s H Cc cl fp => pts_der (ht s H Cc cl fp)) (fun s H Cc cl fp => pe_der (hk s H Cc cl fp)) (fun s H Cc cl fp => pe_der (he s H Cc cl fp)) hs, sim_dc s h1 h2⟩
/-- a name of the text that reads as data -/
structure HasT (K : PySem.W.Frag) (mg : Str → Option Value) (x : Str) (d : D) : Prop where
  ex : ∃ u v, mg x = some u ∧ RelV v u ∧ ∀ B H, DIs K B H d v
theorem de_constT {x : Str} {d : D} (h : HasT C.X.K C.X.mg x d) (hg : Gl C.X x) (hd : (x == ("__debug__" : Str)) = false := by decide) : DPE C (.Name x pos) (dC d) :=
  let ⟨_, _, h1, h2, h3⟩ := h.ex
  ⟨_, pe_glob hg h1 h2 hd, fun σ H ρ vs τ Qd Q I q k => k _ _ _ _ (I.push0 fun _ _ => .dat (h3 _ _)) q⟩
theorem HasT.tup {K : PySem.W.Frag} {mg : Str → Option Value} {x : Str} {a : Addr} {oc : Value} {od : Option Addr} {its : Array Value} {n : Nat} {sl : Array (Option Value)} {ds : List D} {vs : List V} (hm : mg x = some (.ref a)) (hl : K.lookup a = some ⟨oc, od, .seq its n, sl⟩) (hc : oc = .type "tuple") (hz : its.size ≤ sizeLine) (hv : Vals vs its.toList) (hd : ds.map sv = vs.map some) : HasT K mg x (.tuple ds) :=
  ⟨_, .ref a, hm, rfl, fun B H => .tuple (.inr ⟨_, its, n, hl, hc, rfl, hz, hv⟩) (by
    have go : ∀ {ds : List D} {zs : List V}, ds.map sv = zs.map some → DIsL K B H ds zs := by
      intro ds
      induction ds with
      | nil => intro zs e; cases zs with
        | nil => exact .nil
        | cons z zs => simp at e
      | cons d ds ih => intro zs e; cases zs with
        | nil => simp at e
        | cons z zs =>
          simp only [List.map_cons, List.cons.injEq] at e
          exact .cons (sv_is e.1) (ih e.2)
    exact go hd)⟩
end
theorem RoomG.u1 {k : Nat} {A : Around} (r : RoomG k A) : A.units + 1 < cLine := by have := r.rm.un; omega
/-- one name, no test -/
theorem dc_mp {α : Type} {i : Nat} {fk fv : DE} {K : DKv → List T → Prop} {ρ : List T} (its : List α) (tg : α → T) (kk : α → D) (gv : α → D) (hw : ρ.set i .emp = ρ) (na : ∀ a ∈ its, noAli (tg a) = true) (kj : α → Key) (hkj : ∀ a ∈ its, kk a = kD (kj a)) (hl : its.length ≤ sizeLine)
    (hk : ∀ a ∈ its, ∀ P : T → List T → Prop, (∀ y, lk (ρ.set i (tg a)) y = some (kk a) → P y (ρ.set i (tg a))) → fk (ρ.set i (tg a)) P) (he : ∀ a ∈ its, ∀ P : T → List T → Prop, (∀ y, frz y = some (gv a) → P y (ρ.set i (tg a))) → fv (ρ.set i (tg a)) P)
    (hK : K (its.foldl (fun acc a => putD acc (kj a) (gv a)) []) ρ) : dDcGo (dgName i) dYes fk fv [i] K (its.map tg) [] ρ := by
  have plen : ∀ (ps : DKv) (k : Key) (d : D), (putD ps k d).length ≤ ps.length + 1 := fun ps k d => by unfold putD; split <;> simp
  have go : ∀ (l : List α) (acc : DKv), (∀ a ∈ l, a ∈ its) → acc.length + l.length ≤ sizeLine → K (l.foldl (fun acc a => putD acc (kj a) (gv a)) acc) ρ → dDcGo (dgName i) dYes fk fv [i] K (l.map tg) acc ρ := by
    intro l
    induction l with
    | nil => intro acc _ _ h; exact h
    | cons a l ih =>
      intro acc hm hl h
      have ha := hm a (List.mem_cons_self ..)
      show dgName i (tg a) ρ _
      refine dgn_i (Q := fun ρ1 => dYes ρ1 fun b ρ2 => br b (fk ρ2 fun x ρ3 => wK (lk ρ3 x) fun j => fv ρ3 fun y ρ4 => wD (frz y) fun d => acc.length < sizeLine ∧ dDcGo (dgName i) dYes fk fv [i] K (l.map tg) (putD acc j d) (wipeT ρ4 [i])) (dDcGo (dgName i) dYes fk fv [i] K (l.map tg) acc (wipeT ρ2 [i]))) (na a ha) (br_t rfl ?_)
      refine hk a ha _ fun y hy => ?_
      rw [hy, hkj a ha]
      have e : ∀ P : Key → Prop, P (kj a) → wK (some (kD (kj a))) P := fun P h => by cases e : kj a <;> rw [e] at h <;> exact h
      refine e _ (he a ha _ fun z hz => wD_i hz ⟨by simp at hl; omega, ?_⟩)
      show dDcGo _ _ _ _ _ _ _ _ ((ρ.set i (tg a)).set i .emp)
      rw [List.set_set, hw]
      have := plen acc (kj a) (gv a)
      exact ih _ (fun b hb => hm b (List.mem_cons_of_mem _ hb)) (by simp at hl ⊢; omega) h
  exact go its [] (fun _ h => h) (by simpa using hl) hK
end Ds
namespace Ds
open PySem L2
section
variable {C : Ctx} {a b c : Expr} {fa fb fc : DE} {pos : Pos}
theorem sim_chain {p1 p2 : Int → Int → Bool} {ta tb tc : TE} (sa : Sim C ta fa) (sb : Sim C tb fb) (sc : Sim C tc fc) : Sim C (tChain (rI0 fun i j => .bl (p1 i j)) (rI0 fun i j => .bl (p2 i j)) ta tb tc) (dChain p1 p2 fa fb fc) :=
  fun σ H ρ vs τ Qd Q I q k => sa σ H ρ vs τ _ _ I q fun u H1 x ρ1 I1 q1 => sb σ H1 ρ1 _ _ _ _ I1 q1 fun v H2 y ρ2 I2 q2 => by
    obtain ⟨i, e1, q2⟩ := wI_some q2
    obtain ⟨j, e2, q2⟩ := wI_some q2
    have hy := (I2.lk1 e2).int_eq
    refine ⟨i, j, (I2.lk2 e1).int_eq, hy, _, rfl, ?_⟩
    generalize p1 i j = bb at q2 ⊢
    cases bb with
    | true =>
      rw [if_pos rfl]
      refine sc σ H2 ρ2 vs τ _ _ I2.pop2 (q2.t rfl) fun w H3 z ρ3 I3 q3 => ?_
      obtain ⟨n, e3, q3⟩ := wI_some q3
      exact ⟨j, n, hy, (I3.lk1 e3).int_eq, k _ _ _ _ (I3.pop.bool _) q3⟩
    | false => rw [if_neg (by decide)]; exact k _ _ _ _ (I2.pop2.bool _) (q2.f rfl)
theorem dt_chain {op op' : CmpOp} {p1 p2 : Int → Int → Bool} (h1 : OpR C.X (compareOp op) (rI0 fun i j => .bl (p1 i j))) (h2 : OpR C.X (compareOp op') (rI0 fun i j => .bl (p2 i j))) (ha : DPE C a fa) (hb : DPE C b fb) (hc : DPE C c fc)
    (hm : lastMarks [op, op'] [b, c] = false := by with_unfolding_all rfl) : DPT C (.Compare a [op, op'] [b, c] pos) (tVal (dChain p1 p2 fa fb fc)) :=
  let ⟨_, pa, sa⟩ := ha.ex; let ⟨_, pb, sb⟩ := hb.ex; let ⟨_, pc, sc⟩ := hc.ex
  ⟨_, pt_chain h1 h2 pa pb pc hm, sim_test (sim_chain sa sb sc)⟩
end
end Ds
namespace Ds
open PySem L2
def rngI (a b : Int) : List Int := (List.range (b - a).toNat).map fun i => a + ((i : Nat) : Int)
theorem rgV_ints (a b : Int) : rgV a b = (rngI a b).map V.int := by unfold rgV rngI; rw [List.map_map]; rfl
def dLstRg1 (fe : DE) : DE := fun ρ Q => fe ρ fun x ρ1 => wI (lk ρ1 x) fun j => RgOk 0 j ∧ Q (.own ((rngI 0 j).map .int)) ρ1
section
variable {C : Ctx} {e : Expr} {fe : DE} {p p1 pos pos1 : Pos}
theorem de_lstRg1 (hc : C.X.calm = true) (hg : Gl C.X "list") (hm : C.X.mg "list" = none) (hg1 : Gl C.X "range") (hm1 : C.X.mg "range" = none) (he : DPE C e fe) (hs : starEach [e] C.X.env = (false, eval e C.X.env) :: starEach [] C.X.env := by rfl)
    (hs1 : starEach [.Call (.Name "range" p1) [e] [] pos1] C.X.env = (false, eval (.Call (.Name "range" p1) [e] [] pos1) C.X.env) :: starEach [] C.X.env := by rfl) :
    DPE C (.Call (.Name "list" p) [.Call (.Name "range" p1) [e] [] pos1] [] pos) (dLstRg1 fe) :=
  let ⟨_, pe, se⟩ := he.ex
  ⟨_, pe_listRg hc hg hm (prg_1 hg1 hm1 pe hs) hs1, fun σ H ρ vs τ Qd Q I h k => se σ H ρ vs τ _ _ I h fun v H1 t ρ1 I1 q => by
    obtain ⟨j, ej, ok, q⟩ := wI_some q
    refine ⟨j, (I1.lk1 ej).int_eq, ok, fun l hl => ?_⟩
    rw [rgV_ints]
    have hτ := I.ltE
    obtain ⟨ow, J⟩ := id I1
    exact k _ _ _ _ (J.newL hτ hl ints_is) q⟩
end
end Ds
namespace Ds
open PySem L2
theorem for_disp {fi : DI} {g : DG} {f : DS} {D : DEnds} {ρ : List T} (its : List T) (ρ1 : List T) (h : ∀ Q : List T → List T → Prop, Q its ρ1 → fi ρ Q) (h2 : dFor g f D its ρ1) : dForS fi g f D ρ := h _ h2
theorem lst_disp {f : DA} {ρ : List T} {ds : List D} {Q : T → List T → Prop} (ts : List T) (h : ∀ K : List T → List T → Prop, K ts ρ → f ρ K) (e : frzL ts = some ds) (hs : small 1000 ts = true) (q : Q (.own ds) ρ) : dLst f ρ Q := by
  unfold dLst
  refine h _ ?_
  simp only [hs]
  unfold mkL
  simp only [e]
  exact q
theorem asg_disp {f : DA} {i : Nat} {De : DEnds} {ρ : List T} {ds : List D} (ts : List T) (h : ∀ K : List T → List T → Prop, K ts ρ → f ρ K) (e : frzL ts = some ds) (hs : small 1000 ts = true) (q : De.nx (ρ.set i (.own ds))) : dAsg (dLst f) (dgName i) De ρ :=
  lst_disp ts h e hs (Q := fun x ρ1 => dgName i x ρ1 De.nx) (dgn_i rfl q)
theorem add_disp {f : DA} {i j : Nat} {De : DEnds} {ρ : List T} {ds es : List D} (ts : List T) (e1 : ρ[i]? = some (.own ds)) (h : ∀ K : List T → List T → Prop, K ts ρ → f ρ K) (e : frzL ts = some es) (hs : small 1000 ts = true) (hl : ds.length + es.length ≤ sizeLine) (q : De.nx (ρ.set j (.own (ds ++ es)))) :
    dAsg (dOp dAdd (dVar i) (dLst f)) (dgName j) De ρ := by
  show dVar i ρ fun x ρ1 => dLst f ρ1 fun y ρ2 => dAdd ρ2 x y fun z ρ3 => dgName j z ρ3 De.nx
  unfold dVar
  rw [e1]
  refine lst_disp ts h e hs ?_
  unfold dAdd
  have l1 : lk ρ (.ali i) = some (.list ds) := by show (ρ[i]?).bind toD = _; rw [e1]; rfl
  have l2 : lk ρ (.own es) = some (.list es) := rfl
  have d1 : dr ρ (.ali i) = .own ds := by show (ρ[i]?).getD .emp = _; rw [e1]; rfl
  rw [l1, l2]
  show wL (dr ρ (.ali i)) _
  rw [d1]
  exact ⟨hl, dgn_i rfl q⟩
end Ds
namespace Lw
open PySem L2 Ds
def reelM : Int := 2 ^ 64 * 2 ^ 63 - 1
/-- a source of numbers: great ones, cells, count, stir -/
structure Reel where
  g : List Int
  c : List Int
  n : Int
  s : Int
def Reel.d (r : Reel) : List D := [.list (r.g.map .int), .list (r.c.map .int), .int r.n, .int r.s]
structure Reel.Ok (r : Reel) (b : Nat) : Prop where
  c0 : r.c ≠ []
  cb : ∀ x ∈ r.c, 0 ≤ x ∧ x < 1000003
  cl : r.c.length ≤ 64
  n0 : 0 ≤ r.n
  nb : r.n ≤ b
  s0 : 0 ≤ r.s
  sb : r.s < 2 ^ 132
  gl : r.g.length ≤ 63
  gb : ∀ x ∈ r.g, 0 ≤ x
theorem Reel.Ok.mono {r : Reel} {a b : Nat} (h : r.Ok a) (hab : a ≤ b) : r.Ok b := ⟨h.c0, h.cb, h.cl, h.n0, by have := h.nb; omega, h.s0, h.sb, h.gl, h.gb⟩
def Reel.extra (r : Reel) : Int := r.c.getD ((r.n + 1) % (r.c.length : Int)).toNat 0
def Reel.stir (r : Reel) : Int := (r.s * r.s + (r.extra + 17) * 27644437 + (r.n + 1) * 999959) % reelM
/-- a draw: its value, the source behind it -/
def Reel.draw (r : Reel) (m : Int) : Int × Reel := match r.g with
  | x :: g => (x % m, ⟨(if x < m then [] else [x / m]) ++ g, r.c, r.n, r.s⟩)
  | [] => (r.stir / 2 ^ 41 % m, ⟨[], r.c, r.n + 1, r.stir⟩)
theorem Reel.draw_ok {r : Reel} {m : Int} {b : Nat} (h : r.Ok b) (hm : 0 < m) : 0 ≤ (r.draw m).1 ∧ (r.draw m).1 < m ∧ (r.draw m).2.Ok (b + 1) := by
  have hM : (0 : Int) < reelM := by decide
  unfold Reel.draw
  split
  · rename_i x g e
    have hx : 0 ≤ x := h.gb x (by rw [e]; simp)
    refine ⟨Int.emod_nonneg _ (by omega), Int.emod_lt_of_pos _ hm, h.c0, h.cb, h.cl, h.n0, by have := h.nb; show r.n ≤ _; omega, h.s0, h.sb, ?_, ?_⟩
    · have := h.gl
      rw [e] at this
      dsimp only
      split <;> simp at this ⊢ <;> omega
    · intro y hy
      dsimp only at hy
      rcases List.mem_append.mp hy with z | z
      · split at z
        · simp at z
        · simp at z; rw [z]; exact Int.ediv_nonneg hx (by omega)
      · exact h.gb y (by rw [e]; simp [z])
  · refine ⟨Int.emod_nonneg _ (by omega), Int.emod_lt_of_pos _ hm, h.c0, h.cb, h.cl, by have := h.n0; dsimp only; omega, by have := h.nb; dsimp only; omega, Int.emod_nonneg _ (by omega), Int.lt_trans (Int.emod_lt_of_pos _ hM) (by decide), by simp, by simp⟩
def reelStep (s c : Int) : Int := (s * s + c % 1000000000000000003 + 29) % reelM
def reelOf (ns : List Int) : Reel := ⟨(ns.filter fun c => decide (10 ^ 18 ≤ c)).map (· - 10 ^ 18), ns.map (· % 1000003) ++ [57], 0, ns.foldl reelStep (23 ^ 29)⟩
theorem stirs_ok (ns : List Int) : 0 ≤ ns.foldl reelStep (23 ^ 29) ∧ ns.foldl reelStep (23 ^ 29) < 2 ^ 132 := by
  have hM : (0 : Int) < reelM := by decide
  have go : ∀ (ns : List Int) (s : Int), 0 ≤ s ∧ s < 2 ^ 132 → 0 ≤ ns.foldl reelStep s ∧ ns.foldl reelStep s < 2 ^ 132 := by
    intro ns
    induction ns with
    | nil => intro s h; exact h
    | cons c ns ih =>
      intro s h
      exact ih _ ⟨Int.emod_nonneg _ (by omega), Int.lt_trans (Int.emod_lt_of_pos _ hM) (by decide)⟩
  exact go ns _ (by decide)
theorem reelOf_ok {ns : List Int} (h : ns.length ≤ 63) : (reelOf ns).Ok 0 := by
  obtain ⟨h1, h2⟩ := stirs_ok ns
  refine ⟨by simp [reelOf], fun x hx => ?_, by simp [reelOf]; omega, Int.le_refl _, Int.le_refl _, h1, h2, ?_, fun x hx => ?_⟩
  · simp only [reelOf, List.mem_append, List.mem_map, List.mem_singleton] at hx
    rcases hx with ⟨y, _, rfl⟩ | rfl
    · exact ⟨Int.emod_nonneg _ (by decide), Int.emod_lt_of_pos _ (by decide)⟩
    · decide
  · simp only [reelOf, List.length_map]
    exact Nat.le_trans (List.length_filter_le ..) h
  · simp only [reelOf, List.mem_map, List.mem_filter, decide_eq_true_eq] at hx
    obtain ⟨y, ⟨_, hy⟩, rfl⟩ := hx
    omega
def isIntB : D → Int → D → Bool
  | .int i, lo, .none => decide (lo ≤ i)
  | .int i, lo, .int h => decide (lo ≤ i) && decide (i ≤ h)
  | _, _, _ => false
def isLstB : D → Bool
  | .list _ => true
  | .tuple _ => true
  | _ => false
def isRunB : D → Bool
  | .list [c, n] => isIntB c (-1) (.int 1) && isIntB n 1 (.int (1000000000000000000000000000000 : Int))
  | .tuple [c, n] => isIntB c (-1) (.int 1) && isIntB n 1 (.int (1000000000000000000000000000000 : Int))
  | _ => false
def runFst : D → D
  | .list (c :: _) => c
  | .tuple (c :: _) => c
  | _ => .none
def chainB : List D → Bool
  | a :: b :: r => !PyData.eqv (runFst a) (runFst b) && chainB (b :: r)
  | _ => true
def recL (ds : List D) : Bool := decide (ds.length ≤ 400) && ds.all isRunB && chainB ds
def isRecB : D → Bool
  | .list ds => recL ds
  | .tuple ds => recL ds
  | _ => false
theorem isInt_inv {d : D} {lo hi : Int} (h : isIntB d lo (.int hi) = true) : ∃ i : Int, d = .int i ∧ lo ≤ i ∧ i ≤ hi := by
  cases d <;> simp [isIntB] at h
  exact ⟨_, rfl, h⟩
theorem isRun_inv {d : D} (h : isRunB d = true) : ∃ c n : Int, (d = .list [.int c, .int n] ∨ d = .tuple [.int c, .int n]) ∧ -1 ≤ c ∧ c ≤ 1 ∧ 1 ≤ n ∧ n ≤ (1000000000000000000000000000000 : Int) := by
  unfold isRunB at h
  split at h
  · rw [Bool.and_eq_true] at h
    obtain ⟨c, rfl, h1, h2⟩ := isInt_inv h.1
    obtain ⟨n, rfl, h3, h4⟩ := isInt_inv h.2
    exact ⟨c, n, .inl rfl, h1, h2, h3, h4⟩
  · rw [Bool.and_eq_true] at h
    obtain ⟨c, rfl, h1, h2⟩ := isInt_inv h.1
    obtain ⟨n, rfl, h3, h4⟩ := isInt_inv h.2
    exact ⟨c, n, .inr rfl, h1, h2, h3, h4⟩
  · cases h
theorem chain_zip : ∀ ds : List D, ((ds.zip (ds.drop 1)).map fun p => !PyData.eqv (runFst p.1) (runFst p.2)).all id = chainB ds
  | [] => rfl
  | [_] => rfl
  | a :: b :: r => by
    have ih := chain_zip (b :: r)
    simp only [List.drop_succ_cons, List.drop_zero, List.zip_cons_cons, List.map_cons, List.all_cons, id, chainB] at ih ⊢
    rw [ih]
def drun (p : Int × Int) : D := .tuple [.int p.1, .int p.2]
def Chn (rs : List (Int × Int)) : Prop := ∀ (i : Nat) (a b : Int × Int), rs[i]? = some a → rs[i + 1]? = some b → a.1 ≠ b.1
/-- runs: at most m, counts up to L -/
structure Runs (m : Nat) (L : Int) (rs : List (Int × Int)) : Prop where
  len : rs.length ≤ m
  chg : ∀ p ∈ rs, -1 ≤ p.1 ∧ p.1 ≤ 1
  cnt : ∀ p ∈ rs, 1 ≤ p.2 ∧ p.2 ≤ L
  chn : Chn rs
theorem Chn.snoc {rs : List (Int × Int)} {x : Int × Int} (h : Chn rs) (hx : ∀ a, rs.getLast? = some a → a.1 ≠ x.1) : Chn (rs ++ [x]) := by
  intro i a b ha hb
  have hi := (List.getElem?_eq_some_iff.mp hb).1
  simp at hi
  by_cases z : i + 1 < rs.length
  · rw [List.getElem?_append_left (by omega)] at ha
    rw [List.getElem?_append_left z] at hb
    exact h i a b ha hb
  · have e : i + 1 = rs.length := by omega
    rw [List.getElem?_append_left (by omega)] at ha
    rw [List.getElem?_append_right (by omega), e, Nat.sub_self] at hb
    simp at hb
    subst hb
    refine hx a ?_
    rw [List.getLast?_eq_getElem?, show rs.length - 1 = i by omega]
    exact ha
theorem Runs.nil {m : Nat} {L : Int} : Runs m L [] := ⟨Nat.zero_le _, by simp, by simp, fun i a b h => by simp at h⟩
theorem Runs.snoc {m : Nat} {L : Int} {rs : List (Int × Int)} {c n : Int} (h : Runs m L rs) (hx : ∀ a, rs.getLast? = some a → a.1 ≠ c) (c0 : -1 ≤ c) (c1 : c ≤ 1) (n0 : 1 ≤ n) (n1 : n ≤ L) : Runs (m + 1) L (rs ++ [(c, n)]) :=
  ⟨by have := h.len; simp; omega, fun p hp => by rcases List.mem_append.mp hp with hp | hp; exact h.chg p hp; simp at hp; subst hp; exact ⟨c0, c1⟩,
   fun p hp => by rcases List.mem_append.mp hp with hp | hp; exact h.cnt p hp; simp at hp; subst hp; exact ⟨n0, n1⟩, h.chn.snoc hx⟩
theorem Runs.mono {m m' : Nat} {L L' : Int} {rs : List (Int × Int)} (h : Runs m L rs) (hm : m ≤ m') (hL : L ≤ L') : Runs m' L' rs := ⟨Nat.le_trans h.len hm, h.chg, fun p hp => ⟨(h.cnt p hp).1, Int.le_trans (h.cnt p hp).2 hL⟩, h.chn⟩
theorem lay_run (p : Int × Int) : Lay 1 (drun p) := .tuple fun x hx => by simp at hx; rcases hx with rfl | rfl <;> exact .int
theorem lay_runs (rs : List (Int × Int)) : Lay 2 (.list (rs.map drun)) := .list fun x hx => by obtain ⟨p, _, rfl⟩ := List.mem_map.mp hx; exact lay_run p
theorem gI_last {α : Type} (l : List α) : gI l (-1) = l.getLast? := by
  show l.reverse[0]? = _
  rw [← List.head?_eq_getElem?, List.head?_reverse]
def mrgStep (acc : List (Int × Int)) (p : Int × Int) : List (Int × Int) := match acc.getLast? with
  | some q => if q.1 = p.1 then acc.dropLast ++ [(p.1, p.2 + q.2)] else acc ++ [p]
  | none => [p]
/-- neighbouring runs with the same change made one -/
def mergeR (rs : List (Int × Int)) : List (Int × Int) := rs.foldl mrgStep []
theorem mergeR_snoc (rs : List (Int × Int)) (p : Int × Int) : mergeR (rs ++ [p]) = mrgStep (mergeR rs) p := by simp only [mergeR, List.foldl_append, List.foldl_cons, List.foldl_nil]
theorem mrgStep_len (acc : List (Int × Int)) (p : Int × Int) : (mrgStep acc p).length ≤ acc.length + 1 := by
  unfold mrgStep
  split
  · split <;> simp
  · simp
theorem mergeR_len (rs : List (Int × Int)) : (mergeR rs).length ≤ rs.length := by
  have go : ∀ (l acc : List (Int × Int)), (l.foldl mrgStep acc).length ≤ acc.length + l.length := by
    intro l
    induction l with
    | nil => intro acc; simp
    | cons p l ih => intro acc; have := ih (mrgStep acc p); have := mrgStep_len acc p; simp only [List.foldl_cons, List.length_cons] at *; omega
  exact Nat.le_trans (go rs []) (by simp)
theorem last_run {acc : List (Int × Int)} (e : PyData.eqv (.list (acc.map drun)) (.list []) = false) : ∃ q, acc.getLast? = some q := by
  cases h : acc.getLast? with
  | none => rw [List.getLast?_eq_none_iff] at h; subst h; rw [List.map_nil, eqv_nil_nil] at e; cases e
  | some p => exact ⟨p, rfl⟩
theorem nil_run {acc : List (Int × Int)} (e : PyData.eqv (.list (acc.map drun)) (.list []) = true) : acc = [] := by
  cases acc with | nil => rfl | cons a l => rw [List.map_cons, eqv_cons_nil] at e; cases e
theorem gI_run {acc : List (Int × Int)} {q : Int × Int} (h : acc.getLast? = some q) : gI (acc.map drun) (-1) = some (drun q) := by rw [gI_last, List.getLast?_map, h]; rfl
theorem pop_run {acc : List (Int × Int)} {q : Int × Int} (h : acc.getLast? = some q) : (acc.map drun).getLast? = some (drun q) := by rw [List.getLast?_map, h]; rfl
mutual
/-- tuples as lists -/
def und : D → D
  | .list ds => .list (undL ds)
  | .tuple ds => .list (undL ds)
  | d => d
def undL : List D → List D
  | [] => []
  | d :: ds => und d :: undL ds
end
mutual
/-- how many parts; 0 if a dict lies within -/
def ndD : D → Nat
  | .list ds => 1 + ndL ds
  | .tuple ds => 1 + ndL ds
  | _ => 1
def ndL : List D → Nat
  | [] => 0
  | d :: ds => ndD d + ndL ds
end
mutual
def noDct : D → Bool
  | .list ds => noDctL ds
  | .tuple ds => noDctL ds
  | .dict _ => false
  | _ => true
def noDctL : List D → Bool
  | [] => true
  | d :: ds => noDct d && noDctL ds
end
theorem ndD_pos : ∀ d, 1 ≤ ndD d
  | .list ds => by simp only [ndD]; omega
  | .tuple ds => by simp only [ndD]; omega
  | .none => Nat.le_refl _
  | .bool _ => Nat.le_refl _
  | .int _ => Nat.le_refl _
  | .str _ => Nat.le_refl _
  | .dict _ => Nat.le_refl _
theorem ndL_len : ∀ ds, ds.length ≤ ndL ds
  | [] => Nat.le_refl _
  | d :: ds => by have := ndL_len ds; have := ndD_pos d; simp only [ndL, List.length_cons]; omega
theorem undL_append : ∀ a b, undL (a ++ b) = undL a ++ undL b
  | [], b => rfl
  | d :: a, b => by simp only [List.cons_append, undL, undL_append a b]
theorem ndL_append : ∀ a b, ndL (a ++ b) = ndL a + ndL b
  | [], b => by simp [ndL]
  | d :: a, b => by simp only [List.cons_append, ndL, ndL_append a b]; omega
theorem ndL_take (ds : List D) (j : Nat) (d : D) (h : ds[j]? = some d) : ndL (ds.take j) + ndD d ≤ ndL ds := by
  have e : ds.take (j + 1) = ds.take j ++ [d] := by rw [List.take_succ, h]; rfl
  have e2 := congrArg ndL (List.take_append_drop (j + 1) ds)
  rw [e, ndL_append, ndL_append] at e2
  simp only [ndL] at e2
  omega
theorem noDctL_get : ∀ {ds : List D} {j : Nat} {d : D}, noDctL ds = true → ds[j]? = some d → noDct d = true
  | [], _, _, _, e => by simp at e
  | x :: ds, 0, d, h, e => by simp only [noDctL, Bool.and_eq_true] at h; simp at e; subst e; exact h.1
  | x :: ds, j + 1, d, h, e => by simp only [noDctL, Bool.and_eq_true] at h; exact noDctL_get (j := j) h.2 (by simpa using e)
theorem depth_get : ∀ {ds : List D} {j : Nat} {d : D}, ds[j]? = some d → d.depth ≤ PyData.depthAll ds
  | [], _, _, e => by simp at e
  | x :: ds, 0, d, e => by simp at e; subst e; simp only [PyData.depthAll]; omega
  | x :: ds, j + 1, d, e => by have := depth_get (ds := ds) (j := j) (d := d) (by simpa using e); simp only [PyData.depthAll]; omega
theorem und_int {d : D} {i : Int} (h : und d = .int i) : d = .int i := by cases d <;> simp only [und] at h <;> first | exact h | cases h
theorem und_lst {d : D} {us : List D} (h : und d = .list us) : ∃ ds, (d = .list ds ∨ d = .tuple ds) ∧ undL ds = us := by
  cases d <;> simp only [und] at h <;> first | cases h | skip
  · exact ⟨_, .inl rfl, rfl⟩
  · exact ⟨_, .inr rfl, rfl⟩
theorem undL_cons_inv {ds : List D} {u : D} {us : List D} (h : undL ds = u :: us) : ∃ d r, ds = d :: r ∧ und d = u ∧ undL r = us := by
  cases ds with
  | nil => cases h
  | cons d r => simp only [undL, List.cons.injEq] at h; exact ⟨d, r, rfl, h.1, h.2⟩
theorem undL_nil_inv {ds : List D} (h : undL ds = []) : ds = [] := by cases ds with | nil => rfl | cons d r => cases h
theorem undL_ints : ∀ ns : List Int, undL (ns.map PyData.int) = ns.map PyData.int
  | [] => rfl
  | n :: ns => by simp only [List.map_cons, undL, und, undL_ints ns]
theorem undL_ints_inv : ∀ {ns : List Int} {ds : List D}, undL ds = ns.map PyData.int → ds = ns.map PyData.int
  | [], ds, h => undL_nil_inv h
  | n :: ns, ds, h => by
    obtain ⟨d, r, rfl, h1, h2⟩ := undL_cons_inv h
    rw [und_int h1, undL_ints_inv h2]; rfl
/-- a list of numbers, dressed -/
theorem und_ints {d : D} {ns : List Int} (h : und d = und (.list (ns.map .int))) : d = .list (ns.map .int) ∨ d = .tuple (ns.map .int) := by
  simp only [und, undL_ints] at h
  obtain ⟨ds, h1, h2⟩ := und_lst h
  rw [undL_ints_inv h2] at h1; exact h1
theorem nd_ints (ns : List Int) : ndL (ns.map PyData.int) = ns.length := by
  induction ns with
  | nil => rfl
  | cons n ns ih => simp only [List.map_cons, ndL, ndD, ih, List.length_cons]; omega
theorem noDct_ints (ns : List Int) : noDctL (ns.map PyData.int) = true := by
  induction ns with
  | nil => rfl
  | cons n ns ih => simp only [List.map_cons, noDctL, noDct, ih, Bool.and_self]

def RLk : List D → List (Int × Int) → Prop
  | [], [] => True
  | d :: ds, p :: ps => (d = .list [.int p.1, .int p.2] ∨ d = .tuple [.int p.1, .int p.2]) ∧ RLk ds ps
  | _, _ => False
theorem rlk_self : ∀ rs, RLk (rs.map drun) rs
  | [] => trivial
  | _ :: rs => ⟨.inr rfl, rlk_self rs⟩
theorem rlk_len : ∀ {ds rs}, RLk ds rs → ds.length = rs.length
  | [], [], _ => rfl
  | _ :: ds, _ :: rs, h => by simp only [List.length_cons, rlk_len h.2]
  | [], _ :: _, h => h.elim
  | _ :: _, [], h => h.elim
theorem undL_runs_inv : ∀ {rs : List (Int × Int)} {ds : List D}, undL ds = undL (rs.map drun) → RLk ds rs
  | [], ds, h => by rw [undL_nil_inv h]; trivial
  | p :: rs, ds, h => by
    simp only [List.map_cons, undL] at h
    obtain ⟨d, r, rfl, h1, h2⟩ := undL_cons_inv h
    simp only [drun, und, undL] at h1
    obtain ⟨ds, h3, h4⟩ := und_lst h1
    obtain ⟨a, r2, rfl, h5, h6⟩ := undL_cons_inv h4
    obtain ⟨b, r3, rfl, h7, h8⟩ := undL_cons_inv h6
    rw [undL_nil_inv h8, und_int h5, und_int h7] at h3
    exact ⟨h3, undL_runs_inv h2⟩
theorem und_runs {d : D} {rs : List (Int × Int)} (h : und d = und (.list (rs.map drun))) : ∃ ds, (d = .list ds ∨ d = .tuple ds) ∧ RLk ds rs := by
  simp only [und] at h
  obtain ⟨ds, h1, h2⟩ := und_lst h
  exact ⟨ds, h1, undL_runs_inv h2⟩
theorem Chn.tail {a : Int × Int} {rs : List (Int × Int)} (h : Chn (a :: rs)) : Chn rs := fun i x y hx hy => h (i + 1) x y (by simpa using hx) (by simpa using hy)
theorem rlk_fst {d : D} {p : Int × Int} (h : d = .list [.int p.1, .int p.2] ∨ d = .tuple [.int p.1, .int p.2]) : runFst d = .int p.1 := by rcases h with rfl | rfl <;> rfl
theorem rlk_run {d : D} {p : Int × Int} (h : d = .list [.int p.1, .int p.2] ∨ d = .tuple [.int p.1, .int p.2]) (c : -1 ≤ p.1 ∧ p.1 ≤ 1) (n : 1 ≤ p.2 ∧ p.2 ≤ (1000000000000000000000000000000 : Int)) : isRunB d = true := by
  have : (isIntB (.int p.1) (-1) (.int 1) && isIntB (.int p.2) 1 (.int (1000000000000000000000000000000 : Int))) = true := by simp only [isIntB, decide_eq_true c.1, decide_eq_true c.2, decide_eq_true n.1, decide_eq_true n.2, Bool.and_self]
  rcases h with rfl | rfl <;> exact this
theorem rlk_chain : ∀ {ds : List D} {rs : List (Int × Int)}, RLk ds rs → Chn rs → chainB ds = true
  | [], [], _, _ => rfl
  | [_], [_], _, _ => rfl
  | a :: b :: ds, p :: q :: rs, h, c => by
    have h1 : (PyData.eqv (runFst a) (runFst b)) = false := by
      rw [rlk_fst h.1, rlk_fst h.2.1, eqv_int]
      have := c 0 p q rfl rfl
      simpa using this
    simp only [chainB, h1, rlk_chain h.2 c.tail, Bool.not_false, Bool.and_self]
  | [], _ :: _, h, _ => h.elim
  | _ :: _, [], h, _ => h.elim
  | [_], _ :: _ :: _, h, _ => h.2.elim
  | _ :: _ :: _, [_], h, _ => h.2.elim
theorem rlk_all : ∀ {ds : List D} {rs : List (Int × Int)}, RLk ds rs → (∀ p ∈ rs, (-1 ≤ p.1 ∧ p.1 ≤ 1) ∧ 1 ≤ p.2 ∧ p.2 ≤ (1000000000000000000000000000000 : Int)) → ds.all isRunB = true
  | [], [], _, _ => rfl
  | d :: ds, p :: rs, h, q => by
    simp only [List.all_cons, rlk_run h.1 (q p (List.mem_cons_self ..)).1 (q p (List.mem_cons_self ..)).2, rlk_all h.2 fun x hx => q x (List.mem_cons_of_mem _ hx), Bool.and_self]
  | [], _ :: _, h, _ => h.elim
  | _ :: _, [], h, _ => h.elim
theorem rlk_rec {m : Nat} {L : Int} {ds : List D} {rs : List (Int × Int)} (h : RLk ds rs) (r : Runs m L rs) (hm : m ≤ 400) (hL : L ≤ (1000000000000000000000000000000 : Int)) : recL ds = true := by
  have hl : ds.length ≤ 400 := by have := rlk_len h; have := r.len; omega
  simp only [recL, decide_eq_true hl, rlk_all h (fun p hp => ⟨r.chg p hp, (r.cnt p hp).1, Int.le_trans (r.cnt p hp).2 hL⟩), rlk_chain h r.chn, Bool.and_self]
theorem rlk_tl : ∀ {ds : List D} {rs : List (Int × Int)}, RLk ds rs → (∀ p ∈ rs, (-1 ≤ p.1 ∧ p.1 ≤ 1) ∧ 1 ≤ p.2 ∧ p.2 ≤ (1000000000000000000000000000000 : Int)) → ∀ d ∈ ds, Tl 1 217 d
  | [], [], _, _ => by simp
  | d :: ds, p :: rs, h, q => by
    intro x hx
    rcases List.mem_cons.mp hx with rfl | hx
    · obtain ⟨⟨c0, c1⟩, n0, n1⟩ := q p (List.mem_cons_self ..)
      have t : TlA 0 105 2 [PyData.int p.1, .int p.2] := .cons (Tl.intB 104 (by omega) (by omega) (by decide) (by decide) (by decide)) (.cons (Tl.intB 104 (by omega) (by omega) (by decide) (by decide) (by decide)) .nil)
      rcases h.1 with rfl | rfl
      · exact t.list
      · exact t.tuple
    · exact rlk_tl h.2 (fun y hy => q y (List.mem_cons_of_mem _ hy)) x hx
  | [], _ :: _, h, _ => h.elim
  | _ :: _, [], h, _ => h.elim
theorem rlk_tlA {m : Nat} {L : Int} {ds : List D} {rs : List (Int × Int)} (h : RLk ds rs) (r : Runs m L rs) (hL : L ≤ (1000000000000000000000000000000 : Int)) : TlA 1 217 m ds :=
  ⟨rlk_tl h fun p hp => ⟨r.chg p hp, (r.cnt p hp).1, Int.le_trans (r.cnt p hp).2 hL⟩, by have := rlk_len h; have := r.len; omega⟩
theorem nd_runs (rs : List (Int × Int)) : ndL (rs.map drun) = 3 * rs.length := by
  induction rs with
  | nil => rfl
  | cons n ns ih => simp only [List.map_cons, ndL, drun, ndD, List.length_cons] at ih ⊢; simp only [ih]; omega
theorem noDct_runs (rs : List (Int × Int)) : noDctL (rs.map drun) = true := by
  induction rs with
  | nil => rfl
  | cons n ns ih => simp only [List.map_cons, noDctL, ih, Bool.and_true]; rfl
theorem depth_runs (rs : List (Int × Int)) : PyData.depthAll (rs.map drun) ≤ 1 := (lay_all (k := 1) fun x hx => by obtain ⟨p, _, rfl⟩ := List.mem_map.mp hx; exact lay_run p).2

end Lw
namespace Lw
open PySem L2 Ds
def runsOf (cs : List Int) : List (Int × Int) := mergeR (cs.map fun c => (c, 1))
def expandR (rs : List (Int × Int)) : List Int := rs.flatMap fun p => List.replicate p.2.toNat p.1
def totR (rs : List (Int × Int)) : Int := (rs.map (·.2)).sum
theorem totR_nil : totR [] = 0 := rfl
theorem totR_cons (p : Int × Int) (rs : List (Int × Int)) : totR (p :: rs) = p.2 + totR rs := by simp [totR]
theorem totR_append (a b : List (Int × Int)) : totR (a ++ b) = totR a + totR b := by simp [totR]
theorem expandR_append (a b : List (Int × Int)) : expandR (a ++ b) = expandR a ++ expandR b := by simp [expandR]
theorem expandR_one (p : Int × Int) : expandR [p] = List.replicate p.2.toNat p.1 := by simp [expandR]
theorem totR_nonneg : ∀ {rs : List (Int × Int)}, (∀ p ∈ rs, 1 ≤ p.2) → 0 ≤ totR rs ∧ (expandR rs).length = (totR rs).toNat ∧ (rs.length : Int) ≤ totR rs
  | [], _ => ⟨Int.le_refl _, rfl, Int.le_refl _⟩
  | p :: rs, h => by
    obtain ⟨h1, h2, h3⟩ := totR_nonneg (rs := rs) fun x hx => h x (List.mem_cons_of_mem _ hx)
    have h4 := h p (List.mem_cons_self ..)
    have e : expandR (p :: rs) = List.replicate p.2.toNat p.1 ++ expandR rs := by simp [expandR]
    rw [totR_cons, e]
    refine ⟨by omega, by simp only [List.length_append, List.length_replicate, h2]; omega, by simp only [List.length_cons]; omega⟩
/-- what runsOf gives -/
structure RunsOf (cs : List Int) (rs : List (Int × Int)) : Prop where
  ex : expandR rs = cs
  cn : Chn rs
  pos : ∀ p ∈ rs, 1 ≤ p.2
  mem : ∀ p ∈ rs, p.1 ∈ cs
theorem last_split {acc : List (Int × Int)} {q : Int × Int} (h : acc.getLast? = some q) : acc = acc.dropLast ++ [q] := by
  have hne : acc ≠ [] := fun z => by subst z; simp at h
  have e := List.dropLast_concat_getLast hne
  rw [List.getLast?_eq_some_getLast hne] at h
  cases h
  exact e.symm
theorem RunsOf.snoc {cs : List Int} {rs : List (Int × Int)} (h : RunsOf cs rs) (c : Int) : RunsOf (cs ++ [c]) (mrgStep rs (c, 1)) := by
  unfold mrgStep
  split
  · rename_i q hq
    have e := last_split hq
    have hqm : q ∈ rs := by rw [e]; simp
    have hq1 := h.pos q hqm
    split
    · rename_i hc
      dsimp only at hc
      refine ⟨?_, ?_, fun p hp => ?_, fun p hp => ?_⟩
      · have h1 := h.ex
        rw [e, expandR_append, expandR_one] at h1
        rw [expandR_append, expandR_one, ← h1, List.append_assoc, hc]
        congr 1
        dsimp only
        rw [show (1 + q.2).toNat = q.2.toNat + 1 by omega, List.replicate_succ']
      · intro i a b ha hb
        have cn := h.cn i
        rw [e] at cn
        by_cases z : i + 1 < rs.dropLast.length
        · rw [List.getElem?_append_left (by omega)] at ha
          rw [List.getElem?_append_left z] at hb
          exact cn a b (by rw [List.getElem?_append_left (by omega)]; exact ha) (by rw [List.getElem?_append_left z]; exact hb)
        · have hi := (List.getElem?_eq_some_iff.mp hb).1
          simp only [List.length_append, List.length_singleton] at hi
          have ei : i + 1 = rs.dropLast.length := by omega
          rw [List.getElem?_append_left (by omega)] at ha
          rw [List.getElem?_append_right (by omega), ei, Nat.sub_self] at hb
          simp at hb
          subst hb
          dsimp only
          rw [← hc]
          exact cn a q (by rw [List.getElem?_append_left (by omega)]; exact ha) (by rw [List.getElem?_append_right (by omega), ei, Nat.sub_self]; rfl)
      · rcases List.mem_append.mp hp with hp | hp
        · exact h.pos p ((List.dropLast_sublist _).subset hp)
        · simp at hp; subst hp; dsimp only; omega
      · rcases List.mem_append.mp hp with hp | hp
        · exact List.mem_append_left _ (h.mem p ((List.dropLast_sublist _).subset hp))
        · simp at hp; subst hp; simp
    · rename_i hc
      dsimp only at hc
      refine ⟨by rw [expandR_append, expandR_one, h.ex]; rfl, h.cn.snoc fun a ha => by rw [hq] at ha; cases ha; exact hc, fun p hp => ?_, fun p hp => ?_⟩
      · rcases List.mem_append.mp hp with hp | hp
        · exact h.pos p hp
        · simp at hp; subst hp; exact Int.le_refl _
      · rcases List.mem_append.mp hp with hp | hp
        · exact List.mem_append_left _ (h.mem p hp)
        · simp at hp; subst hp; simp
  · rename_i hq
    rw [List.getLast?_eq_none_iff] at hq
    subst hq
    have hc : cs = [] := h.ex.symm
    subst hc
    exact ⟨rfl, fun i a b ha hb => by simp at hb, by simp, by simp⟩
theorem runsOf_snoc (cs : List Int) (c : Int) : runsOf (cs ++ [c]) = mrgStep (runsOf cs) (c, 1) := by unfold runsOf; rw [List.map_append, List.map_singleton, mergeR_snoc]
theorem runsOf_is (cs : List Int) : RunsOf cs (runsOf cs) := by
  have go : ∀ (l pre : List Int) (rs : List (Int × Int)), RunsOf pre rs → RunsOf (pre ++ l) ((l.map fun c => (c, (1 : Int))).foldl mrgStep rs) := by
    intro l
    induction l with
    | nil => intro pre rs h; simpa using h
    | cons c l ih => intro pre rs h; have := ih (pre ++ [c]) _ (h.snoc c); simpa using this
  have := go cs [] [] ⟨rfl, fun i a b ha => by simp at ha, by simp, by simp⟩
  simpa [runsOf, mergeR] using this
theorem runsOf_len (cs : List Int) : (runsOf cs).length ≤ cs.length := by
  have := mergeR_len (cs.map fun c => (c, (1 : Int)))
  simpa [runsOf] using this
theorem runsOf_tot (cs : List Int) : totR (runsOf cs) = cs.length := by
  have h := runsOf_is cs
  have h2 := totR_nonneg h.pos
  rw [h.ex] at h2
  omega
theorem mem_tot : ∀ {rs : List (Int × Int)}, (∀ p ∈ rs, 1 ≤ p.2) → ∀ p ∈ rs, p.2 ≤ totR rs
  | [], _, p, hp => by simp at hp
  | q :: rs, h, p, hp => by
    have h1 := totR_nonneg (rs := rs) fun x hx => h x (List.mem_cons_of_mem _ hx)
    have h2 := h q (List.mem_cons_self ..)
    rw [totR_cons]
    rcases List.mem_cons.mp hp with rfl | hp
    · omega
    · have := mem_tot (rs := rs) (fun x hx => h x (List.mem_cons_of_mem _ hx)) p hp
      omega
theorem runsOf_runs {cs : List Int} (h : ∀ c ∈ cs, -1 ≤ c ∧ c ≤ 1) : Runs cs.length cs.length (runsOf cs) := by
  have r := runsOf_is cs
  refine ⟨runsOf_len cs, fun p hp => h _ (r.mem p hp), fun p hp => ⟨r.pos p hp, ?_⟩, r.cn⟩
  have := mem_tot r.pos p hp
  rw [runsOf_tot] at this
  exact this
theorem fold_rep (c : Int) : ∀ (n : Nat) (acc : List (Int × Int)) (k : Int), ((List.replicate n c).map fun c => (c, (1 : Int))).foldl mrgStep (acc ++ [(c, k)]) = acc ++ [(c, k + n)]
  | 0, acc, k => by simp
  | n + 1, acc, k => by
    have e : mrgStep (acc ++ [(c, k)]) (c, 1) = acc ++ [(c, 1 + k)] := by
      unfold mrgStep
      simp
    rw [List.replicate_succ, List.map_cons, List.foldl_cons, e, fold_rep c n acc (1 + k)]
    congr 3
    omega
/-- runs, read one by one and taken together, are the same runs -/
theorem runsOf_expand {rs : List (Int × Int)} (h : Chn rs) (hp : ∀ p ∈ rs, 1 ≤ p.2) : runsOf (expandR rs) = rs := by
  have go : ∀ (l acc : List (Int × Int)), Chn (acc ++ l) → (∀ p ∈ l, 1 ≤ p.2) → ((expandR l).map fun c => (c, (1 : Int))).foldl mrgStep acc = acc ++ l := by
    intro l
    induction l with
    | nil => intro acc _ _; simp [expandR]
    | cons p l ih =>
      intro acc hc hq
      obtain ⟨c, n⟩ := p
      have hn := hq (c, n) (List.mem_cons_self ..)
      dsimp only at hn
      have e : expandR ((c, n) :: l) = c :: (List.replicate (n.toNat - 1) c) ++ expandR l := by
        have : n.toNat = (n.toNat - 1) + 1 := by omega
        simp only [expandR, List.flatMap_cons]
        rw [this, List.replicate_succ]; simp
      have e2 : mrgStep acc (c, 1) = acc ++ [(c, 1)] := by
        unfold mrgStep
        cases h : acc.getLast? with
        | none => rw [List.getLast?_eq_none_iff] at h; subst h; rfl
        | some q =>
          dsimp only
          rw [if_neg]
          have e := last_split h
          have := hc (acc.dropLast.length) q (c, n)
          rw [e] at this
          exact this (by simp) (by simp)
      rw [e, List.map_append, List.map_cons, List.foldl_append, List.foldl_cons, e2, fold_rep]
      rw [show (1 + ((n.toNat - 1 : Nat) : Int)) = n by omega]
      have := ih (acc ++ [(c, n)]) (by simpa using hc) fun x hx => hq x (List.mem_cons_of_mem _ hx)
      rw [this]; simp
  have := go rs [] (by simpa using h) hp
  simpa [runsOf, mergeR] using this
theorem ints_tlA {cs : List Int} {m : Nat} {k : Nat} (n : Nat) (h : ∀ c ∈ cs, -(2 ^ n) < c ∧ c < 2 ^ n) (hm : cs.length ≤ m) (hn : 0 < n) (hn2 : n ≤ 1920) (hk : n + 1 ≤ k) : TlA 0 k m (cs.map .int) :=
  TlA.map (fun c hc => Tl.intB n (h c hc).1 (h c hc).2 hn hn2 hk) hm
end Lw
namespace Lw
open PySem L2 Ds
theorem rlk_zip : ∀ {ds : List D} {rs : List (Int × Int)}, RLk ds rs → ∃ zs : List (D × (Int × Int)), ds = zs.map (·.1) ∧ rs = zs.map (·.2) ∧ ∀ z ∈ zs, z.1 = .list [.int z.2.1, .int z.2.2] ∨ z.1 = .tuple [.int z.2.1, .int z.2.2]
  | [], [], _ => ⟨[], rfl, rfl, by simp⟩
  | d :: ds, p :: rs, h => by
    obtain ⟨zs, h1, h2, h3⟩ := rlk_zip h.2
    refine ⟨(d, p) :: zs, by rw [h1]; rfl, by rw [h2]; rfl, fun z hz => ?_⟩
    rcases List.mem_cons.mp hz with rfl | hz
    · exact h.1
    · exact h3 z hz
  | [], _ :: _, h => h.elim
  | _ :: _, [], h => h.elim
abbrev mn (i j : Int) : Int := if j < i then j else i
theorem mn_comm (i j : Int) : mn i j = mn j i := by unfold mn; split <;> split <;> omega
/-- how many of the first n reads have the change c -/
def cntR (c : Int) : List (Int × Int) → Int → Int
  | [], _ => 0
  | p :: rs, n => (if p.1 = c then mn p.2 n else 0) + cntR c rs (n - mn p.2 n)
theorem cut_mem {α : Type} {l : List α} {lo hi : Option Int} {x : α} (h : x ∈ cut l lo hi) : x ∈ l := List.mem_of_mem_drop (List.mem_of_mem_take h)
theorem cut_len {α : Type} (l : List α) (lo hi : Option Int) : (cut l lo hi).length ≤ l.length := by
  unfold cut; rw [List.length_take, List.length_drop]; omega
end Lw
namespace Lw
open PySem L2 Ds
theorem cut_last {α : Type} (l : List α) (k : Nat) (hk : 0 < k) : (cut l (some (-(k : Int))) none).length ≤ k := by
  have e : HT.sIx l.length 0 (some (-(k : Int))) = (-(k : Int) + l.length).toNat := by
    simp only [HT.sIx]
    rw [if_pos (by omega)]
  unfold cut
  rw [e]
  simp only [List.length_take, List.length_drop, HT.sIx]
  omega
theorem safeL_of : ∀ {l : List D}, (∀ d ∈ l, Ds.safe d = true) → Ds.safeL l = true
  | [], _ => rfl
  | d :: l, h => by simp only [Ds.safeL, h d (List.mem_cons_self ..), safeL_of fun x hx => h x (List.mem_cons_of_mem _ hx), Bool.and_self]
end Lw
namespace Lw
open PySem L2 Ds
def lrun (p : Int × Int) : D := .list [.int p.1, .int p.2]
theorem rlk_lrun : ∀ rs, RLk (rs.map lrun) rs
  | [] => trivial
  | _ :: rs => ⟨.inl rfl, rlk_lrun rs⟩
theorem chn_fst {rs rs' : List (Int × Int)} (h : Chn rs) (e : rs'.map (·.1) = rs.map (·.1)) : Chn rs' := by
  intro i a b ha hb
  have f : ∀ (j : Nat) (x : Int × Int), rs'[j]? = some x → ∃ y, rs[j]? = some y ∧ y.1 = x.1 := fun j x hx => by
    have h1 : (rs'.map (·.1))[j]? = some x.1 := by rw [List.getElem?_map, hx]; rfl
    rw [e, List.getElem?_map, Option.map_eq_some_iff] at h1
    exact h1
  obtain ⟨x, hx, ex⟩ := f i a ha
  obtain ⟨y, hy, ey⟩ := f (i + 1) b hb
  rw [← ex, ← ey]
  exact h i x y hx hy
theorem cntR_le (c : Int) : ∀ {rs : List (Int × Int)} {n : Int}, (∀ p ∈ rs, 1 ≤ p.2) → 0 ≤ n → 0 ≤ cntR c rs n ∧ cntR c rs n ≤ n
  | [], n, _, h => ⟨Int.le_refl _, h⟩
  | p :: rs, n, hp, h => by
    have h1 := hp p (List.mem_cons_self ..)
    have h2 : 0 ≤ mn p.2 n ∧ mn p.2 n ≤ n := by unfold mn; split <;> omega
    have h3 := cntR_le c (rs := rs) (n := n - mn p.2 n) (fun x hx => hp x (List.mem_cons_of_mem _ hx)) (by omega)
    simp only [cntR]
    split <;> omega
end Lw
namespace Lw
open PySem L2 Ds
def sprM : Int := 2305843009213693951
structure Spr where
  g : Int
  s : Int
  n : Int
def Spr.d (r : Spr) : List D := [.int r.g, .int r.s, .int r.n]
structure Spr.Ok (r : Spr) (b : Nat) : Prop where
  g0 : 0 ≤ r.g
  gb : r.g < 2 ^ 13000
  s0 : 0 ≤ r.s
  sb : r.s < 2 ^ 61
  n0 : 0 ≤ r.n
  nb : r.n ≤ b
theorem Spr.Ok.mono {r : Spr} {a b : Nat} (h : r.Ok a) (hab : a ≤ b) : r.Ok b := ⟨h.g0, h.gb, h.s0, h.sb, h.n0, by have := h.nb; omega⟩
/-- totals of the first reads, the count cut at each run -/
abbrev mx0 (i : Int) : Int := if i > 0 then i else 0
def cutN (k n : Int) : Int := mx0 (mn k n)
def cntF (c : Int) : List (Int × Int) → Int → Int
  | [], _ => 0
  | p :: rs, n => (if p.1 = c then cutN p.2 n else 0) + cntF c rs (n - p.2)
def sumC (c : Int) : List (Int × Int) → Int
  | [] => 0
  | p :: rs => (if p.1 = c then p.2 else 0) + sumC c rs
theorem cntF_append (c : Int) : ∀ (a b : List (Int × Int)) (n : Int), cntF c (a ++ b) n = cntF c a n + cntF c b (n - totR a)
  | [], b, n => by simp [cntF, totR]
  | p :: a, b, n => by
    simp only [List.cons_append, cntF, cntF_append c a b, totR_cons]
    rw [show n - p.2 - totR a = n - (p.2 + totR a) by omega]; omega
theorem sumC_append (c : Int) : ∀ (a b : List (Int × Int)), sumC c (a ++ b) = sumC c a + sumC c b
  | [], b => by simp [sumC]
  | p :: a, b => by simp only [List.cons_append, sumC, sumC_append c a b]; omega
theorem cntF_one (c : Int) (p : Int × Int) (n : Int) : cntF c [p] n = if p.1 = c then cutN p.2 n else 0 := by simp [cntF]
theorem sumC_one (c : Int) (p : Int × Int) : sumC c [p] = if p.1 = c then p.2 else 0 := by simp [sumC]
theorem totR_one (p : Int × Int) : totR [p] = p.2 := by simp [totR]
theorem cutN_bd {k n : Int} (h : 0 ≤ k) : 0 ≤ cutN k n ∧ cutN k n ≤ k := by unfold cutN mx0 mn; split <;> split <;> omega
theorem cntF_bd (c : Int) : ∀ {rs : List (Int × Int)} {n : Int}, (∀ p ∈ rs, 1 ≤ p.2) → 0 ≤ cntF c rs n ∧ cntF c rs n ≤ totR rs
  | [], n, _ => ⟨Int.le_refl _, Int.le_refl _⟩
  | p :: rs, n, h => by
    have h1 := h p (List.mem_cons_self ..)
    have h2 := cutN_bd (k := p.2) (n := n) (by omega)
    have h3 := cntF_bd c (rs := rs) (n := n - p.2) fun x hx => h x (List.mem_cons_of_mem _ hx)
    rw [totR_cons]
    simp only [cntF]
    split <;> omega
theorem sumC_bd (c : Int) : ∀ {rs : List (Int × Int)}, (∀ p ∈ rs, 1 ≤ p.2) → 0 ≤ sumC c rs ∧ sumC c rs ≤ totR rs
  | [], _ => ⟨Int.le_refl _, Int.le_refl _⟩
  | p :: rs, h => by
    have h1 := h p (List.mem_cons_self ..)
    have h3 := sumC_bd c (rs := rs) fun x hx => h x (List.mem_cons_of_mem _ hx)
    rw [totR_cons]
    simp only [sumC]
    split <;> omega
theorem tot_le {rs : List (Int × Int)} {m : Nat} {L : Int} (h : ∀ p ∈ rs, p.2 ≤ L) (hl : rs.length ≤ m) (hL : 0 ≤ L) : totR rs ≤ m * L := by
  have go : ∀ rs : List (Int × Int), (∀ p ∈ rs, p.2 ≤ L) → totR rs ≤ (rs.length : Int) * L := by
    intro rs
    induction rs with
    | nil => intro _; simp [totR]
    | cons p rs ih =>
      intro h
      have h1 := h p (List.mem_cons_self ..)
      have h2 := ih fun x hx => h x (List.mem_cons_of_mem _ hx)
      rw [totR_cons, List.length_cons]
      have : (((rs.length + 1 : Nat)) : Int) * L = (rs.length : Int) * L + L := by rw [Int.natCast_add, Int.add_mul]; simp
      omega
  exact Int.le_trans (go rs h) (Int.mul_le_mul_of_nonneg_right (by omega) hL)
/-- running totals -/
def endsR (rs : List (Int × Int)) : List Int := (List.range (rs.length + 1)).map fun j => totR (rs.take j)
theorem endsR_nil : endsR [] = [0] := rfl
theorem endsR_snoc (rs : List (Int × Int)) (p : Int × Int) : endsR (rs ++ [p]) = endsR rs ++ [totR (rs ++ [p])] := by
  unfold endsR
  rw [List.length_append, List.length_singleton, List.range_succ, List.map_append, List.map_singleton]
  congr 1
  · refine List.map_congr_left fun j hj => ?_
    rw [List.mem_range] at hj
    rw [List.take_append_of_le_length (by omega)]
  · rw [List.take_of_length_le (by simp)]
theorem endsR_last (rs : List (Int × Int)) : (endsR rs).getLast? = some (totR rs) := by
  unfold endsR
  rw [List.range_succ, List.map_append, List.map_singleton, List.getLast?_append]
  simp
theorem endsR_len (rs : List (Int × Int)) : (endsR rs).length = rs.length + 1 := by simp [endsR]
theorem tot_take {rs : List (Int × Int)} (h : ∀ p ∈ rs, 1 ≤ p.2) (j : Nat) : 0 ≤ totR (rs.take j) ∧ totR (rs.take j) ≤ totR rs := by
  have h1 := totR_nonneg (rs := rs.take j) fun p hp => h p (List.mem_of_mem_take hp)
  have h2 := totR_nonneg (rs := rs.drop j) fun p hp => h p (List.mem_of_mem_drop hp)
  have h3 := totR_append (rs.take j) (rs.drop j)
  rw [List.take_append_drop] at h3
  omega
theorem endsR_mem {rs : List (Int × Int)} (h : ∀ p ∈ rs, 1 ≤ p.2) : ∀ e ∈ endsR rs, 0 ≤ e ∧ e ≤ totR rs := by
  intro e he
  obtain ⟨j, _, rfl⟩ := List.mem_map.mp he
  exact tot_take h j
/-- totals of runs, as the program writes them -/
def tupR (rs : List (Int × Int)) : D := .tuple [.int (totR rs), .int (sumC 1 rs), .int (sumC 0 rs), .int (sumC (-1) rs)]
def endsT (rs : List (Int × Int)) : List D := (List.range (rs.length + 1)).map fun j => tupR (rs.take j)
theorem endsT_snoc (rs : List (Int × Int)) (p : Int × Int) : endsT (rs ++ [p]) = endsT rs ++ [tupR (rs ++ [p])] := by
  unfold endsT
  rw [List.length_append, List.length_singleton, List.range_succ, List.map_append, List.map_singleton]
  congr 1
  · refine List.map_congr_left fun j hj => ?_
    rw [List.mem_range] at hj
    rw [List.take_append_of_le_length (by omega)]
  · rw [List.take_of_length_le (by simp)]
theorem endsT_last (rs : List (Int × Int)) : (endsT rs).getLast? = some (tupR rs) := by
  unfold endsT
  rw [List.range_succ, List.map_append, List.map_singleton, List.getLast?_append]
  simp
theorem endsT_len (rs : List (Int × Int)) : (endsT rs).length = rs.length + 1 := by simp [endsT]
end Lw
set_option maxRecDepth 100000
set_option maxHeartbeats 4000000
namespace Lw
open PySem L2 Ds

def sp_is_integer : DSp := fun ts Q _ => ∃ d lo hi, ts = [.bor d, .dat (.int lo), .dat hi] ∧ (hi = .none ∨ ∃ h, hi = .int h) ∧ Q (.dat (.bool (isIntB d lo hi))) .emp

def ms_is_integer : List Md := [.bor, .dat, .dat]
def dn_is_integer (Wd : Exn → List T → Prop) : DS := (dSeq (dIfS ((dOrT (dNotT (tVal (dIsi ["int"] (dVar 0)))) (tVal (dIsi ["bool"] (dVar 0))))) (dRet (dC (.bool false))) dNext)
    (dRet ((dAndV (dOp dLe (dVar 1) (dVar 0)) ((dOrV (dOp dIsN (dVar 2) (dC .none)) (dOp dLe (dVar 0) (dVar 2))))))))
abbrev st_is_integer : Stmt := PySem.Challenge.pw_teesizes_k15_obstructions_judged.main.body.getD 7 (.Pass ⟨0, 0, 0, 0⟩)
abbrev N_is_integer : List Str := ["value", "low", "high"]
theorem sc_is_integer : FnScope N_is_integer ["value", "low", "high"] (defScope st_is_integer) := ⟨rfl, rfl, rfl, by decide +kernel, rfl, by decide +kernel, by decide +kernel⟩
theorem dp_is_integer {P : Program} {w : World} {K : PySem.W.Frag} {mg : Str → Option Value} {base : Heap} {f : Addr} {cdv : Value} {A : Around} {os : List Env} {s : Shared} {H : Hp} {E : XK} {Wd : Exn → List T → Prop} {B0 : Addr → Prop} {o : List Addr} {vs : List V} (n_bool : mg "bool" = none) (n_int : mg "int" = none) (n_isinstance : mg "isinstance" = none)
    (hr : RoomG 0 (A.deeper (PyProof.Rows.envOfC "is_integer" (defScope st_is_integer) s.heap.objs.size f cdv))) (tk : DTk (ctxOf P w K mg base N_is_integer "is_integer" (defScope st_is_integer) f cdv A os s H E Wd B0 o none vs [])) :
    DPSs (ctxOf P w K mg base N_is_integer "is_integer" (defScope st_is_integer) f cdv A os s H E Wd B0 o none vs []) (defBody st_is_integer) (dn_is_integer Wd) :=
  have S := sc_is_integer
  (dss_cons (ds_if (DPW.t (dw_or (dt_not (dt_val (de_isi rfl n_isinstance (de_var 0 (nin_of rfl)) rfl n_int (by decide) PyProof.Rows.boot_int))) (dw_or1 (dt_val (de_isi rfl n_isinstance (de_var 0 (nin_of rfl)) rfl n_bool (by decide) PyProof.Rows.boot_bool))))) (dss_one (ds_ret de_bl)) dss_nil)
    (dss_one (ds_ret ((de_and (de_cmpD dc_le (de_var 1 (nin_of rfl)) (de_var 0 (nin_of rfl))) (de_one ((de_or (de_cmpD dc_isN (de_var 2 (nin_of rfl)) de_non) (de_one (de_cmpD dc_le (de_var 0 (nin_of rfl)) (de_var 2 (nin_of rfl))))))))))))
theorem law_is_integer (ts : List T) (Q : T → T → Prop) (W : Exn → T → Prop) (h : sp_is_integer ts Q W) : dn_is_integer (finX none W) (fin0 none Q) (slots0 3 ts) := by
  obtain ⟨d, lo, hi, rfl, hh, q⟩ := h
  cases d with
  | int i =>
    refine dSeq.mk (br_f rfl (br_f rfl ?_))
    rcases hh with rfl | ⟨h, rfl⟩
    · refine br_split (b := decide (lo ≤ i)) (fun e => br_t rfl ?_) (fun e => ?_)
      · simp only [isIntB, e] at q; exact q
      · simp only [isIntB, e] at q; exact q
    · refine br_split (b := decide (lo ≤ i)) (fun e => br_f rfl ?_) (fun e => ?_)
      · simp only [isIntB, e, Bool.true_and] at q; exact q
      · simp only [isIntB, e, Bool.false_and] at q; exact q
  | bool b => exact dSeq.mk (br_f rfl (br_t rfl (by rcases hh with rfl | ⟨h, rfl⟩ <;> exact q)))
  | _ => exact dSeq.mk (br_t rfl (br_t rfl (by rcases hh with rfl | ⟨h, rfl⟩ <;> exact q)))
theorem mono_is_integer : Mono sp_is_integer := fun ts R R' W W' hr _ ⟨d, lo, hi, e, h, q⟩ => ⟨d, lo, hi, e, h, hr _ _ q⟩

def sp_is_listed : DSp := fun ts Q _ => ∃ d, ts = [.bor d] ∧ Q (.dat (.bool (isLstB d))) .emp
theorem mono_is_listed : Mono sp_is_listed := fun ts R R' W W' hr _ ⟨d, e, q⟩ => ⟨d, e, hr _ _ q⟩

def ms_is_listed : List Md := [.bor]
def dn_is_listed (Wd : Exn → List T → Prop) : DS := (dRet (dIsi ["list", "tuple"] (dVar 0)))
abbrev st_is_listed : Stmt := PySem.Challenge.pw_teesizes_k15_obstructions_judged.main.body.getD 8 (.Pass ⟨0, 0, 0, 0⟩)
abbrev N_is_listed : List Str := ["value"]
theorem sc_is_listed : FnScope N_is_listed ["value"] (defScope st_is_listed) := ⟨rfl, rfl, rfl, by decide +kernel, rfl, by decide +kernel, by decide +kernel⟩
theorem dp_is_listed {P : Program} {w : World} {K : PySem.W.Frag} {mg : Str → Option Value} {base : Heap} {f : Addr} {cdv : Value} {A : Around} {os : List Env} {s : Shared} {H : Hp} {E : XK} {Wd : Exn → List T → Prop} {B0 : Addr → Prop} {o : List Addr} {vs : List V} (n_isinstance : mg "isinstance" = none) (n_list : mg "list" = none) (n_tuple : mg "tuple" = none)
    (hr : RoomG 0 (A.deeper (PyProof.Rows.envOfC "is_listed" (defScope st_is_listed) s.heap.objs.size f cdv))) (tk : DTk (ctxOf P w K mg base N_is_listed "is_listed" (defScope st_is_listed) f cdv A os s H E Wd B0 o none vs [])) :
    DPSs (ctxOf P w K mg base N_is_listed "is_listed" (defScope st_is_listed) f cdv A os s H E Wd B0 o none vs []) (defBody st_is_listed) (dn_is_listed Wd) :=
  have S := sc_is_listed
  (dss_one (ds_ret (de_isi2 rfl n_isinstance (de_var 0 (nin_of rfl)) rfl n_list (by decide) PyProof.Rows.boot_list rfl n_tuple (by decide) PyProof.Rows.boot_tuple)))
theorem law_is_listed (ts : List T) (Q : T → T → Prop) (W : Exn → T → Prop) (h : sp_is_listed ts Q W) : dn_is_listed (finX none W) (fin0 none Q) (slots0 1 ts) := by
  obtain ⟨d, rfl, q⟩ := h
  cases d <;> exact q

def sp_is_change : DSp := fun ts Q _ => ∃ d, ts = [.bor d] ∧ Q (.dat (.bool (isIntB d (-1) (.int 1)))) .emp
theorem mono_is_change : Mono sp_is_change := fun ts R R' W W' hr _ ⟨d, e, q⟩ => ⟨d, e, hr _ _ q⟩

def ms_is_change : List Md := [.bor]
def dn_is_change (Wd : Exn → List T → Prop) : DS := (dRet (dCall ms_is_integer sp_is_integer Wd (dCons (dVar 0) (dCons (dUn dNeg (dC (.int 1))) (dCons (dC (.int 1)) dNil)))))
abbrev st_is_change : Stmt := PySem.Challenge.pw_teesizes_k15_obstructions_judged.main.body.getD 9 (.Pass ⟨0, 0, 0, 0⟩)
abbrev N_is_change : List Str := ["value"]
theorem sc_is_change : FnScope N_is_change ["value"] (defScope st_is_change) := ⟨rfl, rfl, rfl, by decide +kernel, rfl, by decide +kernel, by decide +kernel⟩
theorem dp_is_change {P : Program} {w : World} {K : PySem.W.Frag} {mg : Str → Option Value} {base : Heap} {f : Addr} {cdv : Value} {A : Around} {os : List Env} {s : Shared} {H : Hp} {E : XK} {Wd : Exn → List T → Prop} {B0 : Addr → Prop} {o : List Addr} {vs : List V} (h_is_integer : Has P w K mg base "is_integer" 1 ["value", "low", "high"] ms_is_integer sp_is_integer)
    (hr : RoomG 1 (A.deeper (PyProof.Rows.envOfC "is_change" (defScope st_is_change) s.heap.objs.size f cdv))) (tk : DTk (ctxOf P w K mg base N_is_change "is_change" (defScope st_is_change) f cdv A os s H E Wd B0 o none vs [])) :
    DPSs (ctxOf P w K mg base N_is_change "is_change" (defScope st_is_change) f cdv A os s H E Wd B0 o none vs []) (defBody st_is_change) (dn_is_change Wd) :=
  have S := sc_is_change
  (dss_one (ds_ret (de_fn h_is_integer hr (by decide) tk rfl (da_cons (de_var 0 (nin_of rfl)) (da_cons (de_neg de_int) (da_cons de_int da_nil))))))
theorem law_is_change (ts : List T) (Q : T → T → Prop) (W : Exn → T → Prop) (h : sp_is_change ts Q W) : dn_is_change (finX none W) (fin0 none Q) (slots0 1 ts) := by
  obtain ⟨d, rfl, q⟩ := h
  exact ⟨⟨d, -1, .int 1, rfl, .inr ⟨_, rfl⟩, q⟩⟩

def sp_is_run : DSp := fun ts Q _ => ∃ d, ts = [.bor d] ∧ Q (.dat (.bool (isRunB d))) .emp
theorem mono_is_run : Mono sp_is_run := fun ts R R' W W' hr _ ⟨d, e, q⟩ => ⟨d, e, hr _ _ q⟩

def ms_is_run : List Md := [.bor]
def dn_is_run (Wd : Exn → List T → Prop) : DS := (dRet ((dAndV (dCall ms_is_listed sp_is_listed Wd (dCons (dVar 0) dNil)) (dAndV (dOp dEq (dCB dLen (dCons (dVar 0) dNil)) (dC (.int 2))) (dAndV (dCall ms_is_change sp_is_change Wd (dCons (dOp dIx (dVar 0) (dC (.int 0))) dNil)) (dCall ms_is_integer sp_is_integer Wd (dCons (dOp dIx (dVar 0) (dC (.int 1))) (dCons (dC (.int 1)) (dCons (dC (.int 1000000000000000000000000000000)) dNil)))))))))
abbrev st_is_run : Stmt := PySem.Challenge.pw_teesizes_k15_obstructions_judged.main.body.getD 10 (.Pass ⟨0, 0, 0, 0⟩)
abbrev N_is_run : List Str := ["value"]
theorem sc_is_run : FnScope N_is_run ["value"] (defScope st_is_run) := ⟨rfl, rfl, rfl, by decide +kernel, rfl, by decide +kernel, by decide +kernel⟩
theorem dp_is_run {P : Program} {w : World} {K : PySem.W.Frag} {mg : Str → Option Value} {base : Heap} {f : Addr} {cdv : Value} {A : Around} {os : List Env} {s : Shared} {H : Hp} {E : XK} {Wd : Exn → List T → Prop} {B0 : Addr → Prop} {o : List Addr} {vs : List V} (n_len : mg "len" = none) (c_MAX_COUNT : HasC mg "MAX_COUNT" (.int 1000000000000000000000000000000)) (h_is_change : Has P w K mg base "is_change" 2 ["value"] ms_is_change sp_is_change) (h_is_integer : Has P w K mg base "is_integer" 1 ["value", "low", "high"] ms_is_integer sp_is_integer) (h_is_listed : Has P w K mg base "is_listed" 1 ["value"] ms_is_listed sp_is_listed)
    (hr : RoomG 2 (A.deeper (PyProof.Rows.envOfC "is_run" (defScope st_is_run) s.heap.objs.size f cdv))) (tk : DTk (ctxOf P w K mg base N_is_run "is_run" (defScope st_is_run) f cdv A os s H E Wd B0 o none vs [])) :
    DPSs (ctxOf P w K mg base N_is_run "is_run" (defScope st_is_run) f cdv A os s H E Wd B0 o none vs []) (defBody st_is_run) (dn_is_run Wd) :=
  have S := sc_is_run
  (dss_one (ds_ret ((de_and (de_fn h_is_listed hr (by decide) tk rfl (da_cons (de_var 0 (nin_of rfl)) da_nil)) (de_and (de_cmpD (dc_eq hr.units) (de_len rfl n_len (da_cons (de_var 0 (nin_of rfl)) da_nil)) de_int) (de_and (de_fn h_is_change hr (by decide) tk rfl (da_cons (de_ix (de_var 0 (nin_of rfl)) de_int) da_nil)) (de_one (de_fn h_is_integer hr (by decide) tk rfl (da_cons (de_ix (de_var 0 (nin_of rfl)) de_int) (da_cons de_int (da_cons (de_const c_MAX_COUNT rfl rfl) da_nil)))))))))))
theorem law_is_run (ts : List T) (Q : T → T → Prop) (W : Exn → T → Prop) (h : sp_is_run ts Q W) : dn_is_run (finX none W) (fin0 none Q) (slots0 1 ts) := by
  obtain ⟨d, rfl, q⟩ := h
  refine ⟨⟨d, rfl, ?_⟩⟩
  cases d with
  | list ds =>
    refine br_t rfl (And.intro rfl (And.intro rfl ?_))
    rcases ds with _ | ⟨c, _ | ⟨n, _ | ⟨x, ds⟩⟩⟩
    · exact br_f (b := PyData.eqv (.int _) (.int 2)) (by rw [eqv_int]; rfl) q
    · exact br_f (b := PyData.eqv (.int _) (.int 2)) (by rw [eqv_int]; rfl) q
    · refine br_t (b := PyData.eqv (.int _) (.int 2)) (by rw [eqv_int]; rfl) ⟨⟨c, rfl, br_split (b := isIntB c (-1) (.int 1)) (fun e => ?_) fun e => ?_⟩⟩
      · exact ⟨⟨n, 1, .int (1000000000000000000000000000000 : Int), rfl, .inr ⟨_, rfl⟩, by simp only [isRunB, e, Bool.true_and] at q; exact q⟩⟩
      · simp only [isRunB, e, Bool.false_and] at q; exact q
    · refine br_f (b := PyData.eqv (.int _) (.int 2)) ?_ q
      rw [eqv_int]; exact beq_false_of_ne (by simp only [List.length_cons]; omega)
  | tuple ds =>
    refine br_t rfl (And.intro rfl (And.intro rfl ?_))
    rcases ds with _ | ⟨c, _ | ⟨n, _ | ⟨x, ds⟩⟩⟩
    · exact br_f (b := PyData.eqv (.int _) (.int 2)) (by rw [eqv_int]; rfl) q
    · exact br_f (b := PyData.eqv (.int _) (.int 2)) (by rw [eqv_int]; rfl) q
    · refine br_t (b := PyData.eqv (.int _) (.int 2)) (by rw [eqv_int]; rfl) ⟨⟨c, rfl, br_split (b := isIntB c (-1) (.int 1)) (fun e => ?_) fun e => ?_⟩⟩
      · exact ⟨⟨n, 1, .int (1000000000000000000000000000000 : Int), rfl, .inr ⟨_, rfl⟩, by simp only [isRunB, e, Bool.true_and] at q; exact q⟩⟩
      · simp only [isRunB, e, Bool.false_and] at q; exact q
    · refine br_f (b := PyData.eqv (.int _) (.int 2)) ?_ q
      rw [eqv_int]; exact beq_false_of_ne (by simp only [List.length_cons]; omega)
  | _ => exact br_f rfl q

def sp_is_record : DSp := fun ts Q _ => ∃ d, ts = [.bor d] ∧ Q (.dat (.bool (isRecB d))) .emp
theorem mono_is_record : Mono sp_is_record := fun ts R R' W W' hr _ ⟨d, e, q⟩ => ⟨d, e, hr _ _ q⟩

def ms_is_record : List Md := [.bor]
def dn_is_record (Wd : Exn → List T → Prop) : DS := (dSeq (dIfS ((dOrT (dNotT (tVal (dCall ms_is_listed sp_is_listed Wd (dCons (dVar 0) dNil)))) (dOrT (tVal (dOp dGt (dCB dLen (dCons (dVar 0) dNil)) (dC (.int 400)))) (dNotT (tVal (dCB dAll (dCons (dLc (dSeqI (dVarF 0)) (Tgt.one 1).d dYes (dCall ms_is_run sp_is_run noW (dCons (dVarF 1) dNil)) [1]) dNil))))))) (dRet (dC (.bool false))) dNext)
    (dRet (dCB dAll (dCons (dLc (dZipI (dCons (dVarF 0) (dCons (dSl (dVar 0) (dPart (dC (.int 1))) dNoPart) dNil))) (Tgt.many [2, 3]).d dYes (dOp dNe (dOp dIx (dVarF 2) (dC (.int 0))) (dOp dIx (dVarF 3) (dC (.int 0)))) [2, 3]) dNil))))
abbrev st_is_record : Stmt := PySem.Challenge.pw_teesizes_k15_obstructions_judged.main.body.getD 11 (.Pass ⟨0, 0, 0, 0⟩)
abbrev N_is_record : List Str := ["value", "run", "one", "other"]
theorem sc_is_record : FnScope N_is_record ["value"] (defScope st_is_record) := ⟨rfl, rfl, rfl, by decide +kernel, rfl, by decide +kernel, by decide +kernel⟩
theorem dp_is_record {P : Program} {w : World} {K : PySem.W.Frag} {mg : Str → Option Value} {base : Heap} {f : Addr} {cdv : Value} {A : Around} {os : List Env} {s : Shared} {H : Hp} {E : XK} {Wd : Exn → List T → Prop} {B0 : Addr → Prop} {o : List Addr} {vs : List V} (n_all : mg "all" = none) (n_len : mg "len" = none) (n_zip : mg "zip" = none) (c_MAX_RUNS : HasC mg "MAX_RUNS" (.int 400)) (h_is_listed : Has P w K mg base "is_listed" 1 ["value"] ms_is_listed sp_is_listed) (h_is_run : Has P w K mg base "is_run" 3 ["value"] ms_is_run sp_is_run)
    (hr : RoomG 3 (A.deeper (PyProof.Rows.envOfC "is_record" (defScope st_is_record) s.heap.objs.size f cdv))) (tk : DTk (ctxOf P w K mg base N_is_record "is_record" (defScope st_is_record) f cdv A os s H E Wd B0 o none vs [1, 2, 3])) :
    DPSs (ctxOf P w K mg base N_is_record "is_record" (defScope st_is_record) f cdv A os s H E Wd B0 o none vs [1, 2, 3]) (defBody st_is_record) (dn_is_record Wd) :=
  have S := sc_is_record
  (dss_cons (ds_if (DPW.t (dw_or (dt_not (dt_val (de_fn h_is_listed hr (by decide) tk rfl (da_cons (de_var 0 (nin_of rfl)) da_nil)))) (dw_or (dt_cmpD dc_gt (de_len rfl n_len (da_cons (de_var 0 (nin_of rfl)) da_nil)) (de_const c_MAX_RUNS rfl rfl)) (dw_or1 (dt_not (dt_val (de_all rfl n_all rfl (da_cons (de_lc rfl S.nd (own := [(("run" : Str), 1)]) (tg := (Tgt.one 1)) (di_seq (de_varF 0)) (blk_of (N := N_is_record) (sc := defScope st_is_record) (by decide +kernel)) (tgt_one S.nd rfl (Or.inl rfl) rfl) (fun _ _ _ _ _ => dts_nil) (fun _ _ _ _ _ => (de_fn h_is_run hr (by decide) tk_blk rfl (da_cons (de_varF 1) da_nil))) (by decide) (own_of rfl)) da_nil)))))))) (dss_one (ds_ret de_bl)) dss_nil)
    (dss_one (ds_ret (de_all rfl n_all rfl (da_cons (de_lc rfl S.nd (own := [(("one" : Str), 2), (("other" : Str), 3)]) (tg := (Tgt.many [2, 3])) (di_zip rfl n_zip (da_cons (de_varF 0) (da_cons (de_slice (de_var 0 (nin_of rfl)) (do_some de_int) do_none) da_nil))) (blk_of (N := N_is_record) (sc := defScope st_is_record) (by decide +kernel)) (tgt_many rfl S.nd (.cons rfl (Or.inl rfl) rfl (.cons rfl (Or.inl rfl) rfl .nil))) (fun _ _ _ _ _ => dts_nil) (fun _ _ _ _ _ => (de_cmpD (dc_ne hr.units) (de_ix (de_varF 2) de_int) (de_ix (de_varF 3) de_int))) (by decide) (own_of rfl)) da_nil)))))
theorem rec_items (ds : List D) (d : D) {K : List D → List T → Prop} (hl : ds.length ≤ 400) (h : K (ds.map fun x => .bool (isRunB x)) [.bor d, .emp, .emp, .emp]) :
    dLcGo (dgName 1) dYes (dCall ms_is_run sp_is_run noW (dCons (dVarF 1) dNil)) [1] K (ds.map .bor) [] [.bor d, .emp, .emp, .emp] := by
  refine lc_mp ds .bor (fun x => .bool (isRunB x)) rfl (Nat.le_trans hl (by decide)) (fun _ _ => rfl) (fun x hx P hp => ?_) h
  exact ⟨⟨x, rfl, hp _ rfl⟩⟩
theorem rec_pairs (ds : List D) (d : D) {K : List D → List T → Prop} (hl : ds.length ≤ 400) (ha : ds.all isRunB = true) (h : K ((ds.zip (ds.drop 1)).map fun p => .bool (!PyData.eqv (runFst p.1) (runFst p.2))) [.bor d, .emp, .emp, .emp]) :
    dLcGo (Tgt.many [2, 3]).d dYes (dOp dNe (dOp dIx (dVarF 2) (dC (.int 0))) (dOp dIx (dVarF 3) (dC (.int 0)))) [2, 3] K (zipT (ds.map .bor) ((cut ds (some 1) none).map .bor)) [] [.bor d, .emp, .emp, .emp] := by
  have e : zipT (ds.map .bor) ((cut ds (some 1) none).map .bor) = (ds.zip (ds.drop 1)).map fun p => T.tup [.bor p.1, .bor p.2] := by
    rw [show cut ds (some 1) none = _ from cut_from ds 1]
    unfold zipT
    rw [List.zip_map, List.map_map]
    rfl
  rw [e]
  refine lc_mp2 _ _ (fun p => .bor p.1) (fun p => .bor p.2) _ rfl (by decide) ?_ (fun _ _ => ⟨rfl, rfl, rfl, rfl⟩) (fun p hp P hP => ?_) h
  · refine Nat.le_trans ?_ (show 400 ≤ sizeLine by decide)
    rw [List.length_zip]; omega
  · obtain ⟨a, b⟩ := p
    have h1 := List.of_mem_zip hp
    rw [List.all_eq_true] at ha
    obtain ⟨c1, n1, z1, _⟩ := isRun_inv (ha a h1.1)
    obtain ⟨c2, n2, z2, _⟩ := isRun_inv (ha b (List.mem_of_mem_drop h1.2))
    rcases z1 with rfl | rfl <;> rcases z2 with rfl | rfl <;> exact And.intro rfl (And.intro rfl (hP _ rfl))
theorem law_is_record (ts : List T) (Q : T → T → Prop) (W : Exn → T → Prop) (h : sp_is_record ts Q W) : dn_is_record (finX none W) (fin0 none Q) (slots0 4 ts) := by
  obtain ⟨d, rfl, q⟩ := h
  refine dSeq.mk ⟨⟨d, rfl, ?_⟩⟩
  have go : ∀ ds : List D, (isRecB d = recL ds) → ds.length ≤ 400 → ∀ (c : Bool), c = ds.all isRunB → (c = true → Q (.dat (.bool (chainB ds))) .emp) ∧ (c = false → Q (.dat (.bool false)) .emp) := by
    intro ds e hl c hc
    rw [e] at q
    simp only [recL, decide_eq_true hl, Bool.true_and, ← hc] at q
    exact ⟨fun z => by rw [z, Bool.true_and] at q; exact q, fun z => by rw [z, Bool.false_and] at q; exact q⟩
  have bs : ∀ ds : List D, (ds.map fun x => PyData.bool (isRunB x)) = (ds.map isRunB).map .bool := fun ds => by rw [List.map_map]; rfl
  have bs2 : ∀ l : List (D × D), (l.map fun p => PyData.bool (!PyData.eqv (runFst p.1) (runFst p.2))) = (l.map fun p => !PyData.eqv (runFst p.1) (runFst p.2)).map .bool := fun ds => by rw [List.map_map]; rfl
  have long : ∀ ds : List D, isRecB d = recL ds → decide ((400 : Int) < (ds.length : Int)) = true → Q (.dat (.bool false)) .emp := fun ds e z => by
    rw [e] at q
    simp only [recL, decide_eq_false (show ¬ ds.length ≤ 400 by have := of_decide_eq_true z; omega), Bool.false_and] at q
    exact q
  cases d with
  | list ds =>
    refine br_f rfl (br_split (b := decide ((400 : Int) < (ds.length : Int))) (fun z => br_t rfl (long ds rfl z)) fun z => ?_)
    have hl : ds.length ≤ 400 := by have := of_decide_eq_false z; omega
    obtain ⟨g1, g2⟩ := go ds rfl hl _ rfl
    refine rec_items ds _ hl ⟨ds.map isRunB, by rw [bs]; rfl, br_split (b := !(ds.map isRunB).all id) (fun z => ?_) fun z => ?_⟩
    · exact g2 (by rw [List.all_map] at z; simpa using z)
    · have ha : ds.all isRunB = true := by rw [List.all_map] at z; simpa using z
      refine And.intro rfl (rec_pairs ds _ hl ha ⟨_, by rw [bs2]; rfl, ?_⟩)
      have w := g1 ha; rw [← chain_zip] at w; exact w
  | tuple ds =>
    refine br_f rfl (br_split (b := decide ((400 : Int) < (ds.length : Int))) (fun z => br_t rfl (long ds rfl z)) fun z => ?_)
    have hl : ds.length ≤ 400 := by have := of_decide_eq_false z; omega
    obtain ⟨g1, g2⟩ := go ds rfl hl _ rfl
    refine rec_items ds _ hl ⟨ds.map isRunB, by rw [bs]; rfl, br_split (b := !(ds.map isRunB).all id) (fun z => ?_) fun z => ?_⟩
    · exact g2 (by rw [List.all_map] at z; simpa using z)
    · have ha : ds.all isRunB = true := by rw [List.all_map] at z; simpa using z
      refine And.intro rfl (rec_pairs ds _ hl ha ⟨_, by rw [bs2]; rfl, ?_⟩)
      have w := g1 ha; rw [← chain_zip] at w; exact w
  | _ => exact br_t rfl (br_t rfl q)

def sp_checked_record : DSp := fun ts Q _ => ∃ (d : D) (ds : List D) (rs : List (Int × Int)), ts = [.bor d] ∧ (d = .list ds ∨ d = .tuple ds) ∧ RLk ds rs ∧ Runs 400 (1000000000000000000000000000000 : Int) rs ∧ Q (.own (rs.map drun)) .emp
theorem mono_checked_record : Mono sp_checked_record := fun ts R R' W W' hr _ ⟨d, ds, rs, e, h1, h2, h3, q⟩ => ⟨d, ds, rs, e, h1, h2, h3, hr _ _ q⟩
def toTup : D → D
  | .list ds => .tuple ds
  | d => d
theorem rlk_tup : ∀ {ds : List D} {rs : List (Int × Int)}, RLk ds rs → ds.map toTup = rs.map drun
  | [], [], _ => rfl
  | d :: ds, p :: rs, h => by
    rw [List.map_cons, List.map_cons, rlk_tup h.2]
    rcases h.1 with rfl | rfl <;> rfl
  | [], _ :: _, h => h.elim
  | _ :: _, [], h => h.elim
theorem rlk_each : ∀ {ds : List D} {rs : List (Int × Int)}, RLk ds rs → ∀ d ∈ ds, ∃ p : Int × Int, d = .list [.int p.1, .int p.2] ∨ d = .tuple [.int p.1, .int p.2]
  | [], [], _, d, hd => by simp at hd
  | d :: ds, p :: rs, h, x, hx => by
    rcases List.mem_cons.mp hx with rfl | hx
    · exact ⟨p, h.1⟩
    · exact rlk_each h.2 x hx
  | [], _ :: _, h, _, _ => h.elim
  | _ :: _, [], h, _, _ => h.elim
theorem use_checked {d : D} {ds : List D} {rs : List (Int × Int)} {Q : T → T → Prop} {W : Exn → T → Prop} (h1 : d = .list ds ∨ d = .tuple ds) (h2 : RLk ds rs) (h3 : Runs 400 (1000000000000000000000000000000 : Int) rs) (q : Q (.own (rs.map drun)) .emp) : Spc sp_checked_record [.bor d] Q W := ⟨⟨d, ds, rs, rfl, h1, h2, h3, q⟩⟩

def ms_checked_record : List Md := [.bor]
def dn_checked_record (Wd : Exn → List T → Prop) : DS := (dSeq (dIfS (dNotT (tVal (dCall ms_is_record sp_is_record Wd (dCons (dVar 0) dNil)))) dNever dNext)
    (dRet (dLc (dSeqI (dVarF 0)) (Tgt.one 1).d dYes (dCB dTupOf (dCons (dVarF 1) dNil)) [1])))
abbrev st_checked_record : Stmt := PySem.Challenge.pw_teesizes_k15_obstructions_judged.main.body.getD 12 (.Pass ⟨0, 0, 0, 0⟩)
abbrev N_checked_record : List Str := ["value", "run"]
theorem sc_checked_record : FnScope N_checked_record ["value"] (defScope st_checked_record) := ⟨rfl, rfl, rfl, by decide +kernel, rfl, by decide +kernel, by decide +kernel⟩
theorem dp_checked_record {P : Program} {w : World} {K : PySem.W.Frag} {mg : Str → Option Value} {base : Heap} {f : Addr} {cdv : Value} {A : Around} {os : List Env} {s : Shared} {H : Hp} {E : XK} {Wd : Exn → List T → Prop} {B0 : Addr → Prop} {o : List Addr} {vs : List V} (n_tuple : mg "tuple" = none) (h_is_record : Has P w K mg base "is_record" 4 ["value"] ms_is_record sp_is_record)
    (hr : RoomG 4 (A.deeper (PyProof.Rows.envOfC "checked_record" (defScope st_checked_record) s.heap.objs.size f cdv))) (tk : DTk (ctxOf P w K mg base N_checked_record "checked_record" (defScope st_checked_record) f cdv A os s H E Wd B0 o none vs [1])) :
    DPSs (ctxOf P w K mg base N_checked_record "checked_record" (defScope st_checked_record) f cdv A os s H E Wd B0 o none vs [1]) (defBody st_checked_record) (dn_checked_record Wd) :=
  have S := sc_checked_record
  (dss_cons (ds_if (dt_not (dt_val (de_fn h_is_record hr (by decide) tk rfl (da_cons (de_var 0 (nin_of rfl)) da_nil)))) (dss_one ds_never) dss_nil)
    (dss_one (ds_ret (de_lc rfl S.nd (own := [(("run" : Str), 1)]) (tg := (Tgt.one 1)) (di_seq (de_varF 0)) (blk_of (N := N_checked_record) (sc := defScope st_checked_record) (by decide +kernel)) (tgt_one S.nd rfl (Or.inl rfl) rfl) (fun _ _ _ _ _ => dts_nil) (fun _ _ _ _ _ => (de_tupOf rfl n_tuple (da_cons (de_varF 1) da_nil))) (by decide) (own_of rfl)))))
theorem law_checked_record (ts : List T) (Q : T → T → Prop) (W : Exn → T → Prop) (h : sp_checked_record ts Q W) : dn_checked_record (finX none W) (fin0 none Q) (slots0 2 ts) := by
  obtain ⟨d, ds, rs, rfl, hd, hk, hr, q⟩ := h
  have e0 := rlk_rec hk hr (Nat.le_refl _) (Int.le_refl _)
  have e1 : isRecB d = true := by rcases hd with rfl | rfl <;> exact e0
  refine dSeq.mk ⟨⟨d, rfl, ?_⟩⟩
  rw [e1]
  refine br_f rfl ?_
  have hl : ds.length ≤ 400 := by have := rlk_len hk; have := hr.len; omega
  have go : dLcGo (dgName 1) dYes (dCB dTupOf (dCons (dVarF 1) dNil)) [1] (fun ds ρ2 => retT (fin0 none Q).rt (.own ds) ρ2) (ds.map .bor) [] [.bor d, .emp] := by
    refine lc_mp ds _ toTup rfl (Nat.le_trans hl (by decide)) (fun _ _ => rfl) (fun x hx P hP => ?_) ?_
    · obtain ⟨p, hp⟩ := rlk_each hk x hx
      rcases hp with rfl | rfl <;> exact hP _ rfl
    · rw [rlk_tup hk]; exact q
  rcases hd with rfl | rfl <;> exact go

def aftD (a b c d x n : Int) : D := .tuple [.int (a + n), .int (if x = 1 then b + n else b), .int (if x = 0 then c + n else c), .int (if x = -1 then d + n else d)]
def sp_after_run : DSp := fun ts Q _ => ∃ a b c d x n : Int, ts = [.bor (.tuple [.int a, .int b, .int c, .int d]), .dat (.int x), .dat (.int n)] ∧ (-1 ≤ x ∧ x ≤ 1) ∧ Q (.dat (aftD a b c d x n)) .emp
theorem mono_after_run : Mono sp_after_run := fun ts R R' W W' hr _ ⟨a, b, c, d, x, n, e, h, q⟩ => ⟨a, b, c, d, x, n, e, h, hr _ _ q⟩
theorem use_after {a b c d x n : Int} {Q : T → T → Prop} {W : Exn → T → Prop} (h : -1 ≤ x ∧ x ≤ 1) (q : Q (.dat (aftD a b c d x n)) .emp) : Spc sp_after_run [.bor (.tuple [.int a, .int b, .int c, .int d]), .dat (.int x), .dat (.int n)] Q W := ⟨⟨a, b, c, d, x, n, rfl, h, q⟩⟩

def ms_after_run : List Md := [.bor, .dat, .dat]
def dn_after_run (Wd : Exn → List T → Prop) : DS := (dSeq (dAsg (dVarF 0) (dgTup 4 (dgCons (dgName 3) (dgCons (dgName 4) (dgCons (dgName 5) (dgCons (dgName 6) dgNil))))))
    (dSeq (dIfS (tVal (dOp dEq (dVar 1) (dC (.int 1)))) (dRet (dTup (dCons (dOp dAdd (dVar 3) (dVar 2)) (dCons (dOp dAdd (dVar 4) (dVar 2)) (dCons (dVarF 5) (dCons (dVarF 6) dNil)))))) dNext)
    (dSeq (dIfS (tVal (dOp dEq (dVar 1) (dC (.int 0)))) (dRet (dTup (dCons (dOp dAdd (dVar 3) (dVar 2)) (dCons (dVarF 4) (dCons (dOp dAdd (dVar 5) (dVar 2)) (dCons (dVarF 6) dNil)))))) dNext)
    (dRet (dTup (dCons (dOp dAdd (dVar 3) (dVar 2)) (dCons (dVarF 4) (dCons (dVarF 5) (dCons (dOp dAdd (dVar 6) (dVar 2)) dNil)))))))))
abbrev st_after_run : Stmt := PySem.Challenge.pw_teesizes_k15_obstructions_judged.main.body.getD 19 (.Pass ⟨0, 0, 0, 0⟩)
abbrev N_after_run : List Str := ["totals", "change", "count", "reads", "increases", "zeros", "decreases"]
theorem sc_after_run : FnScope N_after_run ["totals", "change", "count"] (defScope st_after_run) := ⟨rfl, rfl, rfl, by decide +kernel, rfl, by decide +kernel, by decide +kernel⟩
theorem dp_after_run {P : Program} {w : World} {K : PySem.W.Frag} {mg : Str → Option Value} {base : Heap} {f : Addr} {cdv : Value} {A : Around} {os : List Env} {s : Shared} {H : Hp} {E : XK} {Wd : Exn → List T → Prop} {B0 : Addr → Prop} {o : List Addr} {vs : List V} 
    (hr : RoomG 0 (A.deeper (PyProof.Rows.envOfC "after_run" (defScope st_after_run) s.heap.objs.size f cdv))) (tk : DTk (ctxOf P w K mg base N_after_run "after_run" (defScope st_after_run) f cdv A os s H E Wd B0 o none vs [])) :
    DPSs (ctxOf P w K mg base N_after_run "after_run" (defScope st_after_run) f cdv A os s H E Wd B0 o none vs []) (defBody st_after_run) (dn_after_run Wd) :=
  have S := sc_after_run
  (dss_cons (ds_asg (de_varF 0) (dg_tup rfl (dgs_cons (dg_name S.nd (i := 3) rfl (Or.inl rfl) (nin_of rfl)) (dgs_cons (dg_name S.nd (i := 4) rfl (Or.inl rfl) (nin_of rfl)) (dgs_cons (dg_name S.nd (i := 5) rfl (Or.inl rfl) (nin_of rfl)) (dgs_cons (dg_name S.nd (i := 6) rfl (Or.inl rfl) (nin_of rfl)) dgs_nil))))))
    (dss_cons (ds_if (dt_cmpD (dc_eq hr.units) (de_var 1 (nin_of rfl)) de_int) (dss_one (ds_ret (de_tup (da_cons (de_add (de_var 3 (nin_of rfl)) (de_var 2 (nin_of rfl))) (da_cons (de_add (de_var 4 (nin_of rfl)) (de_var 2 (nin_of rfl))) (da_cons (de_varF 5) (da_cons (de_varF 6) da_nil))))))) dss_nil)
    (dss_cons (ds_if (dt_cmpD (dc_eq hr.units) (de_var 1 (nin_of rfl)) de_int) (dss_one (ds_ret (de_tup (da_cons (de_add (de_var 3 (nin_of rfl)) (de_var 2 (nin_of rfl))) (da_cons (de_varF 4) (da_cons (de_add (de_var 5 (nin_of rfl)) (de_var 2 (nin_of rfl))) (da_cons (de_varF 6) da_nil))))))) dss_nil)
    (dss_one (ds_ret (de_tup (da_cons (de_add (de_var 3 (nin_of rfl)) (de_var 2 (nin_of rfl))) (da_cons (de_varF 4) (da_cons (de_varF 5) (da_cons (de_add (de_var 6 (nin_of rfl)) (de_var 2 (nin_of rfl))) da_nil))))))))))
theorem law_after_run (ts : List T) (Q : T → T → Prop) (W : Exn → T → Prop) (h : sp_after_run ts Q W) : dn_after_run (finX none W) (fin0 none Q) (slots0 7 ts) := by
  obtain ⟨a, b, c, d, x, n, rfl, hx, q⟩ := h
  refine dSeq.mk (And.intro rfl (dSeq.mk (And.intro rfl (And.intro rfl ?_))))
  rcases (by omega : x = 1 ∨ x = 0 ∨ x = -1) with rfl | rfl | rfl
  · exact br_t (by rw [eqv_int]; rfl) q
  · exact br_f (by rw [eqv_int]; rfl) (dSeq.mk (And.intro rfl (And.intro rfl (br_t (by rw [eqv_int]; rfl) q))))
  · exact br_f (by rw [eqv_int]; rfl) (dSeq.mk (And.intro rfl (And.intro rfl (br_f (by rw [eqv_int]; rfl) q))))

def sp_ends_of : DSp := fun ts Q _ => ∃ rs : List (Int × Int), ts = [.bor (.list (rs.map drun))] ∧ rs.length ≤ 1000000 ∧ (∀ p ∈ rs, -1 ≤ p.1 ∧ p.1 ≤ 1) ∧ Q (.own (endsT rs)) .emp
theorem mono_ends_of : Mono sp_ends_of := fun ts R R' W W' hr _ ⟨rs, e, h1, h2, q⟩ => ⟨rs, e, h1, h2, hr _ _ q⟩
theorem use_endsOf {rs : List (Int × Int)} {Q : T → T → Prop} {W : Exn → T → Prop} (h1 : rs.length ≤ 1000000) (h2 : ∀ p ∈ rs, -1 ≤ p.1 ∧ p.1 ≤ 1) (q : Q (.own (endsT rs)) .emp) : Spc sp_ends_of [.bor (.list (rs.map drun))] Q W := ⟨⟨rs, rfl, h1, h2, q⟩⟩
theorem gI_endsT (rs : List (Int × Int)) : gI (endsT rs) (-1) = some (tupR rs) := by rw [gI_last, endsT_last]
theorem aft_tup (pre : List (Int × Int)) (p : Int × Int) : aftD (totR pre) (sumC 1 pre) (sumC 0 pre) (sumC (-1) pre) p.1 p.2 = tupR (pre ++ [p]) := by
  have e : ∀ c : Int, (if p.1 = c then sumC c pre + p.2 else sumC c pre) = sumC c (pre ++ [p]) := fun c => by rw [sumC_append, sumC_one]; split <;> omega
  unfold aftD tupR
  rw [e, e, e, totR_append, totR_one]

def ms_ends_of : List Md := [.bor]
def dn_ends_of (Wd : Exn → List T → Prop) : DS := (dSeq (dAsg (dLst (dCons (dTup (dCons (dC (.int 0)) (dCons (dC (.int 0)) (dCons (dC (.int 0)) (dCons (dC (.int 0)) dNil))))) dNil)) (dgName 1))
    (dSeq (dForS (dSeqI (dVarF 0)) (dgTup 2 (dgCons (dgName 2) (dgCons (dgName 3) dgNil))) (dDrop (dLm 1 lmAppend (dCons (dCall ms_after_run sp_after_run Wd (dCons (dOp dIx (dVar 1) (dUn dNeg (dC (.int 1)))) (dCons (dVarF 2) (dCons (dVarF 3) dNil)))) dNil))))
    (dRet (dVarM 1))))
abbrev st_ends_of : Stmt := PySem.Challenge.pw_teesizes_k15_obstructions_judged.main.body.getD 20 (.Pass ⟨0, 0, 0, 0⟩)
abbrev N_ends_of : List Str := ["runs", "found", "change", "count"]
theorem sc_ends_of : FnScope N_ends_of ["runs"] (defScope st_ends_of) := ⟨rfl, rfl, rfl, by decide +kernel, rfl, by decide +kernel, by decide +kernel⟩
theorem dp_ends_of {P : Program} {w : World} {K : PySem.W.Frag} {mg : Str → Option Value} {base : Heap} {f : Addr} {cdv : Value} {A : Around} {os : List Env} {s : Shared} {H : Hp} {E : XK} {Wd : Exn → List T → Prop} {B0 : Addr → Prop} {o : List Addr} {vs : List V} (h_after_run : Has P w K mg base "after_run" 1 ["totals", "change", "count"] ms_after_run sp_after_run)
    (hr : RoomG 1 (A.deeper (PyProof.Rows.envOfC "ends_of" (defScope st_ends_of) s.heap.objs.size f cdv))) (tk : DTk (ctxOf P w K mg base N_ends_of "ends_of" (defScope st_ends_of) f cdv A os s H E Wd B0 o none vs [])) :
    DPSs (ctxOf P w K mg base N_ends_of "ends_of" (defScope st_ends_of) f cdv A os s H E Wd B0 o none vs []) (defBody st_ends_of) (dn_ends_of Wd) :=
  have S := sc_ends_of
  (dss_cons (ds_set S.nd (i := 1) rfl (Or.inl rfl) (nin_of rfl) (de_lst (da_cons (de_tup (da_cons de_int (da_cons de_int (da_cons de_int (da_cons de_int da_nil))))) da_nil)))
    (dss_cons (ds_for (passes_of rfl) rfl (di_seq (de_varF 0)) (dg_tup rfl (dgs_cons (dg_name S.nd (i := 2) rfl (Or.inl rfl) (nin_of rfl)) (dgs_cons (dg_name S.nd (i := 3) rfl (Or.inl rfl) (nin_of rfl)) dgs_nil))) (dss_one (ds_expr (de_lm 1 PySem.F.slot_list_append PySem.F.type_list_append mt_append sl_append rfl (by first | exact Or.inl rfl | exact Or.inr (Or.inl rfl) | exact Or.inr (Or.inr rfl)) (da_cons (de_fn h_after_run hr (by decide) tk rfl (da_cons (de_ix (de_var 1 (nin_of rfl)) (de_neg de_int)) (da_cons (de_varF 2) (da_cons (de_varF 3) da_nil)))) da_nil)))))
    (dss_one (ds_ret (de_varM 1)))))
theorem law_ends_of (ts : List T) (Q : T → T → Prop) (W : Exn → T → Prop) (h : sp_ends_of ts Q W) : dn_ends_of (finX none W) (fin0 none Q) (slots0 4 ts) := by
  obtain ⟨rs, rfl, hl, hc, q⟩ := h
  refine dSeq.mk (dSeq.mk ?_)
  show dFor _ _ _ ((rs.map drun).map T.bor) _
  rw [List.map_map]
  refine for_pre rs _ (fun pre ρ => ∃  (x_change x_count : T), ρ = [.bor (.list (rs.map drun)), .own (endsT pre), x_change, x_count]) ⟨_, _, rfl⟩ (fun pre p post ρ K e hp k => ?_) (fun ρ p => ?_)
  · obtain ⟨x_change, x_count, rfl⟩ := hp
    have hz : (endsT pre).length < sizeLine := by
      have h2 := congrArg List.length e
      simp only [List.length_append, List.length_cons] at h2
      rw [endsT_len]
      exact Nat.lt_of_lt_of_le (by omega : _ < 1000001) (by decide)
    refine And.intro rfl (wO_i (gI_endsT pre) (use_after (x := p.1) (n := p.2) (hc p (by rw [e]; simp)) (And.intro hz (k _ ?_))))
    rw [aft_tup, endsT_snoc]
    exact ⟨_, _, rfl⟩
  · obtain ⟨x_change, x_count, rfl⟩ := p
    exact q

def sp_ends_until : DSp := fun ts Q _ => ∃ (rs : List (Int × Int)) (n : Int), ts = [.bor (.list (rs.map drun)), .dat (.int n)] ∧ rs.length ≤ 1000000 ∧ (∀ p ∈ rs, -1 ≤ p.1 ∧ p.1 ≤ 1) ∧ (∀ p ∈ rs, 1 ≤ p.2) ∧ 0 ≤ n ∧
  ∀ ds : List D, gI ds (-1) = some (.tuple [.int (mn (totR rs) n), .int (cntF 1 rs n), .int (cntF 0 rs n), .int (cntF (-1) rs n)]) → Q (.own ds) .emp
theorem mono_ends_until : Mono sp_ends_until := fun ts R R' W W' hr _ ⟨rs, n, e, h1, h2, h3, h4, q⟩ => ⟨rs, n, e, h1, h2, h3, h4, fun ds h => hr _ _ (q ds h)⟩
theorem use_until {rs : List (Int × Int)} {n : Int} {Q : T → T → Prop} {W : Exn → T → Prop} (h1 : rs.length ≤ 1000000) (h2 : ∀ p ∈ rs, -1 ≤ p.1 ∧ p.1 ≤ 1) (h3 : ∀ p ∈ rs, 1 ≤ p.2) (h4 : 0 ≤ n) (q : ∀ ds : List D, gI ds (-1) = some (.tuple [.int (mn (totR rs) n), .int (cntF 1 rs n), .int (cntF 0 rs n), .int (cntF (-1) rs n)]) → Q (.own ds) .emp) :
    Spc sp_ends_until [.bor (.list (rs.map drun)), .dat (.int n)] Q W := ⟨⟨rs, n, rfl, h1, h2, h3, h4, q⟩⟩

def ms_ends_until : List Md := [.bor, .dat]
def dn_ends_until (Wd : Exn → List T → Prop) : DS := (dSeq (dAsg (dLst (dCons (dTup (dCons (dC (.int 0)) (dCons (dC (.int 0)) (dCons (dC (.int 0)) (dCons (dC (.int 0)) dNil))))) dNil)) (dgName 2))
    (dSeq (dForS (dSeqI (dVarF 0)) (dgTup 2 (dgCons (dgName 3) (dgCons (dgName 4) dgNil))) (dSeq (dAsg (dOp dSub (dVar 1) (dOp dIx (dOp dIx (dVar 2) (dUn dNeg (dC (.int 1)))) (dC (.int 0)))) (dgName 5))
    (dIfS (tVal (dOp dGt (dVar 5) (dC (.int 0)))) (dDrop (dLm 2 lmAppend (dCons (dCall ms_after_run sp_after_run Wd (dCons (dOp dIx (dVar 2) (dUn dNeg (dC (.int 1)))) (dCons (dVarF 3) (dCons (dCB dMin2 (dCons (dVar 4) (dCons (dVar 5) dNil))) dNil)))) dNil))) dNext)))
    (dRet (dVarM 2))))
abbrev st_ends_until : Stmt := PySem.Challenge.pw_teesizes_k15_obstructions_judged.main.body.getD 21 (.Pass ⟨0, 0, 0, 0⟩)
abbrev N_ends_until : List Str := ["runs", "number", "found", "change", "count", "left"]
theorem sc_ends_until : FnScope N_ends_until ["runs", "number"] (defScope st_ends_until) := ⟨rfl, rfl, rfl, by decide +kernel, rfl, by decide +kernel, by decide +kernel⟩
theorem dp_ends_until {P : Program} {w : World} {K : PySem.W.Frag} {mg : Str → Option Value} {base : Heap} {f : Addr} {cdv : Value} {A : Around} {os : List Env} {s : Shared} {H : Hp} {E : XK} {Wd : Exn → List T → Prop} {B0 : Addr → Prop} {o : List Addr} {vs : List V} (n_min : mg "min" = none) (h_after_run : Has P w K mg base "after_run" 1 ["totals", "change", "count"] ms_after_run sp_after_run)
    (hr : RoomG 1 (A.deeper (PyProof.Rows.envOfC "ends_until" (defScope st_ends_until) s.heap.objs.size f cdv))) (tk : DTk (ctxOf P w K mg base N_ends_until "ends_until" (defScope st_ends_until) f cdv A os s H E Wd B0 o none vs [])) :
    DPSs (ctxOf P w K mg base N_ends_until "ends_until" (defScope st_ends_until) f cdv A os s H E Wd B0 o none vs []) (defBody st_ends_until) (dn_ends_until Wd) :=
  have S := sc_ends_until
  (dss_cons (ds_set S.nd (i := 2) rfl (Or.inl rfl) (nin_of rfl) (de_lst (da_cons (de_tup (da_cons de_int (da_cons de_int (da_cons de_int (da_cons de_int da_nil))))) da_nil)))
    (dss_cons (ds_for (passes_of rfl) rfl (di_seq (de_varF 0)) (dg_tup rfl (dgs_cons (dg_name S.nd (i := 3) rfl (Or.inl rfl) (nin_of rfl)) (dgs_cons (dg_name S.nd (i := 4) rfl (Or.inl rfl) (nin_of rfl)) dgs_nil))) (dss_cons (ds_set S.nd (i := 5) rfl (Or.inl rfl) (nin_of rfl) (de_sub (de_var 1 (nin_of rfl)) (de_ix (de_ix (de_var 2 (nin_of rfl)) (de_neg de_int)) de_int)))
    (dss_one (ds_if (dt_cmpD dc_gt (de_var 5 (nin_of rfl)) de_int) (dss_one (ds_expr (de_lm 2 PySem.F.slot_list_append PySem.F.type_list_append mt_append sl_append rfl (by first | exact Or.inl rfl | exact Or.inr (Or.inl rfl) | exact Or.inr (Or.inr rfl)) (da_cons (de_fn h_after_run hr (by decide) tk rfl (da_cons (de_ix (de_var 2 (nin_of rfl)) (de_neg de_int)) (da_cons (de_varF 3) (da_cons (de_min2 rfl n_min rfl (da_cons (de_var 4 (nin_of rfl)) (da_cons (de_var 5 (nin_of rfl)) da_nil))) da_nil)))) da_nil)))) dss_nil))))
    (dss_one (ds_ret (de_varM 2)))))
theorem law_ends_until (ts : List T) (Q : T → T → Prop) (W : Exn → T → Prop) (h : sp_ends_until ts Q W) : dn_ends_until (finX none W) (fin0 none Q) (slots0 6 ts) := by
  obtain ⟨rs, n, rfl, hl, hc, hp1, n0, q⟩ := h
  refine dSeq.mk (dSeq.mk ?_)
  show dFor _ _ _ ((rs.map drun).map T.bor) _
  rw [List.map_map]
  refine for_pre rs _ (fun pre ρ => ∃ (ds : List D) (x_change x_count x_left : T), ρ = [.bor (.list (rs.map drun)), .dat (.int n), .own ds, x_change, x_count, x_left] ∧ ds.length ≤ pre.length + 1 ∧ gI ds (-1) = some (.tuple [.int (mn (totR pre) n), .int (cntF 1 pre n), .int (cntF 0 pre n), .int (cntF (-1) pre n)])) ⟨_, _, _, _, rfl, ⟨Nat.le_refl _, ?_⟩⟩ (fun pre p post ρ K e hp k => ?_) (fun ρ p => ?_)
  · have : mn (totR []) n = 0 := by unfold mn; rw [totR_nil]; split <;> omega
    rw [this]; rfl
  · obtain ⟨ds, x_change, x_count, x_left, rfl, ⟨hd, hg⟩⟩ := hp
    have hz : ds.length < sizeLine := by
      have h2 := congrArg List.length e
      simp only [List.length_append, List.length_cons] at h2
      exact Nat.lt_of_lt_of_le (by omega : _ < 1000002) (by decide)
    have pos := hp1 p (by rw [e]; simp)
    have et : totR (pre ++ [p]) = totR pre + p.2 := by rw [totR_append, totR_one]
    refine And.intro rfl (dSeq.mk (wO_i hg ?_))
    have step : ∀ ds' : List D, ds'.length ≤ ds.length + 1 → gI ds' (-1) = some (.tuple [.int (mn (totR pre + p.2) n), .int (cntF 1 pre n + if p.1 = 1 then cutN p.2 (n - totR pre) else 0), .int (cntF 0 pre n + if p.1 = 0 then cutN p.2 (n - totR pre) else 0), .int (cntF (-1) pre n + if p.1 = -1 then cutN p.2 (n - totR pre) else 0)]) → ∀ ρ, (∃ a b c, ρ = [.bor (.list (rs.map drun)), .dat (.int n), .own ds', a, b, c]) → K ρ := by
      intro ds' h1 h2 ρ ⟨a, b, c, hρ⟩
      subst hρ
      refine k _ ⟨ds', _, _, _, rfl, ⟨by simp; omega, ?_⟩⟩
      rw [h2, et, cntF_append, cntF_append, cntF_append, cntF_one, cntF_one, cntF_one]
    refine br_dec (c := 0 < n - mn (totR pre) n) (fun h => ?_) fun h => ?_
    · have lt : totR pre < n := by unfold mn at h; split at h <;> omega
      have em : mn (totR pre) n = totR pre := by unfold mn; rw [if_neg (by omega)]
      refine wO_i hg (use_after (x := p.1) (n := if n - mn (totR pre) n < p.2 then n - mn (totR pre) n else p.2) (hc p (by rw [e]; simp)) (And.intro hz ?_))
      refine step _ (by simp) ?_ _ ⟨_, _, _, rfl⟩
      rw [gI_last, List.getLast?_append]
      have ec : (if n - mn (totR pre) n < p.2 then n - mn (totR pre) n else p.2) = cutN p.2 (n - totR pre) := by rw [em]; unfold cutN mx0 mn; split <;> split <;> omega
      have e3 : mn (totR pre) n + cutN p.2 (n - totR pre) = mn (totR pre + p.2) n := by rw [em]; unfold cutN mx0 mn; split <;> split <;> split <;> omega
      rw [ec]
      unfold aftD
      rw [e3]
      have e4 : ∀ (c : Int) (y : Int), (if p.1 = c then y + cutN p.2 (n - totR pre) else y) = y + if p.1 = c then cutN p.2 (n - totR pre) else 0 := fun c y => by split <;> omega
      rw [e4, e4, e4]
      rfl
    · have ge : n ≤ totR pre := by unfold mn at h; split at h <;> omega
      refine step ds (by omega) ?_ _ ⟨_, _, _, rfl⟩
      have ec : cutN p.2 (n - totR pre) = 0 := by unfold cutN mx0 mn; split <;> split <;> omega
      have e1 : mn (totR pre + p.2) n = mn (totR pre) n := by unfold mn; split <;> split <;> omega
      rw [hg, ec, e1]
      simp
  · obtain ⟨ds, x_change, x_count, x_left, rfl, ⟨hd, hg⟩⟩ := p
    exact q ds hg

def sp_check_many_readers : DSp := fun ts Q _ => ∃ R : Int, ts = [.dat (.int R)] ∧ 1 ≤ R ∧ R ≤ 1000000000000000000000000000000000000000 ∧ Q (.dat .none) .emp
theorem mono_check_many_readers : Mono sp_check_many_readers := fun ts R R' W W' hr _ ⟨r, e, h1, h2, q⟩ => ⟨r, e, h1, h2, hr _ _ q⟩

def ms_check_many_readers : List Md := [.dat]
def dn_check_many_readers (Wd : Exn → List T → Prop) : DS := (dIfS (dNotT (tVal (dCall ms_is_integer sp_is_integer Wd (dCons (dVar 0) (dCons (dC (.int 1)) (dCons (dC (.int 1000000000000000000000000000000000000000)) dNil)))))) dNever dNext)
abbrev st_check_many_readers : Stmt := PySem.Challenge.pw_teesizes_k15_obstructions_judged.main.body.getD 22 (.Pass ⟨0, 0, 0, 0⟩)
abbrev N_check_many_readers : List Str := ["readers"]
theorem sc_check_many_readers : FnScope N_check_many_readers ["readers"] (defScope st_check_many_readers) := ⟨rfl, rfl, rfl, by decide +kernel, rfl, by decide +kernel, by decide +kernel⟩
theorem dp_check_many_readers {P : Program} {w : World} {K : PySem.W.Frag} {mg : Str → Option Value} {base : Heap} {f : Addr} {cdv : Value} {A : Around} {os : List Env} {s : Shared} {H : Hp} {E : XK} {Wd : Exn → List T → Prop} {B0 : Addr → Prop} {o : List Addr} {vs : List V} (c_MOST_NUMBER : HasC mg "MOST_NUMBER" (.int 1000000000000000000000000000000000000000)) (h_is_integer : Has P w K mg base "is_integer" 1 ["value", "low", "high"] ms_is_integer sp_is_integer)
    (hr : RoomG 1 (A.deeper (PyProof.Rows.envOfC "check_many_readers" (defScope st_check_many_readers) s.heap.objs.size f cdv))) (tk : DTk (ctxOf P w K mg base N_check_many_readers "check_many_readers" (defScope st_check_many_readers) f cdv A os s H E Wd B0 o none vs [])) :
    DPSs (ctxOf P w K mg base N_check_many_readers "check_many_readers" (defScope st_check_many_readers) f cdv A os s H E Wd B0 o none vs []) (defBody st_check_many_readers) (dn_check_many_readers Wd) :=
  have S := sc_check_many_readers
  (dss_one (ds_if (dt_not (dt_val (de_fn h_is_integer hr (by decide) tk rfl (da_cons (de_var 0 (nin_of rfl)) (da_cons de_int (da_cons (de_const c_MOST_NUMBER rfl rfl) da_nil)))))) (dss_one ds_never) dss_nil))
theorem law_check_many_readers (ts : List T) (Q : T → T → Prop) (W : Exn → T → Prop) (h : sp_check_many_readers ts Q W) : dn_check_many_readers (finX none W) (fin0 none Q) (slots0 1 ts) := by
  obtain ⟨R, rfl, h1, h2, q⟩ := h
  refine ⟨⟨.int R, 1, .int 1000000000000000000000000000000000000000, rfl, .inr ⟨_, rfl⟩, ?_⟩⟩
  have e : isIntB (.int R) 1 (.int 1000000000000000000000000000000000000000) = true := by simp only [isIntB, decide_eq_true h1, decide_eq_true h2]; rfl
  rw [e]
  exact br_f rfl q

def lawB (rs : List (Int × Int)) (R : Int) (w : Str) (n : Int) : Bool :=
  if w = ("single" : Str) then (R == 1) && decide (0 < cntF 1 rs n + cntF (-1) rs n)
  else if w = ("two" : Str) then (R == 2) && (decide (0 < cntF 0 rs n) || decide (cntF 1 rs n < cntF (-1) rs n))
  else if w = ("few" : Str) then decide (2 < R) && decide ((R - 2) * cntF 1 rs n < cntF 0 rs n)
  else decide (w = ("many" : Str)) && (decide (2 < R) && decide (cntF 0 rs n < (R - 2) * cntF (-1) rs n))
def obsP (rs : List (Int × Int)) (R : Int) : D → D → Bool
  | .str w, .int n => isIntB (.int n) 1 (.int (totR rs)) && lawB rs R w n
  | _, _ => false
def obsB (rs : List (Int × Int)) (R : Int) : D → Bool
  | .list [a, b] => obsP rs R a b
  | .tuple [a, b] => obsP rs R a b
  | _ => false
def sp_obstructs : DSp := fun ts Q _ => ∃ (d : D) (ds : List D) (rs : List (Int × Int)) (R : Int) (v : D), ts = [.bor d, .dat (.int R), .bor v] ∧ (d = .list ds ∨ d = .tuple ds) ∧ RLk ds rs ∧ Runs 400 (1000000000000000000000000000000 : Int) rs ∧ 1 ≤ R ∧ R ≤ 1000000000000000000000000000000000000000 ∧ Q (.dat (.bool (obsB rs R v))) .emp
theorem mono_obstructs : Mono sp_obstructs := fun ts R R' W W' hr _ ⟨d, ds, rs, r, v, e, h1, h2, h3, h4, h5, q⟩ => ⟨d, ds, rs, r, v, e, h1, h2, h3, h4, h5, hr _ _ q⟩
theorem use_obstructs {d : D} {ds : List D} {rs : List (Int × Int)} {R : Int} {v : D} {Q : T → T → Prop} {W : Exn → T → Prop} (h1 : d = .list ds ∨ d = .tuple ds) (h2 : RLk ds rs) (h3 : Runs 400 (1000000000000000000000000000000 : Int) rs) (h4 : 1 ≤ R) (h5 : R ≤ 1000000000000000000000000000000000000000) (q : Q (.dat (.bool (obsB rs R v))) .emp) :
    Spc sp_obstructs [.bor d, .dat (.int R), .bor v] Q W := ⟨⟨d, ds, rs, R, v, rfl, h1, h2, h3, h4, h5, q⟩⟩
theorem tot_big {rs : List (Int × Int)} (h : Runs 400 (1000000000000000000000000000000 : Int) rs) : 0 ≤ totR rs ∧ totR rs < 2 ^ 110 := by
  have h1 := totR_nonneg fun p hp => (h.cnt p hp).1
  have h2 := tot_le (fun p hp => (h.cnt p hp).2) h.len (by decide)
  omega
theorem two_list (v : D) : (∃ a b, v = .list [a, b] ∨ v = .tuple [a, b]) ∨ (isLstB v = false ∨ ∃ ds, (v = .list ds ∨ v = .tuple ds) ∧ ds.length ≠ 2) := by
  have go : ∀ ds : List D, (∃ a b, ds = [a, b]) ∨ ds.length ≠ 2 := fun ds => by
    match ds with
    | [] => right; simp
    | [a] => right; simp
    | [a, b] => left; exact ⟨a, b, rfl⟩
    | a :: b :: c :: r => right; simp
  cases v with
  | list ds => rcases go ds with ⟨a, b, rfl⟩ | h; exact .inl ⟨a, b, .inl rfl⟩; exact .inr (.inr ⟨ds, .inl rfl, h⟩)
  | tuple ds => rcases go ds with ⟨a, b, rfl⟩ | h; exact .inl ⟨a, b, .inr rfl⟩; exact .inr (.inr ⟨ds, .inr rfl, h⟩)
  | _ => exact .inr (.inl rfl)

def ms_obstructs : List Md := [.bor, .dat, .bor]
def dn_obstructs (Wd : Exn → List T → Prop) : DS := (dSeq (dAsg (dCall ms_checked_record sp_checked_record Wd (dCons (dVar 0) dNil)) (dgName 3))
    (dSeq (dDrop (dCall ms_check_many_readers sp_check_many_readers Wd (dCons (dVarF 1) dNil)))
    (dSeq (dIfS ((dOrT (dNotT (tVal (dIsi ["list", "tuple"] (dVar 2)))) (dOrT (tVal (dOp dNe (dCB dLen (dCons (dVar 2) dNil)) (dC (.int 2)))) (dNotT (tVal (dIsi ["str"] (dOp dIx (dVar 2) (dC (.int 0))))))))) (dRet (dC (.bool false))) dNext)
    (dSeq (dIfS (dNotT (tVal (dCall ms_is_integer sp_is_integer Wd (dCons (dOp dIx (dVar 2) (dC (.int 1))) (dCons (dC (.int 1)) (dCons (dOp dIx (dOp dIx (dCall ms_ends_of sp_ends_of Wd (dCons (dVar 3) dNil)) (dUn dNeg (dC (.int 1)))) (dC (.int 0))) dNil)))))) (dRet (dC (.bool false))) dNext)
    (dSeq (dAsg (dOp dIx (dCall ms_ends_until sp_ends_until Wd (dCons (dVar 3) (dCons (dOp dIx (dVar 2) (dC (.int 1))) dNil))) (dUn dNeg (dC (.int 1)))) (dgTup 4 (dgCons (dgName 4) (dgCons (dgName 5) (dgCons (dgName 6) (dgCons (dgName 7) dgNil))))))
    (dSeq (dIfS (tVal (dOp dEq (dOp dIx (dVar 2) (dC (.int 0))) (dC (.str ("single" : Str))))) (dRet ((dAndV (dOp dEq (dVar 1) (dC (.int 1))) (dOp dGt (dOp dAdd (dVar 5) (dVar 7)) (dC (.int 0)))))) dNext)
    (dSeq (dIfS (tVal (dOp dEq (dOp dIx (dVar 2) (dC (.int 0))) (dC (.str ("two" : Str))))) (dRet ((dAndV (dOp dEq (dVar 1) (dC (.int 2))) ((dOrV (dOp dGt (dVar 6) (dC (.int 0))) (dOp dGt (dVar 7) (dVar 5))))))) dNext)
    (dSeq (dIfS (tVal (dOp dEq (dOp dIx (dVar 2) (dC (.int 0))) (dC (.str ("few" : Str))))) (dRet ((dAndV (dOp dGt (dVar 1) (dC (.int 2))) (dOp dGt (dVar 6) (dOp dMul (dOp dSub (dVar 1) (dC (.int 2))) (dVar 5)))))) dNext)
    (dRet ((dAndV (dOp dEq (dOp dIx (dVar 2) (dC (.int 0))) (dC (.str ("many" : Str)))) (dAndV (dOp dGt (dVar 1) (dC (.int 2))) (dOp dGt (dOp dMul (dOp dSub (dVar 1) (dC (.int 2))) (dVar 7)) (dVar 6))))))))))))))
abbrev st_obstructs : Stmt := PySem.Challenge.pw_teesizes_k15_obstructions_judged.main.body.getD 23 (.Pass ⟨0, 0, 0, 0⟩)
abbrev N_obstructs : List Str := ["record", "readers", "value", "runs", "reads", "increases", "zeros", "decreases"]
theorem sc_obstructs : FnScope N_obstructs ["record", "readers", "value"] (defScope st_obstructs) := ⟨rfl, rfl, rfl, by decide +kernel, rfl, by decide +kernel, by decide +kernel⟩
theorem dp_obstructs {P : Program} {w : World} {K : PySem.W.Frag} {mg : Str → Option Value} {base : Heap} {f : Addr} {cdv : Value} {A : Around} {os : List Env} {s : Shared} {H : Hp} {E : XK} {Wd : Exn → List T → Prop} {B0 : Addr → Prop} {o : List Addr} {vs : List V} (n_isinstance : mg "isinstance" = none) (n_len : mg "len" = none) (n_list : mg "list" = none) (n_str : mg "str" = none) (n_tuple : mg "tuple" = none) (c_FEW : HasC mg "FEW" (.str ("few" : Str))) (c_MANY : HasC mg "MANY" (.str ("many" : Str))) (c_SINGLE : HasC mg "SINGLE" (.str ("single" : Str))) (c_TWO : HasC mg "TWO" (.str ("two" : Str))) (h_check_many_readers : Has P w K mg base "check_many_readers" 2 ["readers"] ms_check_many_readers sp_check_many_readers) (h_checked_record : Has P w K mg base "checked_record" 5 ["value"] ms_checked_record sp_checked_record) (h_ends_of : Has P w K mg base "ends_of" 2 ["runs"] ms_ends_of sp_ends_of) (h_ends_until : Has P w K mg base "ends_until" 2 ["runs", "number"] ms_ends_until sp_ends_until) (h_is_integer : Has P w K mg base "is_integer" 1 ["value", "low", "high"] ms_is_integer sp_is_integer)
    (hr : RoomG 5 (A.deeper (PyProof.Rows.envOfC "obstructs" (defScope st_obstructs) s.heap.objs.size f cdv))) (tk : DTk (ctxOf P w K mg base N_obstructs "obstructs" (defScope st_obstructs) f cdv A os s H E Wd B0 o none vs [])) :
    DPSs (ctxOf P w K mg base N_obstructs "obstructs" (defScope st_obstructs) f cdv A os s H E Wd B0 o none vs []) (defBody st_obstructs) (dn_obstructs Wd) :=
  have S := sc_obstructs
  (dss_cons (ds_set S.nd (i := 3) rfl (Or.inl rfl) (nin_of rfl) (de_fn h_checked_record hr (by decide) tk rfl (da_cons (de_var 0 (nin_of rfl)) da_nil)))
    (dss_cons (ds_expr (de_fn h_check_many_readers hr (by decide) tk rfl (da_cons (de_varF 1) da_nil)))
    (dss_cons (ds_if (DPW.t (dw_or (dt_not (dt_val (de_isi2 rfl n_isinstance (de_var 2 (nin_of rfl)) rfl n_list (by decide) PyProof.Rows.boot_list rfl n_tuple (by decide) PyProof.Rows.boot_tuple))) (dw_or (dt_cmpD (dc_ne hr.units) (de_len rfl n_len (da_cons (de_var 2 (nin_of rfl)) da_nil)) de_int) (dw_or1 (dt_not (dt_val (de_isi rfl n_isinstance (de_ix (de_var 2 (nin_of rfl)) de_int) rfl n_str (by decide) PyProof.Rows.boot_str))))))) (dss_one (ds_ret de_bl)) dss_nil)
    (dss_cons (ds_if (dt_not (dt_val (de_fn h_is_integer hr (by decide) tk rfl (da_cons (de_ix (de_var 2 (nin_of rfl)) de_int) (da_cons de_int (da_cons (de_ix (de_ix (de_fn h_ends_of hr (by decide) tk rfl (da_cons (de_var 3 (nin_of rfl)) da_nil)) (de_neg de_int)) de_int) da_nil)))))) (dss_one (ds_ret de_bl)) dss_nil)
    (dss_cons (ds_asg (de_ix (de_fn h_ends_until hr (by decide) tk rfl (da_cons (de_var 3 (nin_of rfl)) (da_cons (de_ix (de_var 2 (nin_of rfl)) de_int) da_nil))) (de_neg de_int)) (dg_tup rfl (dgs_cons (dg_name S.nd (i := 4) rfl (Or.inl rfl) (nin_of rfl)) (dgs_cons (dg_name S.nd (i := 5) rfl (Or.inl rfl) (nin_of rfl)) (dgs_cons (dg_name S.nd (i := 6) rfl (Or.inl rfl) (nin_of rfl)) (dgs_cons (dg_name S.nd (i := 7) rfl (Or.inl rfl) (nin_of rfl)) dgs_nil))))))
    (dss_cons (ds_if (dt_cmpD (dc_eq hr.units) (de_ix (de_var 2 (nin_of rfl)) de_int) (de_const c_SINGLE rfl rfl)) (dss_one (ds_ret ((de_and (de_cmpD (dc_eq hr.units) (de_var 1 (nin_of rfl)) de_int) (de_one (de_cmpD dc_gt (de_add (de_var 5 (nin_of rfl)) (de_var 7 (nin_of rfl))) de_int)))))) dss_nil)
    (dss_cons (ds_if (dt_cmpD (dc_eq hr.units) (de_ix (de_var 2 (nin_of rfl)) de_int) (de_const c_TWO rfl rfl)) (dss_one (ds_ret ((de_and (de_cmpD (dc_eq hr.units) (de_var 1 (nin_of rfl)) de_int) (de_one ((de_or (de_cmpD dc_gt (de_var 6 (nin_of rfl)) de_int) (de_one (de_cmpD dc_gt (de_var 7 (nin_of rfl)) (de_var 5 (nin_of rfl))))))))))) dss_nil)
    (dss_cons (ds_if (dt_cmpD (dc_eq hr.units) (de_ix (de_var 2 (nin_of rfl)) de_int) (de_const c_FEW rfl rfl)) (dss_one (ds_ret ((de_and (de_cmpD dc_gt (de_var 1 (nin_of rfl)) de_int) (de_one (de_cmpD dc_gt (de_var 6 (nin_of rfl)) (de_mul (de_sub (de_var 1 (nin_of rfl)) de_int) (de_var 5 (nin_of rfl))))))))) dss_nil)
    (dss_one (ds_ret ((de_and (de_cmpD (dc_eq hr.units) (de_ix (de_var 2 (nin_of rfl)) de_int) (de_const c_MANY rfl rfl)) (de_and (de_cmpD dc_gt (de_var 1 (nin_of rfl)) de_int) (de_one (de_cmpD dc_gt (de_mul (de_sub (de_var 1 (nin_of rfl)) de_int) (de_var 7 (nin_of rfl))) (de_var 6 (nin_of rfl)))))))))))))))))
theorem obs_not {rs : List (Int × Int)} {R : Int} {v : D} (h : isLstB v = false ∨ ∃ ds, (v = .list ds ∨ v = .tuple ds) ∧ ds.length ≠ 2) : obsB rs R v = false := by
  unfold obsB
  split
  · rcases h with h | ⟨ds, h1 | h1, h2⟩
    · cases h
    · cases h1; simp at h2
    · cases h1
  · rcases h with h | ⟨ds, h1 | h1, h2⟩
    · cases h
    · cases h1
    · cases h1; simp at h2
  · rfl
theorem law_obstructs (ts : List T) (Q : T → T → Prop) (W : Exn → T → Prop) (h : sp_obstructs ts Q W) : dn_obstructs (finX none W) (fin0 none Q) (slots0 8 ts) := by
  obtain ⟨d, ds, rs, R, v, rfl, hd, hk, hr, R1, R2, q⟩ := h
  have pos : ∀ p ∈ rs, 1 ≤ p.2 := fun p hp => (hr.cnt p hp).1
  have hl := hr.len
  have tb := tot_big hr
  refine dSeq.mk (use_checked hd hk hr (dSeq.mk ⟨⟨R, rfl, R1, R2, ?_⟩⟩))
  rcases two_list v with ⟨a, b, hv⟩ | hn
  · replace q : Q (.dat (.bool (obsP rs R a b))) .emp := by rcases hv with rfl | rfl <;> exact q
    have l2 : (!PyData.eqv (.int (([a, b] : List D).length : Nat)) (.int 2)) = false := by rw [eqv_int]; rfl
    cases a with
    | str w =>
      have go : ∀ n : Int, b = .int n → isIntB (.int n) 1 (.int (totR rs)) = true → ∀ u z c : Int, u = cntF 1 rs n → z = cntF 0 rs n → c = cntF (-1) rs n → (0 ≤ u ∧ u < 2 ^ 110) → (0 ≤ c ∧ c < 2 ^ 110) → ∀ ρ, (∃ rr, ρ = [.bor d, .dat (.int R), .bor v, .own (rs.map drun), .dat (.int rr), .dat (.int u), .dat (.int z), .dat (.int c)]) →
          dSeq (dIfS (tVal (dOp dEq (dOp dIx (dVar 2) (dC (.int 0))) (dC (.str ("single" : Str))))) (dRet ((dAndV (dOp dEq (dVar 1) (dC (.int 1))) (dOp dGt (dOp dAdd (dVar 5) (dVar 7)) (dC (.int 0)))))) dNext)
          (dSeq (dIfS (tVal (dOp dEq (dOp dIx (dVar 2) (dC (.int 0))) (dC (.str ("two" : Str))))) (dRet ((dAndV (dOp dEq (dVar 1) (dC (.int 2))) ((dOrV (dOp dGt (dVar 6) (dC (.int 0))) (dOp dGt (dVar 7) (dVar 5))))))) dNext)
          (dSeq (dIfS (tVal (dOp dEq (dOp dIx (dVar 2) (dC (.int 0))) (dC (.str ("few" : Str))))) (dRet ((dAndV (dOp dGt (dVar 1) (dC (.int 2))) (dOp dGt (dVar 6) (dOp dMul (dOp dSub (dVar 1) (dC (.int 2))) (dVar 5)))))) dNext)
          (dRet ((dAndV (dOp dEq (dOp dIx (dVar 2) (dC (.int 0))) (dC (.str ("many" : Str)))) (dAndV (dOp dGt (dVar 1) (dC (.int 2))) (dOp dGt (dOp dMul (dOp dSub (dVar 1) (dC (.int 2))) (dVar 7)) (dVar 6)))))))) (fin0 none Q) ρ := by
        intro n hb hi u z c hu hz hc bu bc ρ ⟨rr, hρ⟩
        subst hρ hb
        replace q : Q (.dat (.bool (lawB rs R w n))) .emp := by
          have e : obsP rs R (.str w) (.int n) = lawB rs R w n := by show (isIntB (.int n) 1 (.int (totR rs)) && lawB rs R w n) = _; rw [hi]; rfl
          rw [e] at q; exact q
        unfold lawB at q
        rw [← hu, ← hz, ← hc] at q
        have cm : ∀ x : Int, 0 ≤ x → x < 2 ^ 110 → 2 < R → CMulW (R - 2) x := fun x x0 x1 h => mul_ok (a := 135) (b := 110) (log2_lt (by omega) (by omega) (by decide)) (log2_lt x0 x1 (by decide)) (by decide)
        rcases hv with rfl | rfl
        all_goals
          refine dSeq.mk (br_dec (c := w = ("single" : Str)) (fun e1 => ?_) fun e1 => dSeq.mk (br_dec (c := w = ("two" : Str)) (fun e2 => ?_) fun e2 => dSeq.mk (br_dec (c := w = ("few" : Str)) (fun e3 => ?_) fun e3 => ?_)))
          · rw [if_pos e1] at q
            refine And.intro rfl (And.intro rfl (br_split (b := PyData.eqv (.int R) (.int 1)) (fun e => ?_) fun e => ?_))
            · rw [eqv_int] at e; rw [e] at q; exact q
            · rw [eqv_int] at e; rw [e] at q; exact q
          · rw [if_neg e1, if_pos e2] at q
            refine And.intro rfl (And.intro rfl (br_split (b := PyData.eqv (.int R) (.int 2)) (fun e => ?_) fun e => ?_))
            · rw [eqv_int] at e; rw [e] at q
              refine br_split (b := decide (0 < z)) (fun e4 => ?_) fun e4 => ?_
              · rw [e4] at q; exact q
              · rw [e4] at q; exact q
            · rw [eqv_int] at e; rw [e] at q; exact q
          · rw [if_neg e1, if_neg e2, if_pos e3] at q
            refine br_split (b := decide (2 < R)) (fun e => ?_) fun e => ?_
            · rw [e] at q; exact And.intro (cm u bu.1 bu.2 (of_decide_eq_true e)) q
            · rw [e] at q; exact q
          · rw [if_neg e1, if_neg e2, if_neg e3] at q
            refine br_split (b := decide (w = ("many" : Str))) (fun e4 => ?_) fun e4 => ?_
            · rw [e4] at q
              refine br_split (b := decide (2 < R)) (fun e => ?_) fun e => ?_
              · rw [e] at q; exact And.intro (cm c bc.1 bc.2 (of_decide_eq_true e)) q
              · rw [e] at q; exact q
            · rw [e4] at q; exact q
      rcases hv with rfl | rfl
      all_goals
        refine dSeq.mk (br_f rfl (And.intro rfl (And.intro rfl (br_f l2 (br_f rfl ?_)))))
        refine dSeq.mk (use_endsOf (by omega) hr.chg (wO_i (gI_endsT rs) ⟨⟨b, 1, .int (totR rs), rfl, .inr ⟨_, rfl⟩, ?_⟩⟩))
        refine br_split (fun e => ?_) fun e => ?_
        · have e : isIntB b 1 (.int (totR rs)) = false := by simpa using e
          have : obsP rs R (.str w) b = false := by
            unfold obsP
            split
            · rw [show isIntB (.int _) 1 (.int (totR rs)) = false from (by assumption)]; rfl
            · rfl
          rw [this] at q; exact q
        · have e : isIntB b 1 (.int (totR rs)) = true := by simpa using e
          obtain ⟨n, rfl, n1, n2⟩ := isInt_inv e
          refine dSeq.mk (use_until (by omega) hr.chg pos (by omega) fun es he => wO_i he (And.intro rfl ?_))
          have b1 := cntF_bd 1 (n := n) pos
          have b2 := cntF_bd (-1) (n := n) pos
          exact go n rfl e _ _ _ rfl rfl rfl (by omega) (by omega) _ ⟨mn (totR rs) n, rfl⟩
    | _ =>
      rcases hv with rfl | rfl
      all_goals exact dSeq.mk (br_f rfl (And.intro rfl (And.intro rfl (br_f l2 (br_t rfl q)))))
  · rw [obs_not hn] at q
    rcases hn with hn | ⟨es, hv, hn⟩
    · cases v <;> first | exact dSeq.mk (br_t rfl (br_t rfl q)) | simp [isLstB] at hn
    · have l2 : (!PyData.eqv (.int (es.length : Nat)) (.int 2)) = true := by
        rw [eqv_int]
        have : ¬ ((es.length : Nat) : Int) = 2 := by omega
        simpa using this
      rcases hv with rfl | rfl
      all_goals exact dSeq.mk (br_f rfl (And.intro rfl (And.intro rfl (br_t l2 (br_t rfl q)))))

def sp__law_spring : DSp := fun ts Q _ => ∃ ns : List Int, ts = [.scr ns] ∧ ns.length ≤ 63 ∧ ∀ r : Spr, r.Ok 0 → Q (.own r.d) (.scr ns)
theorem mono__law_spring : Mono sp__law_spring := fun ts R R' W W' hr _ ⟨ns, e, h, q⟩ => ⟨ns, e, h, fun r o => hr _ _ (q r o)⟩

def ms__law_spring : List Md := [.lend]
def dn__law_spring (Wd : Exn → List T → Prop) : DS := (dSeq (dAsg (dC (.int 0)) (dgName 1))
    (dSeq (dAsg (dC (.int 88651)) (dgName 2))
    (dSeq (dForS (dSeqI (dSl (dVar 0) dNoPart (dPart (dC (.int 63))))) (dgName 3) (dSeq (dIfS (tVal (dOp dGe (dCB dAbs (dCons (dVar 3) dNil)) (dOp dPow (dC (.int 10)) (dC (.int 18))))) (dAsg (dOp dAdd (dOp dMul (dVar 1) (dOp dPow (dC (.int 10)) (dC (.int 60)))) (dOp dMod (dCB dAbs (dCons (dVar 3) dNil)) (dOp dPow (dC (.int 10)) (dC (.int 60))))) (dgName 1)) dNext)
    (dAsg (dOp dMod (dOp dAdd (dOp dAdd (dOp dMul (dVar 2) (dC (.int 69069))) (dOp dMod (dVar 3) (dC (.int 2305843009213693921)))) (dC (.int 7))) (dC (.int 2305843009213693951))) (dgName 2))))
    (dRet (dLst (dCons (dVarF 1) (dCons (dVarF 2) (dCons (dC (.int 0)) dNil))))))))
abbrev st__law_spring : Stmt := PySem.Challenge.pw_teesizes_k15_obstructions_judged.main.body.getD 25 (.Pass ⟨0, 0, 0, 0⟩)
abbrev N__law_spring : List Str := ["script", "digits", "seed", "cell"]
theorem sc__law_spring : FnScope N__law_spring ["script"] (defScope st__law_spring) := ⟨rfl, rfl, rfl, by decide +kernel, rfl, by decide +kernel, by decide +kernel⟩
theorem dp__law_spring {P : Program} {w : World} {K : PySem.W.Frag} {mg : Str → Option Value} {base : Heap} {f : Addr} {cdv : Value} {A : Around} {os : List Env} {s : Shared} {H : Hp} {E : XK} {Wd : Exn → List T → Prop} {B0 : Addr → Prop} {o : List Addr} {vs : List V} (n_abs : mg "abs" = none)
    (hr : RoomG 0 (A.deeper (PyProof.Rows.envOfC "_law_spring" (defScope st__law_spring) s.heap.objs.size f cdv))) (tk : DTk (ctxOf P w K mg base N__law_spring "_law_spring" (defScope st__law_spring) f cdv A os s H E Wd B0 o (some 0) vs [])) :
    DPSs (ctxOf P w K mg base N__law_spring "_law_spring" (defScope st__law_spring) f cdv A os s H E Wd B0 o (some 0) vs []) (defBody st__law_spring) (dn__law_spring Wd) :=
  have S := sc__law_spring
  (dss_cons (ds_set S.nd (i := 1) rfl (Or.inl rfl) (nin_of rfl) de_int)
    (dss_cons (ds_set S.nd (i := 2) rfl (Or.inl rfl) (nin_of rfl) de_int)
    (dss_cons (ds_for (passes_of rfl) rfl (di_seq (de_slice (de_var 0 (nin_of rfl)) do_none (do_some de_int))) (dg_name S.nd (i := 3) rfl (Or.inl rfl) (nin_of rfl)) (dss_cons (ds_if (dt_cmpD dc_ge (de_abs rfl n_abs (da_cons (de_var 3 (nin_of rfl)) da_nil)) (de_pow de_int de_int)) (dss_one (ds_set S.nd (i := 1) rfl (Or.inl rfl) (nin_of rfl) (de_add (de_mul (de_var 1 (nin_of rfl)) (de_pow de_int de_int)) (de_mod (de_abs rfl n_abs (da_cons (de_var 3 (nin_of rfl)) da_nil)) (de_pow de_int de_int))))) dss_nil)
    (dss_one (ds_set S.nd (i := 2) rfl (Or.inl rfl) (nin_of rfl) (de_mod (de_add (de_add (de_mul (de_var 2 (nin_of rfl)) de_int) (de_mod (de_var 3 (nin_of rfl)) de_int)) de_int) de_int)))))
    (dss_one (ds_ret (de_lst (da_cons (de_varF 1) (da_cons (de_varF 2) (da_cons de_int da_nil)))))))))
theorem law__law_spring (ts : List T) (Q : T → T → Prop) (W : Exn → T → Prop) (h : sp__law_spring ts Q W) : dn__law_spring (finX (some 0) W) (fin0 (some 0) Q) (slots0 4 ts) := by
  obtain ⟨ns, rfl, hl, q⟩ := h
  have ct : cut ns none (some 63) = ns := by rw [show cut ns none (some 63) = _ from cut_to ns 63, List.take_of_length_le hl]
  refine dSeq.mk (dSeq.mk (dSeq.mk ?_))
  show dFor _ _ _ (((cut ns none (some 63)).map PyData.int).map T.dat) _
  rw [ct]
  have p200 : ∀ i : Nat, i ≤ 63 → (2 : Int) ^ (200 * i) ≤ 2 ^ 12600 := fun i hi => by
    have : (2 : Nat) ^ (200 * i) ≤ 2 ^ 12600 := Nat.pow_le_pow_right (by decide) (by omega)
    exact_mod_cast this
  have p201 : (2 : Int) ^ 12600 < 2 ^ 13000 := by
    have : (2 : Nat) ^ 12600 < 2 ^ 13000 := Nat.pow_lt_pow_right (by decide) (by decide)
    exact_mod_cast this
  refine dFor_inv (fun i ρ => ∃ (g s : Int) (x_cell : T), ρ = [.scr ns, .dat (.int g), .dat (.int s), x_cell] ∧ 0 ≤ g ∧ g < 2 ^ (200 * i) ∧ 0 ≤ s ∧ s < 2 ^ 61) ⟨0, 88651, _, rfl, ⟨by decide, by decide, by decide, by decide⟩⟩ (fun i t ρ K et p k => ?_) (fun ρ p => ?_)
  · obtain ⟨g, s, x_cell, rfl, ⟨g0, g1, s0, s1⟩⟩ := p
    rw [List.getElem?_map, List.getElem?_map] at et
    obtain ⟨d, ed, rfl⟩ := Option.map_eq_some_iff.mp et
    obtain ⟨c, ec, rfl⟩ := Option.map_eq_some_iff.mp ed
    have hi : i < 63 := by have := (List.getElem?_eq_some_iff.mp ec).1; omega
    have g2 := p200 i (by omega)
    have fin : ∀ g' : Int, 0 ≤ g' → g' < 2 ^ (200 * (i + 1)) → ∀ (D : DEnds), D.nx = K → dAsg (dOp dMod (dOp dAdd (dOp dAdd (dOp dMul (dVar 2) (dC (.int 69069))) (dOp dMod (dVar 3) (dC (.int 2305843009213693921)))) (dC (.int 7))) (dC (.int 2305843009213693951))) (dgName 2) D [.scr ns, .dat (.int g'), .dat (.int s), .dat (.int c)] := by
      intro g' h0 h1 D hD
      refine And.intro (a := CMulW s 69069) (mul_ok (a := 61) (b := 64) (log2_lt s0 s1 (by decide)) (by decide) (by decide)) ?_
      refine And.intro (a := (0 : Int) < 2305843009213693921) (by decide) (And.intro (a := (0 : Int) < 2305843009213693951) (by decide) ?_)
      show D.nx _
      rw [hD]
      exact k _ ⟨g', _, _, rfl, ⟨h0, h1, Int.emod_nonneg _ (by decide), Int.lt_trans (Int.emod_lt_of_pos _ (by decide)) (by decide)⟩⟩
    have gs : (2 : Int) ^ (200 * i) ≤ 2 ^ (200 * (i + 1)) := by
      have : (2 : Nat) ^ (200 * i) ≤ 2 ^ (200 * (i + 1)) := Nat.pow_le_pow_right (by decide) (by omega)
      exact_mod_cast this
    refine dg_i rfl (dSeq.mk (And.intro (a := CPow 10 18) (by unfold CPow; decide) (br_split (fun _ => ?_) fun _ => ?_)))
    · refine And.intro (a := CPow 10 60) (by unfold CPow; decide) (And.intro (a := CMulW g (10 ^ 60)) (mul_ok (a := 13000) (b := 300) (log2_lt g0 (by omega) (by decide)) (by decide +kernel) (by decide)) ?_)
      refine And.intro (a := CPow 10 60) (by unfold CPow; decide) (And.intro (a := (0 : Int) < 10 ^ 60) (by decide) ?_)
      generalize (if c < 0 then -c else c) = a
      have a0 : 0 ≤ a % 10 ^ 60 := Int.emod_nonneg _ (by decide)
      have a1 : a % 10 ^ 60 < 10 ^ 60 := Int.emod_lt_of_pos _ (by decide)
      refine fin (g * 10 ^ 60 + a % 10 ^ 60) (by omega) ?_ _ rfl
      have e : (2 : Int) ^ (200 * (i + 1)) = 2 ^ (200 * i) * 2 ^ 200 := by rw [Nat.mul_succ, Int.pow_add]
      rw [e]
      have h1 : (g + 1) * 10 ^ 60 ≤ 2 ^ (200 * i) * 10 ^ 60 := Int.mul_le_mul_of_nonneg_right (by omega) (by decide)
      have h2 : (2 : Int) ^ (200 * i) * 10 ^ 60 ≤ 2 ^ (200 * i) * 2 ^ 200 := Int.mul_le_mul_of_nonneg_left (by decide) (by omega)
      omega
    · exact fin g g0 (by omega) _ rfl
  · obtain ⟨g, s, x_cell, rfl, ⟨g0, g1, s0, s1⟩⟩ := p
    have gl : g < 2 ^ 13000 := by
      have := p200 _ (show (List.map T.dat (List.map PyData.int ns)).length ≤ 63 by simpa using hl)
      omega
    exact q ⟨g, s, 0⟩ ⟨g0, gl, s0, s1, Int.le_refl _, Int.le_refl _⟩

def sp__law_draw : DSp := fun ts Q _ => ∃ (r : Spr) (m : Int) (b : Nat), ts = [.own r.d, .dat (.int m)] ∧ r.Ok b ∧ b < 2 ^ 60 ∧ 0 < m ∧ m < 2 ^ 200 ∧ ∀ (v : Int) (r' : Spr), 0 ≤ v → v < m → r'.Ok (b + 1) → Q (.dat (.int v)) (.own r'.d)
theorem use_draw {r : Spr} {m : Int} {b : Nat} {Q : T → T → Prop} {W : Exn → T → Prop} (o : r.Ok b) (hb : b < 2 ^ 60) (m0 : 0 < m) (m1 : m < 2 ^ 200) (q : ∀ (v : Int) (r' : Spr), 0 ≤ v → v < m → r'.Ok (b + 1) → Q (.dat (.int v)) (.own r'.d)) : Spc sp__law_draw [.own r.d, .dat (.int m)] Q W :=
  ⟨⟨r, m, b, rfl, o, hb, m0, m1, q⟩⟩
theorem mono__law_draw : Mono sp__law_draw := fun ts R R' W W' hr _ ⟨r, m, b, e, h1, h2, h3, h4, q⟩ => ⟨r, m, b, e, h1, h2, h3, h4, fun v r' a c d => hr _ _ (q v r' a c d)⟩

def ms__law_draw : List Md := [.lend, .dat]
def dn__law_draw (Wd : Exn → List T → Prop) : DS := (dSeq (dIfS (tVal (dOp dGt (dOp dIx (dVar 0) (dC (.int 0))) (dC (.int 0)))) (dSeq (dAsg (dOp dMod (dOp dIx (dVar 0) (dC (.int 0))) (dVar 1)) (dgName 2))
    (dSeq (dAsg (dOp dFdiv (dOp dIx (dVar 0) (dC (.int 0))) (dVar 1)) (dSetIx 0 (dC (.int 0))))
    (dRet (dVarM 2)))) dNext)
    (dSeq (dAsg (dOp dAdd (dOp dIx (dVar 0) (dC (.int 2))) (dC (.int 1))) (dSetIx 0 (dC (.int 2))))
    (dSeq (dAsg (dOp dMod (dOp dMul (dOp dIx (dVar 0) (dC (.int 1))) (dOp dIx (dVar 0) (dC (.int 1)))) (dC (.int 2305843009213693951))) (dgName 3))
    (dSeq (dAsg (dOp dMod (dOp dAdd (dOp dAdd (dVar 3) (dOp dMul (dOp dMul (dC (.int 7919)) (dOp dIx (dVar 0) (dC (.int 2)))) (dOp dIx (dVar 0) (dC (.int 1))))) (dC (.int 104729))) (dC (.int 2305843009213693951))) (dSetIx 0 (dC (.int 1))))
    (dRet (dOp dMod (dOp dFdiv (dOp dIx (dVar 0) (dC (.int 1))) (dC (.int 65537))) (dVar 1)))))))
abbrev st__law_draw : Stmt := PySem.Challenge.pw_teesizes_k15_obstructions_judged.main.body.getD 26 (.Pass ⟨0, 0, 0, 0⟩)
abbrev N__law_draw : List Str := ["spring", "many", "found", "mix"]
theorem sc__law_draw : FnScope N__law_draw ["spring", "many"] (defScope st__law_draw) := ⟨rfl, rfl, rfl, by decide +kernel, rfl, by decide +kernel, by decide +kernel⟩
theorem dp__law_draw {P : Program} {w : World} {K : PySem.W.Frag} {mg : Str → Option Value} {base : Heap} {f : Addr} {cdv : Value} {A : Around} {os : List Env} {s : Shared} {H : Hp} {E : XK} {Wd : Exn → List T → Prop} {B0 : Addr → Prop} {o : List Addr} {vs : List V} 
    (hr : RoomG 0 (A.deeper (PyProof.Rows.envOfC "_law_draw" (defScope st__law_draw) s.heap.objs.size f cdv))) (tk : DTk (ctxOf P w K mg base N__law_draw "_law_draw" (defScope st__law_draw) f cdv A os s H E Wd B0 o (some 0) vs [])) :
    DPSs (ctxOf P w K mg base N__law_draw "_law_draw" (defScope st__law_draw) f cdv A os s H E Wd B0 o (some 0) vs []) (defBody st__law_draw) (dn__law_draw Wd) :=
  have S := sc__law_draw
  (dss_cons (ds_if (dt_cmpD dc_gt (de_ix (de_var 0 (nin_of rfl)) de_int) de_int) (dss_cons (ds_set S.nd (i := 2) rfl (Or.inl rfl) (nin_of rfl) (de_mod (de_ix (de_var 0 (nin_of rfl)) de_int) (de_var 1 (nin_of rfl))))
    (dss_cons (ds_asg (de_fdiv (de_ix (de_var 0 (nin_of rfl)) de_int) (de_var 1 (nin_of rfl))) (dg_setIx 0 rfl (Or.inl rfl) de_int))
    (dss_one (ds_ret (de_varM 2))))) dss_nil)
    (dss_cons (ds_asg (de_add (de_ix (de_var 0 (nin_of rfl)) de_int) de_int) (dg_setIx 0 rfl (Or.inl rfl) de_int))
    (dss_cons (ds_set S.nd (i := 3) rfl (Or.inl rfl) (nin_of rfl) (de_mod (de_mul (de_ix (de_var 0 (nin_of rfl)) de_int) (de_ix (de_var 0 (nin_of rfl)) de_int)) de_int))
    (dss_cons (ds_asg (de_mod (de_add (de_add (de_var 3 (nin_of rfl)) (de_mul (de_mul de_int (de_ix (de_var 0 (nin_of rfl)) de_int)) (de_ix (de_var 0 (nin_of rfl)) de_int))) de_int) de_int) (dg_setIx 0 rfl (Or.inl rfl) de_int))
    (dss_one (ds_ret (de_mod (de_fdiv (de_ix (de_var 0 (nin_of rfl)) de_int) de_int) (de_var 1 (nin_of rfl)))))))))
theorem law__law_draw (ts : List T) (Q : T → T → Prop) (W : Exn → T → Prop) (h : sp__law_draw ts Q W) :
    dn__law_draw (finX (some 0) W) (fin0 (some 0) Q) (slots0 4 ts) := by
  obtain ⟨⟨g, s, n⟩, m, b, rfl, ok, hb, m0, mb, q⟩ := h
  have hm : m.natAbs.log2 < 9000 := Nat.lt_trans (log2_lt (by omega) mb (by decide)) (by decide)
  have g0 := ok.g0
  have gb := ok.gb
  have s0 := ok.s0
  have sb := ok.sb
  have n0 := ok.n0
  have nb := ok.nb
  dsimp only at g0 gb s0 sb n0 nb
  refine dSeq.mk (br_split (b := decide (0 < g)) (fun _ => ?_) fun _ => ?_)
  · refine dSeq.mk (And.intro m0 (dSeq.mk (And.intro (a := CDivW g m) ⟨m0, hm⟩ ?_)))
    refine q (g % m) ⟨g / m, s, n⟩ (Int.emod_nonneg _ (by omega)) (Int.emod_lt_of_pos _ m0) ⟨Int.ediv_nonneg g0 (by omega), ?_, s0, sb, n0, by dsimp only; omega⟩
    exact Int.lt_of_le_of_lt (Int.ediv_le_self _ g0) gb
  · refine dSeq.mk (dSeq.mk ?_)
    refine And.intro (a := CMulW s s) (mul_ok (a := 61) (b := 61) (log2_lt s0 sb (by decide)) (log2_lt s0 sb (by decide)) (by decide)) ?_
    refine And.intro (a := (0 : Int) < 2305843009213693951) (by decide) (dSeq.mk ?_)
    refine And.intro (a := CMulW 7919 (n + 1)) (mul_ok (a := 64) (b := 64) (by decide) (log2_lt (by omega) (by omega) (by decide)) (by decide)) ?_
    refine And.intro (a := CMulW (7919 * (n + 1)) s) (mul_ok (a := 80) (b := 61) (log2_lt (by omega) (by omega) (by decide)) (log2_lt s0 sb (by decide)) (by decide)) ?_
    refine And.intro (a := (0 : Int) < 2305843009213693951) (by decide) ?_
    generalize hz : (s * s % 2305843009213693951 + 7919 * (n + 1) * s + 104729) % 2305843009213693951 = z
    have z0 : 0 ≤ z := by rw [← hz]; exact Int.emod_nonneg _ (by decide)
    have z1 : z < 2305843009213693951 := by rw [← hz]; exact Int.emod_lt_of_pos _ (by decide)
    refine And.intro (a := CDivW z 65537) (by unfold CDivW; decide) (And.intro m0 ?_)
    exact q (z / 65537 % m) ⟨g, z, n + 1⟩ (Int.emod_nonneg _ (by omega)) (Int.emod_lt_of_pos _ m0) ⟨g0, gb, z0, by dsimp only; omega, by dsimp only; omega, by dsimp only; omega⟩

theorem lay_get {k j : Nat} {ds : List D} {d : D} (h : Lay (k + 1) (.list ds) ∨ Lay (k + 1) (.tuple ds)) (e : ds[j]? = some d) : Lay k d := by
  have hc : PyData.canLayAll0 ds = true ∧ PyData.depthAll ds ≤ k := by
    rcases h with h | h
    · have h1 := h.cl; have h2 := h.dp; simp only [PyData.canLay0] at h1; simp only [PyData.depth] at h2; exact ⟨h1, by omega⟩
    · have h1 := h.cl; have h2 := h.dp; simp only [PyData.canLay0] at h1; simp only [PyData.depth] at h2; exact ⟨h1, by omega⟩
  refine ⟨?_, Nat.le_trans (depth_get e) hc.2⟩
  have go : ∀ (ds : List D) (j : Nat), PyData.canLayAll0 ds = true → ds[j]? = some d → d.canLay0 = true := by
    intro ds
    induction ds with
    | nil => intro j _ e; simp at e
    | cons x ds ih =>
      intro j h e
      simp only [PyData.canLayAll0, Bool.and_eq_true] at h
      cases j with
      | zero => simp at e; subst e; exact h.1
      | succ j => exact ih j h.2 (by simpa using e)
  exact go ds j hc.1 e
def spn__law_same : Nat → DSp
  | 0 => fun _ _ _ => False
  | n + 1 => fun ts Q _ => ∃ d : D, ts = [.bor d, .bor d] ∧ Lay n d ∧ n ≤ 60 ∧ ndD d ≤ 1000000 ∧ Q (.dat (.bool true)) .emp
def sp__law_same : DSp := spn__law_same 4
theorem mono__law_same : ∀ n, Mono (spn__law_same n)
  | 0 => fun _ _ _ _ _ _ _ h => h
  | n + 1 => fun ts R R' W W' hr _ ⟨d, e, h1, h2, h3, q⟩ => ⟨d, e, h1, h2, h3, hr _ _ q⟩
theorem never__law_same : ∀ ts Q W, ¬ spn__law_same 0 ts Q W := fun _ _ _ h => h
theorem use_same {d : D} {Q : T → T → Prop} {W : Exn → T → Prop} (h1 : Lay 3 d) (h2 : ndD d ≤ 1000000) (q : Q (.dat (.bool true)) .emp) : Spc sp__law_same [.bor d, .bor d] Q W := ⟨⟨d, rfl, h1, by decide, h2, q⟩⟩
theorem eqv_bool (a : Bool) : PyData.eqv (.bool a) (.bool a) = true := eqv_self _ rfl

def ms__law_same : List Md := [.bor, .bor]
def dn__law_same (spr__law_same : DSp) (Wd : Exn → List T → Prop) : DS := (dSeq (dIfS (tVal (dIsi ["list", "tuple"] (dVar 1))) (dSeq (dIfS ((dOrT (tVal (dOp dNe (dIsi ["list"] (dVar 0)) (dIsi ["list"] (dVar 1)))) (tVal (dOp dNe (dIsi ["tuple"] (dVar 0)) (dIsi ["tuple"] (dVar 1)))))) (dRet (dC (.bool false))) dNext)
    (dRet ((dAndV (dOp dEq (dCB dLen (dCons (dVar 0) dNil)) (dCB dLen (dCons (dVar 1) dNil))) (dCB dAll (dCons (dLc (dRange1 (dCons (dCB dLen (dCons (dVar 1) dNil)) dNil)) (Tgt.one 2).d dYes (dCall ms__law_same spr__law_same noW (dCons (dOp dIx (dVar 0) (dVarF 2)) (dCons (dOp dIx (dVar 1) (dVarF 2)) dNil))) [2]) dNil)))))) dNext)
    (dSeq (dIfS ((dOrT (tVal (dOp dIsN (dVar 1) (dC .none))) (tVal (dOp dIsN (dVar 0) (dC .none))))) (dRet ((dAndV (dOp dIsN (dVar 1) (dC .none)) (dOp dIsN (dVar 0) (dC .none))))) dNext)
    (dSeq (dIfS ((dOrT (tVal (dOp dNe (dIsi ["bool"] (dVar 1)) (dIsi ["bool"] (dVar 0)))) (tVal (dOp dNe (dIsi ["str"] (dVar 1)) (dIsi ["str"] (dVar 0)))))) (dRet (dC (.bool false))) dNext)
    (dRet (dOp dEq (dVar 0) (dVar 1))))))
abbrev st__law_same : Stmt := PySem.Challenge.pw_teesizes_k15_obstructions_judged.main.body.getD 27 (.Pass ⟨0, 0, 0, 0⟩)
abbrev N__law_same : List Str := ["found", "due", "k"]
theorem sc__law_same : FnScope N__law_same ["found", "due"] (defScope st__law_same) := ⟨rfl, rfl, rfl, by decide +kernel, rfl, by decide +kernel, by decide +kernel⟩
theorem dp__law_same {P : Program} {w : World} {K : PySem.W.Frag} {mg : Str → Option Value} {base : Heap} {f : Addr} {cdv : Value} {A : Around} {os : List Env} {s : Shared} {H : Hp} {E : XK} {Wd : Exn → List T → Prop} {B0 : Addr → Prop} {o : List Addr} {vs : List V} (n_all : mg "all" = none) (n_bool : mg "bool" = none) (n_isinstance : mg "isinstance" = none) (n_len : mg "len" = none) (n_list : mg "list" = none) (n_range : mg "range" = none) (n_str : mg "str" = none) (n_tuple : mg "tuple" = none) {nr : Nat} {spr__law_same : DSp} (h__law_same : Has P w K mg base "_law_same" (0 + nr) ["found", "due"] ms__law_same spr__law_same)
    (hr : RoomG (0 + nr) (A.deeper (PyProof.Rows.envOfC "_law_same" (defScope st__law_same) s.heap.objs.size f cdv))) (tk : DTk (ctxOf P w K mg base N__law_same "_law_same" (defScope st__law_same) f cdv A os s H E Wd B0 o none vs [2])) :
    DPSs (ctxOf P w K mg base N__law_same "_law_same" (defScope st__law_same) f cdv A os s H E Wd B0 o none vs [2]) (defBody st__law_same) (dn__law_same spr__law_same Wd) :=
  have S := sc__law_same
  (dss_cons (ds_if (dt_val (de_isi2 rfl n_isinstance (de_var 1 (nin_of rfl)) rfl n_list (by decide) PyProof.Rows.boot_list rfl n_tuple (by decide) PyProof.Rows.boot_tuple)) (dss_cons (ds_if (DPW.t (dw_or (dt_cmpD (dc_ne hr.units) (de_isi rfl n_isinstance (de_var 0 (nin_of rfl)) rfl n_list (by decide) PyProof.Rows.boot_list) (de_isi rfl n_isinstance (de_var 1 (nin_of rfl)) rfl n_list (by decide) PyProof.Rows.boot_list)) (dw_or1 (dt_cmpD (dc_ne hr.units) (de_isi rfl n_isinstance (de_var 0 (nin_of rfl)) rfl n_tuple (by decide) PyProof.Rows.boot_tuple) (de_isi rfl n_isinstance (de_var 1 (nin_of rfl)) rfl n_tuple (by decide) PyProof.Rows.boot_tuple))))) (dss_one (ds_ret de_bl)) dss_nil)
    (dss_one (ds_ret ((de_and (de_cmpD (dc_eq hr.units) (de_len rfl n_len (da_cons (de_var 0 (nin_of rfl)) da_nil)) (de_len rfl n_len (da_cons (de_var 1 (nin_of rfl)) da_nil))) (de_one (de_all rfl n_all rfl (da_cons (de_lc rfl S.nd (own := [(("k" : Str), 2)]) (tg := (Tgt.one 2)) (di_range1 rfl n_range (da_cons (de_len rfl n_len (da_cons (de_var 1 (nin_of rfl)) da_nil)) da_nil)) (blk_of (N := N__law_same) (sc := defScope st__law_same) (by decide +kernel)) (tgt_one S.nd rfl (Or.inl rfl) rfl) (fun _ _ _ _ _ => dts_nil) (fun _ _ _ _ _ => (de_fn h__law_same hr (by omega) tk_blk rfl (da_cons (de_ix (de_var 0 (nin_of rfl)) (de_varF 2)) (da_cons (de_ix (de_var 1 (nin_of rfl)) (de_varF 2)) da_nil)))) (by decide) (own_of rfl)) da_nil)))))))) dss_nil)
    (dss_cons (ds_if (DPW.t (dw_or (dt_cmpD dc_isN (de_var 1 (nin_of rfl)) de_non) (dw_or1 (dt_cmpD dc_isN (de_var 0 (nin_of rfl)) de_non)))) (dss_one (ds_ret ((de_and (de_cmpD dc_isN (de_var 1 (nin_of rfl)) de_non) (de_one (de_cmpD dc_isN (de_var 0 (nin_of rfl)) de_non)))))) dss_nil)
    (dss_cons (ds_if (DPW.t (dw_or (dt_cmpD (dc_ne hr.units) (de_isi rfl n_isinstance (de_var 1 (nin_of rfl)) rfl n_bool (by decide) PyProof.Rows.boot_bool) (de_isi rfl n_isinstance (de_var 0 (nin_of rfl)) rfl n_bool (by decide) PyProof.Rows.boot_bool)) (dw_or1 (dt_cmpD (dc_ne hr.units) (de_isi rfl n_isinstance (de_var 1 (nin_of rfl)) rfl n_str (by decide) PyProof.Rows.boot_str) (de_isi rfl n_isinstance (de_var 0 (nin_of rfl)) rfl n_str (by decide) PyProof.Rows.boot_str))))) (dss_one (ds_ret de_bl)) dss_nil)
    (dss_one (ds_ret (de_cmpD (dc_eq hr.units) (de_var 0 (nin_of rfl)) (de_var 1 (nin_of rfl))))))))
theorem law__law_same (n : Nat) (ts : List T) (Q : T → T → Prop) (W : Exn → T → Prop) (h : spn__law_same (n + 1) ts Q W) : dn__law_same (spn__law_same n) (finX none W) (fin0 none Q) (slots0 3 ts) := by
  obtain ⟨d, rfl, hd, hn, hs, q⟩ := h
  have items : ∀ (ds : List D), (d = .list ds ∨ d = .tuple ds) → dRet ((dAndV (dOp dEq (dCB dLen (dCons (dVar 0) dNil)) (dCB dLen (dCons (dVar 1) dNil))) (dCB dAll (dCons (dLc (dRange1 (dCons (dCB dLen (dCons (dVar 1) dNil)) dNil)) (Tgt.one 2).d dYes (dCall ms__law_same (spn__law_same n) noW (dCons (dOp dIx (dVar 0) (dVarF 2)) (dCons (dOp dIx (dVar 1) (dVarF 2)) dNil))) [2]) dNil)))) (fin0 none Q) [.bor d, .bor d, .emp] := by
    intro ds hk
    have hl : ds.length ≤ 1000000 := by
      have := ndL_len ds
      rcases hk with rfl | rfl <;> simp only [ndD] at hs <;> omega
    have go : ∀ K : List D → List T → Prop, K ((List.range ds.length).map fun _ => .bool true) [.bor d, .bor d, .emp] → dLcGo (dgName 2) dYes (dCall ms__law_same (spn__law_same n) noW (dCons (dOp dIx (dVar 0) (dVarF 2)) (dCons (dOp dIx (dVar 1) (dVarF 2)) dNil))) [2] K (rngT 0 ds.length) [] [.bor d, .bor d, .emp] := by
      intro K hK
      refine lc_mp (List.range ds.length) (fun k => .dat (.int (0 + (k : Nat)))) (fun _ => .bool true) rfl (by rw [List.length_range]; exact Nat.le_trans hl (by decide)) (fun _ _ => rfl) (fun k hkk P h => ?_) ?_
      · rw [List.mem_range] at hkk
        have e : gI ds (0 + (k : Nat)) = some ds[k] := by rw [gI_nat (k := k) (by omega), List.getElem?_eq_getElem hkk]
        have sub : ∃ m, n = m + 1 := by
          cases n with
          | zero => have := hd.dp; rcases hk with rfl | rfl <;> simp only [PyData.depth] at this <;> omega
          | succ m => exact ⟨m, rfl⟩
        obtain ⟨m, rfl⟩ := sub
        have hi : Lay m ds[k] := lay_get (by rcases hk with rfl | rfl; exact .inl hd; exact .inr hd) (List.getElem?_eq_getElem hkk)
        have t1 := ndL_take ds k ds[k] (List.getElem?_eq_getElem hkk)
        have hs' : ndD ds[k] ≤ 1000000 := by rcases hk with rfl | rfl <;> simp only [ndD] at hs <;> omega
        rcases hk with rfl | rfl
        · exact wO_i e (wO_i e ⟨⟨ds[k], rfl, hi, by omega, hs', h _ rfl⟩⟩)
        · exact wO_i e (wO_i e ⟨⟨ds[k], rfl, hi, by omega, hs', h _ rfl⟩⟩)
      · exact hK
    have fin : Q (.dat (.bool (((List.range ds.length).map fun _ => true).all id))) .emp := by
        rw [show ((List.range ds.length).map fun _ => true).all id = true by simp]
        exact q
    have em : ((List.range ds.length).map fun _ => PyData.bool true) = ((List.range ds.length).map fun _ => true).map .bool := by rw [List.map_map]; rfl
    have hb : -(2 ^ 62) ≤ (ds.length : Int) ∧ (ds.length : Int) < 2 ^ 62 := by omega
    rcases hk with rfl | rfl
    · exact And.intro rfl (And.intro rfl (br_t (b := PyData.eqv (.int ds.length) (.int ds.length)) (by rw [eqv_int]; simp) (And.intro hb (go _ ⟨_, congrArg (fun l => some (PyData.list l)) em, fin⟩))))
    · exact And.intro rfl (And.intro rfl (br_t (b := PyData.eqv (.int ds.length) (.int ds.length)) (by rw [eqv_int]; simp) (And.intro hb (go _ ⟨_, congrArg (fun l => some (PyData.list l)) em, fin⟩))))
  have sh : SeqAt.shaped d = true := hd.shaped (by omega)
  have se := hd.eqv
  have bt : (!PyData.eqv (.bool true) (.bool true)) = false := by rw [eqv_bool]; rfl
  have bf : (!PyData.eqv (.bool false) (.bool false)) = false := by rw [eqv_bool]; rfl
  cases d with
  | list ds => exact dSeq.mk (br_t rfl (dSeq.mk (And.intro rfl (And.intro rfl (br_f bt (And.intro rfl (And.intro rfl (br_f bf (items ds (.inl rfl))))))))))
  | tuple ds => exact dSeq.mk (br_t rfl (dSeq.mk (And.intro rfl (And.intro rfl (br_f bf (And.intro rfl (And.intro rfl (br_f bt (items ds (.inr rfl))))))))))
  | none => exact dSeq.mk (br_f rfl (dSeq.mk (br_t rfl (br_t rfl (br_t rfl q)))))
  | bool b =>
    refine dSeq.mk (br_f rfl (dSeq.mk (br_f rfl (br_f rfl (dSeq.mk (And.intro rfl (And.intro rfl (br_f bt (And.intro rfl (And.intro rfl (br_f bf ?_))))))))))) 
    refine And.intro sh (And.intro sh ?_)
    rw [se]; exact q
  | int b =>
    refine dSeq.mk (br_f rfl (dSeq.mk (br_f rfl (br_f rfl (dSeq.mk (And.intro rfl (And.intro rfl (br_f bf (And.intro rfl (And.intro rfl (br_f bf ?_))))))))))) 
    refine And.intro sh (And.intro sh ?_)
    rw [se]; exact q
  | str b =>
    refine dSeq.mk (br_f rfl (dSeq.mk (br_f rfl (br_f rfl (dSeq.mk (And.intro rfl (And.intro rfl (br_f bf (And.intro rfl (And.intro rfl (br_f bt ?_))))))))))) 
    show Q (.dat (.bool (decide (b = b)))) .emp
    rw [decide_eq_true rfl]; exact q
  | dict b =>
    refine dSeq.mk (br_f rfl (dSeq.mk (br_f rfl (br_f rfl (dSeq.mk (And.intro rfl (And.intro rfl (br_f bf (And.intro rfl (And.intro rfl (br_f bf ?_))))))))))) 
    refine And.intro sh (And.intro sh ?_)
    rw [se]; exact q

def spn__law_dressed : Nat → DSp
  | 0 => fun _ _ _ => False
  | n + 1 => fun ts Q _ => ∃ (r : Spr) (d : D) (b : Nat), ts = [.own r.d, .bor d] ∧ r.Ok b ∧ b + ndD d < 2 ^ 59 ∧ d.depth ≤ n ∧ ndD d ≤ 1000000 ∧ noDct d = true ∧
    ∀ (d' : D) (r' : Spr), und d' = und d → r'.Ok (b + ndD d) → Q (.dat d') (.own r'.d)
def sp__law_dressed : DSp := spn__law_dressed 4
theorem mono__law_dressed : ∀ n, Mono (spn__law_dressed n)
  | 0 => fun _ _ _ _ _ _ _ h => h
  | n + 1 => fun ts R R' W W' hr _ ⟨r, d, b, e, h1, h2, h3, h4, h5, q⟩ => ⟨r, d, b, e, h1, h2, h3, h4, h5, fun d' r' a c => hr _ _ (q d' r' a c)⟩
theorem never__law_dressed : ∀ ts Q W, ¬ spn__law_dressed 0 ts Q W := fun _ _ _ h => h
theorem use_dressed {r : Spr} {d : D} {b : Nat} {Q : T → T → Prop} {W : Exn → T → Prop} (o : r.Ok b) (hb : b + ndD d < 2 ^ 59) (h1 : d.depth ≤ 3) (h2 : ndD d ≤ 1000000) (h3 : noDct d = true) (q : ∀ (d' : D) (r' : Spr), und d' = und d → r'.Ok (b + ndD d) → Q (.dat d') (.own r'.d)) :
    Spc sp__law_dressed [.own r.d, .bor d] Q W := ⟨⟨r, d, b, rfl, o, hb, h1, h2, h3, q⟩⟩


def ms__law_dressed : List Md := [.lend, .bor]
def dn__law_dressed (spr__law_dressed : DSp) (Wd : Exn → List T → Prop) : DS := (dSeq (dIfS (dNotT (tVal (dIsi ["list", "tuple"] (dVar 1)))) (dRet (dVarF 1)) dNext)
    (dSeq (dAsg (dLc (dSeqI (dVarF 1)) (Tgt.one 3).d dYes (dCall ms__law_dressed spr__law_dressed noW (dCons (dVar 0) (dCons (dVarF 3) dNil))) [3]) (dgName 2))
    (dRet (dIf (tVal (dOp dEq (dCall ms__law_draw sp__law_draw Wd (dCons (dVar 0) (dCons (dC (.int 2)) dNil))) (dC (.int 0)))) (dVarF 2) (dCB dTupOf (dCons (dVar 2) dNil))))))
abbrev st__law_dressed : Stmt := PySem.Challenge.pw_teesizes_k15_obstructions_judged.main.body.getD 28 (.Pass ⟨0, 0, 0, 0⟩)
abbrev N__law_dressed : List Str := ["spring", "value", "parts", "part"]
theorem sc__law_dressed : FnScope N__law_dressed ["spring", "value"] (defScope st__law_dressed) := ⟨rfl, rfl, rfl, by decide +kernel, rfl, by decide +kernel, by decide +kernel⟩
theorem dp__law_dressed {P : Program} {w : World} {K : PySem.W.Frag} {mg : Str → Option Value} {base : Heap} {f : Addr} {cdv : Value} {A : Around} {os : List Env} {s : Shared} {H : Hp} {E : XK} {Wd : Exn → List T → Prop} {B0 : Addr → Prop} {o : List Addr} {vs : List V} (n_isinstance : mg "isinstance" = none) (n_list : mg "list" = none) (n_tuple : mg "tuple" = none) (h__law_draw : Has P w K mg base "_law_draw" 1 ["spring", "many"] ms__law_draw sp__law_draw) {nr : Nat} {spr__law_dressed : DSp} (h__law_dressed : Has P w K mg base "_law_dressed" (1 + nr) ["spring", "value"] ms__law_dressed spr__law_dressed)
    (hr : RoomG (1 + nr) (A.deeper (PyProof.Rows.envOfC "_law_dressed" (defScope st__law_dressed) s.heap.objs.size f cdv))) (tk : DTk (ctxOf P w K mg base N__law_dressed "_law_dressed" (defScope st__law_dressed) f cdv A os s H E Wd B0 o (some 0) vs [3])) :
    DPSs (ctxOf P w K mg base N__law_dressed "_law_dressed" (defScope st__law_dressed) f cdv A os s H E Wd B0 o (some 0) vs [3]) (defBody st__law_dressed) (dn__law_dressed spr__law_dressed Wd) :=
  have S := sc__law_dressed
  (dss_cons (ds_if (dt_not (dt_val (de_isi2 rfl n_isinstance (de_var 1 (nin_of rfl)) rfl n_list (by decide) PyProof.Rows.boot_list rfl n_tuple (by decide) PyProof.Rows.boot_tuple))) (dss_one (ds_ret (de_varF 1))) dss_nil)
    (dss_cons (ds_setLc (i := 2) rfl S.nd rfl rfl (nin_of rfl) rfl (own := [(("part" : Str), 3)]) (tg := (Tgt.one 3)) (di_seq (de_varF 1)) (blk_of (N := N__law_dressed) (sc := defScope st__law_dressed) (by decide +kernel)) (tgt_one S.nd rfl (Or.inl rfl) rfl) (fun _ _ _ _ _ => dts_nil) (fun _ _ _ _ _ => (de_fn h__law_dressed hr (by omega) tk_blk rfl (da_cons (de_var 0 (nin_of rfl)) (da_cons (de_varF 3) da_nil)))) (by decide) (own_of rfl))
    (dss_one (ds_ret (de_if (dt_cmpD (dc_eq hr.units) (de_fn h__law_draw hr (by omega) tk rfl (da_cons (de_var 0 (nin_of rfl)) (da_cons de_int da_nil))) de_int) (de_varF 2) (de_tupOf rfl n_tuple (da_cons (de_var 2 (nin_of rfl)) da_nil)))))))
theorem dressed_items {r : Spr} {b n : Nat} {d : D} {ds : List D} {K : List D → List T → Prop} (o : r.Ok b) (hb : b + ndL ds < 2 ^ 59) (hd : PyData.depthAll ds + 1 ≤ n) (hn : ndL ds ≤ 1000000) (hx : noDctL ds = true)
    (hk : ∀ (ds' : List D) (r' : Spr), undL ds' = undL ds → r'.Ok (b + ndL ds) → K ds' [.own r'.d, .bor d, .emp, .emp]) :
    dLcGo (dgName 3) dYes (dCall ms__law_dressed (spn__law_dressed n) noW (dCons (dVar 0) (dCons (dVarF 3) dNil))) [3] K (ds.map .bor) [] [.own r.d, .bor d, .emp, .emp] := by
  refine lc_inv (fun j acc ρ => ∃ (r : Spr), ρ = [.own r.d, .bor d, .emp, .emp] ∧ r.Ok (b + ndL (ds.take j)) ∧ undL acc = undL (ds.take j)) ⟨r, rfl, o, rfl⟩ (fun j t acc ρ K' et p k => ?_) (fun acc ρ p => ?_)
  · obtain ⟨r, rfl, o, hu⟩ := p
    rw [List.getElem?_map, Option.map_eq_some_iff] at et
    obtain ⟨x, ex, rfl⟩ := et
    have t1 := ndL_take ds j x ex
    have t2 := depth_get ex
    have t3 := noDctL_get hx ex
    have e : ds.take (j + 1) = ds.take j ++ [x] := by rw [List.take_succ, ex]; rfl
    have hl : acc.length ≤ ndL ds := by
      have h1 := congrArg List.length hu
      have h2 : ∀ l, (undL l).length = l.length := fun l => by induction l with | nil => rfl | cons a l ih => simp only [undL, List.length_cons, ih]
      rw [h2, h2] at h1
      have h3 := ndL_len (ds.take j)
      omega
    refine dg_i rfl (br_t rfl ?_)
    cases n with
    | zero => omega
    | succ n =>
      refine ⟨⟨r, x, _, rfl, o, by omega, by omega, by omega, t3, fun d' r' h1 h2 => ?_⟩⟩
      refine And.intro (a := acc.length < sizeLine) (Nat.lt_of_lt_of_le (by omega : acc.length < 2000000) (by decide)) (k _ _ ⟨r', rfl, h2.mono ?_, ?_⟩)
      · rw [e, ndL_append]; simp only [ndL]; omega
      · rw [e, undL_append, undL_append, hu]; simp only [undL, h1]
  · obtain ⟨r, rfl, o, hu⟩ := p
    rw [List.length_map, List.take_length] at o hu
    exact hk _ _ hu o
theorem law__law_dressed (n : Nat) (ts : List T) (Q : T → T → Prop) (W : Exn → T → Prop) (h : spn__law_dressed (n + 1) ts Q W) : dn__law_dressed (spn__law_dressed n) (finX (some 0) W) (fin0 (some 0) Q) (slots0 4 ts) := by
  obtain ⟨r, d, b, rfl, o, hb, hd, hn, hx, q⟩ := h
  have fin : ∀ (ds ds' : List D) (r' : Spr), und d = .list (undL ds) → ndD d = 1 + ndL ds → undL ds' = undL ds → r'.Ok (b + ndL ds) → ∀ ρ, ρ = [.own r'.d, .bor d, .own ds', .emp] →
      dRet (dIf (tVal (dOp dEq (dCall ms__law_draw sp__law_draw (finX (some 0) W) (dCons (dVar 0) (dCons (dC (.int 2)) dNil))) (dC (.int 0)))) (dVarF 2) (dCB dTupOf (dCons (dVar 2) dNil))) (fin0 (some 0) Q) ρ := by
    intro ds ds' r' e1 e2 e3 o' ρ hρ
    subst hρ
    refine use_draw (m := 2) o' (by omega) (by decide) (by decide) fun v r2 v0 v1 o2 => ?_
    refine And.intro rfl (And.intro rfl (br_split (b := PyData.eqv (.int v) (.int 0)) (fun _ => ?_) fun _ => ?_))
    · exact q (.list ds') r2 (by rw [e1, ← e3]; rfl) (by rw [e2]; exact o2.mono (by omega))
    · exact q (.tuple ds') r2 (by rw [e1, ← e3]; rfl) (by rw [e2]; exact o2.mono (by omega))
  have sc : und d = und d → Q (.dat d) (.own r.d) := fun e => q d r e (o.mono (by omega))
  cases d with
  | list ds =>
    simp only [PyData.depth] at hd
    simp only [ndD] at hn hb
    refine dSeq.mk (br_f rfl (dSeq.mk ?_))
    refine dressed_items o (by omega) (by omega) (by omega) hx fun ds' r' h1 h2 => ?_
    exact fin ds ds' r' rfl rfl h1 h2 _ rfl
  | tuple ds =>
    simp only [PyData.depth] at hd
    simp only [ndD] at hn hb
    refine dSeq.mk (br_f rfl (dSeq.mk ?_))
    refine dressed_items o (by omega) (by omega) (by omega) hx fun ds' r' h1 h2 => ?_
    exact fin ds ds' r' rfl rfl h1 h2 _ rfl
  | dict _ => cases hx
  | _ => exact dSeq.mk (br_t rfl (And.intro rfl (sc rfl)))

def sp__law_record : DSp := fun ts Q _ => ∃ cs : List Int, ts = [.bor (.list (cs.map .int))] ∧ cs.length ≤ 1000000 ∧ Q (.own ((runsOf cs).map drun)) .emp
theorem mono__law_record : Mono sp__law_record := fun ts R R' W W' hr _ ⟨cs, e, h, q⟩ => ⟨cs, e, h, hr _ _ q⟩

def ms__law_record : List Md := [.bor]
def dn__law_record (Wd : Exn → List T → Prop) : DS := (dSeq (dAsg (dLst dNil) (dgName 1))
    (dSeq (dForS (dSeqI (dVarF 0)) (dgName 2) (dIfS ((dAndT (tVal (dOp dNe (dVar 1) (dLst dNil))) (tVal (dOp dEq (dOp dIx (dOp dIx (dVar 1) (dUn dNeg (dC (.int 1)))) (dC (.int 0))) (dVar 2))))) (dAsg (dTup (dCons (dVarF 2) (dCons (dOp dAdd (dOp dIx (dOp dIx (dVar 1) (dUn dNeg (dC (.int 1)))) (dC (.int 1))) (dC (.int 1))) dNil))) (dSetIx 1 (dUn dNeg (dC (.int 1))))) (dDrop (dLm 1 lmAppend (dCons (dTup (dCons (dVarF 2) (dCons (dC (.int 1)) dNil))) dNil)))))
    (dRet (dVarM 1))))
abbrev st__law_record : Stmt := PySem.Challenge.pw_teesizes_k15_obstructions_judged.main.body.getD 29 (.Pass ⟨0, 0, 0, 0⟩)
abbrev N__law_record : List Str := ["changes", "found", "change"]
theorem sc__law_record : FnScope N__law_record ["changes"] (defScope st__law_record) := ⟨rfl, rfl, rfl, by decide +kernel, rfl, by decide +kernel, by decide +kernel⟩
theorem dp__law_record {P : Program} {w : World} {K : PySem.W.Frag} {mg : Str → Option Value} {base : Heap} {f : Addr} {cdv : Value} {A : Around} {os : List Env} {s : Shared} {H : Hp} {E : XK} {Wd : Exn → List T → Prop} {B0 : Addr → Prop} {o : List Addr} {vs : List V} 
    (hr : RoomG 0 (A.deeper (PyProof.Rows.envOfC "_law_record" (defScope st__law_record) s.heap.objs.size f cdv))) (tk : DTk (ctxOf P w K mg base N__law_record "_law_record" (defScope st__law_record) f cdv A os s H E Wd B0 o none vs [])) :
    DPSs (ctxOf P w K mg base N__law_record "_law_record" (defScope st__law_record) f cdv A os s H E Wd B0 o none vs []) (defBody st__law_record) (dn__law_record Wd) :=
  have S := sc__law_record
  (dss_cons (ds_set S.nd (i := 1) rfl (Or.inl rfl) (nin_of rfl) (de_lst da_nil))
    (dss_cons (ds_for (passes_of rfl) rfl (di_seq (de_varF 0)) (dg_name S.nd (i := 2) rfl (Or.inl rfl) (nin_of rfl)) (dss_one (ds_if (DPW.t (dw_and (dt_cmpD (dc_ne hr.units) (de_var 1 (nin_of rfl)) (de_lst da_nil)) (dw_and1 (dt_cmpD (dc_eq hr.units) (de_ix (de_ix (de_var 1 (nin_of rfl)) (de_neg de_int)) de_int) (de_var 2 (nin_of rfl)))))) (dss_one (ds_asg (de_tup (da_cons (de_varF 2) (da_cons (de_add (de_ix (de_ix (de_var 1 (nin_of rfl)) (de_neg de_int)) de_int) de_int) da_nil))) (dg_setIx 1 rfl (Or.inl rfl) (de_neg de_int)))) (dss_one (ds_expr (de_lm 1 PySem.F.slot_list_append PySem.F.type_list_append mt_append sl_append rfl (by first | exact Or.inl rfl | exact Or.inr (Or.inl rfl) | exact Or.inr (Or.inr rfl)) (da_cons (de_tup (da_cons (de_varF 2) (da_cons de_int da_nil))) da_nil)))))))
    (dss_one (ds_ret (de_varM 1)))))
theorem ixN_last {n : Nat} : ixN (n + 1) (-1) = some n := by unfold ixN; rw [if_neg (by decide), if_pos (by omega)]; congr 1; omega
theorem law__law_record (ts : List T) (Q : T → T → Prop) (W : Exn → T → Prop) (h : sp__law_record ts Q W) : dn__law_record (finX none W) (fin0 none Q) (slots0 3 ts) := by
  obtain ⟨cs, rfl, hl, q⟩ := h
  refine dSeq.mk (dSeq.mk ?_)
  show dFor _ _ _ ((cs.map PyData.int).map T.bor) _
  rw [List.map_map]
  refine for_pre cs _ (fun pre ρ => ∃  (x_change : T), ρ = [.bor (.list (cs.map .int)), .own ((runsOf pre).map drun), x_change]) ⟨_, rfl⟩ (fun pre c post ρ K e hp k => ?_) (fun ρ p => ?_)
  · obtain ⟨x_change, rfl⟩ := hp
    have hz : (runsOf pre).length < sizeLine := by
      have h1 := runsOf_len pre
      have h2 := congrArg List.length e
      simp only [List.length_append, List.length_cons] at h2
      exact Nat.lt_of_lt_of_le (by omega : _ < 1000001) (by decide)
    have en := runsOf_snoc pre c
    refine dg_i rfl (And.intro ((lay_runs (runsOf pre)).shaped (by decide)) (And.intro rfl (br_split (b := !PyData.eqv (.list ((runsOf pre).map drun)) (.list [])) (fun e => ?_) fun e => ?_)))
    · obtain ⟨p, hq⟩ := last_run (by simpa using e)
      have el := last_split hq
      refine wO_i (o := gI ((runsOf pre).map drun) (-1)) (gI_run hq) (And.intro rfl (And.intro rfl (br_split (b := PyData.eqv (.int p.1) (.int c)) (fun e2 => ?_) fun e2 => ?_)))
      · rw [eqv_int] at e2
        have ec : p.1 = c := by simpa using e2
        have e3 : runsOf (pre ++ [c]) = (runsOf pre).dropLast ++ [(c, 1 + p.2)] := by rw [en]; unfold mrgStep; simp only [hq]; rw [if_pos ec]
        refine wO_i (o := gI ((runsOf pre).map drun) (-1)) (gI_run hq) ?_
        have hd : ((runsOf pre).map drun).length = ((runsOf pre).dropLast.map drun).length + 1 := by rw [el]; simp
        refine wO_i (o := ixN ((runsOf pre).map drun).length (-1)) (d := ((runsOf pre).dropLast.map drun).length) (by rw [hd]; exact ixN_last) ?_
        have es : ((runsOf pre).map drun).set ((runsOf pre).dropLast.map drun).length (.tuple [.int c, .int (p.2 + 1)]) = (runsOf (pre ++ [c])).map drun := by
          rw [e3, List.map_append, Int.add_comm 1]
          have : (runsOf pre).map drun = (runsOf pre).dropLast.map drun ++ [drun p] := by rw [← List.map_singleton (f := drun), ← List.map_append, ← el]
          rw [this]
          simp [drun]
        refine k _ ?_
        rw [← es]
        exact ⟨_, rfl⟩
      · rw [eqv_int] at e2
        refine And.intro (a := ((runsOf pre).map drun).length < sizeLine) (by rw [List.length_map]; exact hz) (k _ ?_)
        have e3 : runsOf (pre ++ [c]) = runsOf pre ++ [(c, 1)] := by rw [en]; unfold mrgStep; simp only [hq]; rw [if_neg (by simpa using e2)]
        rw [e3]
        exact ⟨_, (by simp only [List.map_append]; rfl)⟩
    · have e0 : runsOf pre = [] := nil_run (by simpa using e)
      refine br_f rfl (And.intro (a := ((runsOf pre).map drun).length < sizeLine) (by rw [List.length_map]; exact hz) (k _ ?_))
      have e3 : runsOf (pre ++ [c]) = runsOf pre ++ [(c, 1)] := by rw [en, e0]; rfl
      rw [e3]
      exact ⟨_, (by simp only [List.map_append]; rfl)⟩
  · obtain ⟨x_change, rfl⟩ := p
    exact q

def nextD (z : Int × List Int) : D := .tuple [.int z.1, .list (z.2.map .int)]
def sp__law_next : DSp := fun ts Q _ => ∃ (st : List Int) (c : Int), ts = [.bor (.list (st.map .int)), .dat (.int c)] ∧ 0 < st.length ∧ st.length ≤ 1000 ∧
  ∀ zs : List (Int × List Int), (∀ z ∈ zs, z.2.length = st.length) → zs.length ≤ st.length → (c = (if st.length = 1 then 0 else 1) → zs ≠ []) → Q (.own (zs.map nextD)) .emp
theorem mono__law_next : Mono sp__law_next := fun ts R R' W W' hr _ ⟨st, c, e, h1, h2, q⟩ => ⟨st, c, e, h1, h2, fun zs a b d => hr _ _ (q zs a b d)⟩
theorem use_next {st : List Int} {c : Int} {Q : T → T → Prop} {W : Exn → T → Prop} (h1 : 0 < st.length) (h2 : st.length ≤ 1000) (q : ∀ zs : List (Int × List Int), (∀ z ∈ zs, z.2.length = st.length) → zs.length ≤ st.length → (c = (if st.length = 1 then 0 else 1) → zs ≠ []) → Q (.own (zs.map nextD)) .emp) : Spc sp__law_next [.bor (.list (st.map .int)), .dat (.int c)] Q W := ⟨⟨st, c, rfl, h1, h2, q⟩⟩

def ms__law_next : List Md := [.bor, .dat]
def dn__law_next (Wd : Exn → List T → Prop) : DS := (dSeq (dPar (dCons (dLst dNil) (dCons (dOp dSub (dCB dLen (dCons (dVar 0) dNil)) (dC (.int 1))) dNil)) (dgCons (dgName 2) (dgCons (dgName 3) dgNil)))
    (dSeq (dForS (dRange1 (dCons (dCB dLen (dCons (dVar 0) dNil)) dNil)) (dgName 4) (dIfS ((dOrT (tVal (dOp dEq (dVar 4) (dC (.int 0)))) (tVal (dOp dLt (dOp dIx (dVar 0) (dVar 4)) (dOp dIx (dVar 0) (dOp dSub (dVar 4) (dC (.int 1)))))))) (dSeq (dAsg (dIf (tVal (dOp dEq (dVar 3) (dC (.int 0)))) (dC (.int 0)) (dOp dSub (dCB dInt (dCons (dOp dEq (dVar 4) (dC (.int 0))) dNil)) (dCB dInt (dCons (dOp dEq (dVar 4) (dVar 3)) dNil)))) (dgName 5))
    (dIfS (tVal (dOp dEq (dVar 5) (dVar 1))) (dDrop (dLm 2 lmAppend (dCons (dTup (dCons (dVarF 4) (dCons (dOp dAdd (dOp dAdd (dSl (dVar 0) dNoPart (dPart (dVar 4))) (dLst (dCons (dOp dAdd (dOp dIx (dVar 0) (dVar 4)) (dC (.int 1))) dNil))) (dSl (dVar 0) (dPart (dOp dAdd (dVar 4) (dC (.int 1)))) dNoPart)) dNil))) dNil))) dNext)) dNext))
    (dRet (dVarM 2))))
abbrev st__law_next : Stmt := PySem.Challenge.pw_teesizes_k15_obstructions_judged.main.body.getD 30 (.Pass ⟨0, 0, 0, 0⟩)
abbrev N__law_next : List Str := ["state", "change", "found", "last", "rank", "own"]
theorem sc__law_next : FnScope N__law_next ["state", "change"] (defScope st__law_next) := ⟨rfl, rfl, rfl, by decide +kernel, rfl, by decide +kernel, by decide +kernel⟩
theorem dp__law_next {P : Program} {w : World} {K : PySem.W.Frag} {mg : Str → Option Value} {base : Heap} {f : Addr} {cdv : Value} {A : Around} {os : List Env} {s : Shared} {H : Hp} {E : XK} {Wd : Exn → List T → Prop} {B0 : Addr → Prop} {o : List Addr} {vs : List V} (n_int : mg "int" = none) (n_len : mg "len" = none) (n_range : mg "range" = none)
    (hr : RoomG 0 (A.deeper (PyProof.Rows.envOfC "_law_next" (defScope st__law_next) s.heap.objs.size f cdv))) (tk : DTk (ctxOf P w K mg base N__law_next "_law_next" (defScope st__law_next) f cdv A os s H E Wd B0 o none vs [])) :
    DPSs (ctxOf P w K mg base N__law_next "_law_next" (defScope st__law_next) f cdv A os s H E Wd B0 o none vs []) (defBody st__law_next) (dn__law_next Wd) :=
  have S := sc__law_next
  (dss_cons (ds_par (i := 2) (j := 3) rfl S.nd rfl rfl rfl rfl rfl (nin_of rfl) (nin_of rfl) (da_cons (de_lst da_nil) (da_cons (de_sub (de_len rfl n_len (da_cons (de_var 0 (nin_of rfl)) da_nil)) de_int) da_nil)))
    (dss_cons (ds_for (passes_of rfl) rfl (di_range1 rfl n_range (da_cons (de_len rfl n_len (da_cons (de_var 0 (nin_of rfl)) da_nil)) da_nil)) (dg_name S.nd (i := 4) rfl (Or.inl rfl) (nin_of rfl)) (dss_one (ds_if (DPW.t (dw_or (dt_cmpD (dc_eq hr.units) (de_var 4 (nin_of rfl)) de_int) (dw_or1 (dt_cmpD dc_lt (de_ix (de_var 0 (nin_of rfl)) (de_var 4 (nin_of rfl))) (de_ix (de_var 0 (nin_of rfl)) (de_sub (de_var 4 (nin_of rfl)) de_int)))))) (dss_cons (ds_set S.nd (i := 5) rfl (Or.inl rfl) (nin_of rfl) (de_if (dt_cmpD (dc_eq hr.units) (de_var 3 (nin_of rfl)) de_int) de_int (de_sub (de_int1 rfl n_int (da_cons (de_cmpD (dc_eq hr.units) (de_var 4 (nin_of rfl)) de_int) da_nil)) (de_int1 rfl n_int (da_cons (de_cmpD (dc_eq hr.units) (de_var 4 (nin_of rfl)) (de_var 3 (nin_of rfl))) da_nil)))))
    (dss_one (ds_if (dt_cmpD (dc_eq hr.units) (de_var 5 (nin_of rfl)) (de_var 1 (nin_of rfl))) (dss_one (ds_expr (de_lm 2 PySem.F.slot_list_append PySem.F.type_list_append mt_append sl_append rfl (by first | exact Or.inl rfl | exact Or.inr (Or.inl rfl) | exact Or.inr (Or.inr rfl)) (da_cons (de_tup (da_cons (de_varF 4) (da_cons (de_add (de_add (de_slice (de_var 0 (nin_of rfl)) do_none (do_some (de_var 4 (nin_of rfl)))) (de_lst (da_cons (de_add (de_ix (de_var 0 (nin_of rfl)) (de_var 4 (nin_of rfl))) de_int) da_nil))) (de_slice (de_var 0 (nin_of rfl)) (do_some (de_add (de_var 4 (nin_of rfl)) de_int)) do_none)) da_nil))) da_nil)))) dss_nil))) dss_nil)))
    (dss_one (ds_ret (de_varM 2)))))
theorem law__law_next (ts : List T) (Q : T → T → Prop) (W : Exn → T → Prop) (h : sp__law_next ts Q W) : dn__law_next (finX none W) (fin0 none Q) (slots0 6 ts) := by
  obtain ⟨st, c, rfl, h0, hl, q⟩ := h
  have ll : ((st.map PyData.int).length : Int) = st.length := by rw [List.length_map]
  refine dSeq.mk (dSeq.mk ?_)
  refine And.intro (a := -(2 ^ 62) ≤ ((st.map PyData.int).length : Int) ∧ ((st.map PyData.int).length : Int) < 2 ^ 62) (by rw [ll]; omega) ?_
  show dFor _ _ _ (rngT 0 (st.map PyData.int).length) _
  refine dFor_inv (fun i ρ => ∃ (zs : List (Int × List Int)) (x_rank x_own : T), ρ = [.bor (.list (st.map .int)), .dat (.int c), .own (zs.map nextD), .dat (.int (((st.map PyData.int).length : Int) - 1)), x_rank, x_own] ∧ (∀ z ∈ zs, z.2.length = st.length) ∧ zs.length ≤ i ∧ (0 < i → c = (if st.length = 1 then 0 else 1) → zs ≠ [])) ⟨[], _, _, rfl, ⟨by simp, Nat.le_refl _, fun z => by omega⟩⟩ (fun i t ρ K et p k => ?_) (fun ρ p => ?_)
  · obtain ⟨zs, x_rank, x_own, rfl, ⟨hz, hn, hc⟩⟩ := p
    obtain ⟨hi, rfl⟩ := rngT_get et
    rw [List.length_map] at hi
    have eg : ∀ j : Nat, j < st.length → gI (st.map PyData.int) (j : Int) = some (.int (st[j]?.getD 0)) := fun j hj => by rw [gI_nat rfl, List.getElem?_map, List.getElem?_eq_getElem hj]; rfl
    have body : ∀ D : DEnds, D.nx = K → dSeq (dAsg (dIf (tVal (dOp dEq (dVar 3) (dC (.int 0)))) (dC (.int 0)) (dOp dSub (dCB dInt (dCons (dOp dEq (dVar 4) (dC (.int 0))) dNil)) (dCB dInt (dCons (dOp dEq (dVar 4) (dVar 3)) dNil)))) (dgName 5))
        (dIfS (tVal (dOp dEq (dVar 5) (dVar 1))) (dDrop (dLm 2 lmAppend (dCons (dTup (dCons (dVarF 4) (dCons (dOp dAdd (dOp dAdd (dSl (dVar 0) dNoPart (dPart (dVar 4))) (dLst (dCons (dOp dAdd (dOp dIx (dVar 0) (dVar 4)) (dC (.int 1))) dNil))) (dSl (dVar 0) (dPart (dOp dAdd (dVar 4) (dC (.int 1)))) dNoPart)) dNil))) dNil))) dNext) D
        [.bor (.list (st.map .int)), .dat (.int c), .own (zs.map nextD), .dat (.int (((st.map PyData.int).length : Int) - 1)), .dat (.int (0 + (i : Nat))), x_own] := by
      intro D hD
      have step : ∀ o : Int, (i = 0 → o = if st.length = 1 then 0 else 1) → ∀ ρ2, ρ2 = [.bor (.list (st.map .int)), .dat (.int c), .own (zs.map nextD), .dat (.int (((st.map PyData.int).length : Int) - 1)), .dat (.int (0 + (i : Nat))), .dat (.int o)] → dIfS (tVal (dOp dEq (dVar 5) (dVar 1))) (dDrop (dLm 2 lmAppend (dCons (dTup (dCons (dVarF 4) (dCons (dOp dAdd (dOp dAdd (dSl (dVar 0) dNoPart (dPart (dVar 4))) (dLst (dCons (dOp dAdd (dOp dIx (dVar 0) (dVar 4)) (dC (.int 1))) dNil))) (dSl (dVar 0) (dPart (dOp dAdd (dVar 4) (dC (.int 1)))) dNoPart)) dNil))) dNil))) dNext D ρ2 := by
        intro o ho ρ2 hρ
        subst hρ
        refine And.intro rfl (And.intro rfl (br_split (b := PyData.eqv (.int o) (.int c)) (fun e => ?_) fun e => ?_))
        · have c1 := cut_to (st.map PyData.int) i
          have c2 := cut_from (st.map PyData.int) (i + 1)
          have i0 : (0 + (i : Nat) : Int) = (i : Nat) := by omega
          have i1 : (0 + (i : Nat) + 1 : Int) = ((i + 1 : Nat) : Int) := by omega
          have sf : ∀ d ∈ st.map PyData.int, Ds.safe d = true := fun d hd => by obtain ⟨p, _, rfl⟩ := List.mem_map.mp hd; rfl
          have z1 : (cut (st.map PyData.int) none (some (0 + (i : Nat) : Int))).length = i := by rw [i0, show cut (st.map PyData.int) none (some (i : Int)) = _ from c1, List.length_take, List.length_map]; omega
          have z2 : (cut (st.map PyData.int) (some (0 + (i : Nat) + 1 : Int)) none).length = st.length - (i + 1) := by rw [i1, show cut (st.map PyData.int) (some ((i + 1 : Nat) : Int)) none = _ from c2, List.length_drop, List.length_map]
          refine wO_i (o := gI (st.map PyData.int) (0 + (i : Nat))) (d := .int (st[i]?.getD 0)) (by rw [i0]; exact eg i hi) ?_
          refine And.intro (safeL_of fun d hd => sf d (cut_mem hd)) (And.intro (a := (cut (st.map PyData.int) none (some (0 + (i : Nat) : Int))).length + 1 ≤ sizeLine) (Nat.le_trans (by omega : _ ≤ 2000) (by decide)) ?_)
          refine And.intro (safeL_of fun d hd => sf d (cut_mem hd)) (And.intro (a := (cut (st.map PyData.int) none (some (0 + (i : Nat) : Int)) ++ [PyData.int (st[i]?.getD 0 + 1)]).length + (cut (st.map PyData.int) (some (0 + (i : Nat) + 1 : Int)) none).length ≤ sizeLine) (by rw [List.length_append, z1, z2]; exact Nat.le_trans (by simp; omega : _ ≤ 2000) (by decide)) ?_)
          have ez : cut (st.map PyData.int) none (some (0 + (i : Nat) : Int)) ++ [PyData.int (st[i]?.getD 0 + 1)] ++ cut (st.map PyData.int) (some (0 + (i : Nat) + 1 : Int)) none = (st.take i ++ [st[i]?.getD 0 + 1] ++ st.drop (i + 1)).map .int := by
            rw [i1, i0, show cut (st.map PyData.int) none (some (i : Int)) = _ from c1, show cut (st.map PyData.int) (some ((i + 1 : Nat) : Int)) none = _ from c2]
            simp
          refine And.intro (a := (zs.map nextD).length < sizeLine) (by rw [List.length_map]; exact Nat.lt_of_lt_of_le (by omega : _ < 2000) (by decide)) ?_
          show D.nx _
          rw [hD]
          have e' : PyData.tuple [.int (0 + (i : Nat)), .list (cut (st.map PyData.int) none (some (0 + (i : Nat) : Int)) ++ [PyData.int (st[i]?.getD 0 + 1)] ++ cut (st.map PyData.int) (some (0 + (i : Nat) + 1 : Int)) none)] = nextD ((0 + (i : Nat) : Int), st.take i ++ [st[i]?.getD 0 + 1] ++ st.drop (i + 1)) := by unfold nextD; rw [ez]
          show K [.bor (.list (st.map .int)), .dat (.int c), .own (zs.map nextD ++ [.tuple [.int (0 + (i : Nat)), .list (cut (st.map PyData.int) none (some (0 + (i : Nat) : Int)) ++ [PyData.int (st[i]?.getD 0 + 1)] ++ cut (st.map PyData.int) (some (0 + (i : Nat) + 1 : Int)) none)]]), .dat (.int (((st.map PyData.int).length : Int) - 1)), .dat (.int (0 + (i : Nat))), .dat (.int o)]
          rw [e']
          refine k _ ⟨zs ++ [((0 + (i : Nat) : Int), st.take i ++ [st[i]?.getD 0 + 1] ++ st.drop (i + 1))], _, _, (by simp only [List.map_append]; rfl), ⟨fun z hzz => ?_, by simp; omega, fun _ _ => by simp⟩⟩
          rcases List.mem_append.mp hzz with hzz | hzz
          · exact hz z hzz
          · simp at hzz; subst hzz; simp; omega
        · show D.nx _
          rw [hD]
          refine k _ ⟨zs, _, _, rfl, ⟨hz, by omega, fun _ hcc => ?_⟩⟩
          rw [eqv_int] at e
          rcases Nat.eq_zero_or_pos i with z | z
          · rw [ho z, ← hcc] at e; simp at e
          · exact hc z hcc
      refine dSeq.mk (And.intro rfl (And.intro rfl (br_split (b := PyData.eqv (.int (((st.map PyData.int).length : Int) - 1)) (.int 0)) (fun e => ?_) fun e => ?_)))
      · rw [eqv_int, ll] at e
        have e1 : st.length = 1 := by have : (st.length : Int) - 1 = 0 := by simpa using e
                                      omega
        exact step 0 (fun _ => by rw [if_pos e1]) _ rfl
      · rw [eqv_int, ll] at e
        have e1 : ¬ st.length = 1 := fun z => by rw [z] at e; simp at e
        refine And.intro rfl (And.intro rfl (And.intro rfl (And.intro rfl ?_)))
        refine step _ (fun z => ?_) _ rfl
        subst z
        rw [if_neg e1, eqv_int, eqv_int, ll]
        have h1 : ((0 + ((0 : Nat) : Int)) == 0) = true := rfl
        have h2 : ((0 + ((0 : Nat) : Int)) == (st.length : Int) - 1) = false := by
          rw [beq_eq_false_iff_ne]; omega
        rw [h1, h2]; rfl
    have skip : 0 < i → K [.bor (.list (st.map .int)), .dat (.int c), .own (zs.map nextD), .dat (.int (((st.map PyData.int).length : Int) - 1)), .dat (.int (0 + (i : Nat))), x_own] := fun z =>
      k _ ⟨zs, _, _, rfl, ⟨hz, by omega, fun _ => hc z⟩⟩
    refine dg_i rfl (And.intro rfl (And.intro rfl (br_split (b := PyData.eqv (.int (0 + (i : Nat))) (.int 0)) (fun e => br_t rfl (body _ rfl)) fun e => ?_)))
    have ip : 0 < i := by rw [eqv_int] at e; have : ¬ (0 + (i : Nat) : Int) = 0 := by simpa using e
                          omega
    refine wO_i (o := gI (st.map PyData.int) (0 + (i : Nat))) (d := .int (st[i]?.getD 0)) (by rw [show (0 + (i : Nat) : Int) = (i : Nat) by omega]; exact eg i hi) ?_
    refine wO_i (o := gI (st.map PyData.int) (0 + (i : Nat) - 1)) (d := .int (st[i - 1]?.getD 0)) (by rw [show (0 + (i : Nat) - 1 : Int) = ((i - 1 : Nat) : Int) by omega]; exact eg (i - 1) (by omega)) ?_
    exact br_split (fun _ => body _ rfl) fun _ => skip ip
  · obtain ⟨zs, x_rank, x_own, rfl, ⟨hz, hn, hc⟩⟩ := p
    rw [rngT_len, List.length_map] at hn hc
    exact q zs hz hn (hc h0)

def sp__law_changes : DSp := fun ts Q _ => ∃ (r : Spr) (R m : Int) (b : Nat), ts = [.own r.d, .dat (.int R), .dat (.int m)] ∧ r.Ok b ∧ b < 2 ^ 59 ∧ 1 ≤ R ∧ R ≤ 1000 ∧ 0 ≤ m ∧ m ≤ 1000 ∧
  ∀ (cs : List Int) (r' : Spr), (cs.length : Int) ≤ m → (∀ c ∈ cs, -1 ≤ c ∧ c ≤ 1) → r'.Ok (b + 2 + m.toNat) → Q (.own (cs.map .int)) (.own r'.d)
theorem mono__law_changes : Mono sp__law_changes := fun ts R R' W W' hr _ ⟨r, a, m, b, e, h1, h2, h3, h4, h5, h6, q⟩ => ⟨r, a, m, b, e, h1, h2, h3, h4, h5, h6, fun cs r' a b c => hr _ _ (q cs r' a b c)⟩
theorem use_changes {r : Spr} {R m : Int} {b : Nat} {Q : T → T → Prop} {W : Exn → T → Prop} (o : r.Ok b) (hb : b < 2 ^ 59) (R1 : 1 ≤ R) (R2 : R ≤ 1000) (m0 : 0 ≤ m) (m1 : m ≤ 1000) (q : ∀ (cs : List Int) (r' : Spr), (cs.length : Int) ≤ m → (∀ c ∈ cs, -1 ≤ c ∧ c ≤ 1) → r'.Ok (b + 2 + m.toNat) → Q (.own (cs.map .int)) (.own r'.d)) :
    Spc sp__law_changes [.own r.d, .dat (.int R), .dat (.int m)] Q W := ⟨⟨r, R, m, b, rfl, o, hb, R1, R2, m0, m1, q⟩⟩
theorem three_of {v : Int} (h0 : 0 ≤ v) (h1 : v < 3) : ∃ c : Int, gI [PyData.int 1, .int 0, .int (-1)] v = some (.int c) ∧ (c = 1 ∨ c = 0 ∨ c = -1) := by
  rcases (by omega : v = 0 ∨ v = 1 ∨ v = 2) with rfl | rfl | rfl
  · exact ⟨1, rfl, .inl rfl⟩
  · exact ⟨0, rfl, .inr (.inl rfl)⟩
  · exact ⟨-1, rfl, .inr (.inr rfl)⟩

def ms__law_changes : List Md := [.lend, .dat, .dat]
def dn__law_changes (Wd : Exn → List T → Prop) : DS := (dSeq (dPar (dCons (dLst dNil) (dCons (dOp dMul (dLst (dCons (dC (.int 0)) dNil)) (dVar 1)) dNil)) (dgCons (dgName 3) (dgCons (dgName 4) dgNil)))
    (dSeq (dAsg (dCall ms__law_draw sp__law_draw Wd (dCons (dVar 0) (dCons (dC (.int 4)) dNil))) (dgName 5))
    (dSeq (dForS (dRange1 (dCons (dCall ms__law_draw sp__law_draw Wd (dCons (dVar 0) (dCons (dOp dAdd (dVar 2) (dC (.int 1))) dNil))) dNil)) (dgName 6) (dSeq (dIfS (tVal (dOp dEq (dVar 5) (dC (.int 0)))) (dSeq (dDrop (dLm 3 lmAppend (dCons (dOp dIx (dLst (dCons (dC (.int 1)) (dCons (dC (.int 0)) (dCons (dUn dNeg (dC (.int 1))) dNil)))) (dCall ms__law_draw sp__law_draw Wd (dCons (dVar 0) (dCons (dC (.int 3)) dNil)))) dNil)))
    dCont) dNext)
    (dSeq (dAsg (dLst dNil) (dgName 7))
    (dSeq (dForS (dSeqI (dLst (dCons (dC (.int 1)) (dCons (dC (.int 0)) (dCons (dUn dNeg (dC (.int 1))) dNil))))) (dgName 8) (dDrop (dLm 7 lmExtend (dCons (dLc (dSeqI (dCall ms__law_next sp__law_next Wd (dCons (dVar 4) (dCons (dVarF 8) dNil)))) (Tgt.many [9, 10]).d dYes (dTup (dCons (dVarF 8) (dCons (dVarF 10) dNil))) [9, 10]) dNil))))
    (dSeq (dAsg (dOp dIx (dVar 7) (dCall ms__law_draw sp__law_draw Wd (dCons (dVar 0) (dCons (dCB dLen (dCons (dVar 7) dNil)) dNil)))) (dgTup 2 (dgCons (dgName 8) (dgCons (dgName 4) dgNil))))
    (dDrop (dLm 3 lmAppend (dCons (dVarF 8) dNil))))))))
    (dRet (dVarM 3)))))
abbrev st__law_changes : Stmt := PySem.Challenge.pw_teesizes_k15_obstructions_judged.main.body.getD 32 (.Pass ⟨0, 0, 0, 0⟩)
abbrev N__law_changes : List Str := ["spring", "readers", "most", "found", "state", "way", "read", "some", "change", "rank", "other"]
theorem sc__law_changes : FnScope N__law_changes ["spring", "readers", "most"] (defScope st__law_changes) := ⟨rfl, rfl, rfl, by decide +kernel, rfl, by decide +kernel, by decide +kernel⟩
theorem dp__law_changes {P : Program} {w : World} {K : PySem.W.Frag} {mg : Str → Option Value} {base : Heap} {f : Addr} {cdv : Value} {A : Around} {os : List Env} {s : Shared} {H : Hp} {E : XK} {Wd : Exn → List T → Prop} {B0 : Addr → Prop} {o : List Addr} {vs : List V} (n_len : mg "len" = none) (n_range : mg "range" = none) (h__law_draw : Has P w K mg base "_law_draw" 1 ["spring", "many"] ms__law_draw sp__law_draw) (h__law_next : Has P w K mg base "_law_next" 1 ["state", "change"] ms__law_next sp__law_next)
    (hr : RoomG 1 (A.deeper (PyProof.Rows.envOfC "_law_changes" (defScope st__law_changes) s.heap.objs.size f cdv))) (tk : DTk (ctxOf P w K mg base N__law_changes "_law_changes" (defScope st__law_changes) f cdv A os s H E Wd B0 o (some 0) vs [9, 10])) :
    DPSs (ctxOf P w K mg base N__law_changes "_law_changes" (defScope st__law_changes) f cdv A os s H E Wd B0 o (some 0) vs [9, 10]) (defBody st__law_changes) (dn__law_changes Wd) :=
  have S := sc__law_changes
  (dss_cons (ds_par (i := 3) (j := 4) rfl S.nd rfl rfl rfl rfl rfl (nin_of rfl) (nin_of rfl) (da_cons (de_lst da_nil) (da_cons (de_mul (de_lst (da_cons de_int da_nil)) (de_var 1 (nin_of rfl))) da_nil)))
    (dss_cons (ds_set S.nd (i := 5) rfl (Or.inl rfl) (nin_of rfl) (de_fn h__law_draw hr (by decide) tk rfl (da_cons (de_var 0 (nin_of rfl)) (da_cons de_int da_nil))))
    (dss_cons (ds_for (passes_of rfl) rfl (di_range1 rfl n_range (da_cons (de_fn h__law_draw hr (by decide) tk rfl (da_cons (de_var 0 (nin_of rfl)) (da_cons (de_add (de_var 2 (nin_of rfl)) de_int) da_nil))) da_nil)) (dg_name S.nd (i := 6) rfl (Or.inl rfl) (nin_of rfl)) (dss_cons (ds_if (dt_cmpD (dc_eq hr.units) (de_var 5 (nin_of rfl)) de_int) (dss_cons (ds_expr (de_lm 3 PySem.F.slot_list_append PySem.F.type_list_append mt_append sl_append rfl (by first | exact Or.inl rfl | exact Or.inr (Or.inl rfl) | exact Or.inr (Or.inr rfl)) (da_cons (de_ix (de_lst (da_cons de_int (da_cons de_int (da_cons (de_neg de_int) da_nil)))) (de_fn h__law_draw hr (by decide) tk rfl (da_cons (de_var 0 (nin_of rfl)) (da_cons de_int da_nil)))) da_nil)))
    (dss_one ds_cont)) dss_nil)
    (dss_cons (ds_set S.nd (i := 7) rfl (Or.inl rfl) (nin_of rfl) (de_lst da_nil))
    (dss_cons (ds_for (passes_of rfl) rfl (di_seq (de_lst (da_cons de_int (da_cons de_int (da_cons (de_neg de_int) da_nil))))) (dg_name S.nd (i := 8) rfl (Or.inr rfl) (nin_of rfl)) (dss_one (ds_expr (de_lm 7 PySem.F.slot_list_extend PySem.F.type_list_extend mt_extend sl_extend rfl (by first | exact Or.inl rfl | exact Or.inr (Or.inl rfl) | exact Or.inr (Or.inr rfl)) (da_cons (de_lc rfl S.nd (own := [(("rank" : Str), 9), (("other" : Str), 10)]) (tg := (Tgt.many [9, 10])) (di_seq (de_fn h__law_next hr (by decide) tk rfl (da_cons (de_var 4 (nin_of rfl)) (da_cons (de_varF 8) da_nil)))) (blk_of (N := N__law_changes) (sc := defScope st__law_changes) (by decide +kernel)) (tgt_many rfl S.nd (.cons rfl (Or.inl rfl) rfl (.cons rfl (Or.inl rfl) rfl .nil))) (fun _ _ _ _ _ => dts_nil) (fun _ _ _ _ _ => (de_tup (da_cons (de_varF 8) (da_cons (de_varF 10) da_nil)))) (by decide) (own_of rfl)) da_nil)))))
    (dss_cons (ds_asg (de_ix (de_var 7 (nin_of rfl)) (de_fn h__law_draw hr (by decide) tk rfl (da_cons (de_var 0 (nin_of rfl)) (da_cons (de_len rfl n_len (da_cons (de_var 7 (nin_of rfl)) da_nil)) da_nil)))) (dg_tup rfl (dgs_cons (dg_name S.nd (i := 8) rfl (Or.inr rfl) (nin_of rfl)) (dgs_cons (dg_name S.nd (i := 4) rfl (Or.inl rfl) (nin_of rfl)) dgs_nil))))
    (dss_one (ds_expr (de_lm 3 PySem.F.slot_list_append PySem.F.type_list_append mt_append sl_append rfl (by first | exact Or.inl rfl | exact Or.inr (Or.inl rfl) | exact Or.inr (Or.inr rfl)) (da_cons (de_varF 8) da_nil)))))))))
    (dss_one (ds_ret (de_varM 3))))))
theorem law__law_changes (ts : List T) (Q : T → T → Prop) (W : Exn → T → Prop) (h : sp__law_changes ts Q W) : dn__law_changes (finX (some 0) W) (fin0 (some 0) Q) (slots0 11 ts) := by
  obtain ⟨r, R, m, b, rfl, o, hb, R1, R2, m0, m1, q⟩ := h
  refine dSeq.mk (And.intro (a := -(2 ^ 63) ≤ R ∧ R < 2 ^ 63 ∧ 1 * R.toNat ≤ sizeLine) ⟨by omega, by omega, Nat.le_trans (by omega : _ ≤ 1000) (by decide)⟩ ?_)
  have e0 : (List.replicate R.toNat [PyData.int 0]).flatten = (List.replicate R.toNat (0 : Int)).map .int := by
    rw [List.map_replicate]
    generalize R.toNat = n
    induction n with
    | zero => rfl
    | succ n ih => rw [List.replicate_succ, List.flatten_cons, ih, List.replicate_succ]; rfl
  show dSeq _ _ _ [.own r.d, .dat (.int R), .dat (.int m), .own [], .own ((List.replicate R.toNat [PyData.int 0]).flatten), .emp, .emp, .emp, .emp, .emp, .emp]
  rw [e0]
  have l0 : (List.replicate R.toNat (0 : Int)).length = R.toNat := by simp
  generalize List.replicate R.toNat (0 : Int) = st0 at l0
  refine dSeq.mk (use_draw (m := 4) o (by omega) (by decide) (by decide) fun w r1 w0 w1 o1 => dSeq.mk ?_)
  refine use_draw (m := m + 1) o1 (by omega) (by omega) (by omega) fun n r2 n0 n1 o2 => ?_
  refine And.intro (a := -(2 ^ 62) ≤ n ∧ n < 2 ^ 62) (by omega) ?_
  refine dFor_inv (fun i ρ => ∃ (r : Spr) (cs st : List Int) (x : T) (x_read x_some x_change : T), ρ = [.own r.d, .dat (.int R), .dat (.int m), .own (cs.map .int), x, .dat (.int w), x_read, x_some, x_change, .emp, .emp] ∧ (x = .own (st.map .int) ∨ x = .dat (.list (st.map .int))) ∧ st.length = R.toNat ∧ cs.length ≤ i ∧ (∀ c ∈ cs, -1 ≤ c ∧ c ≤ 1) ∧ r.Ok (b + 2 + i)) ⟨r2, [], st0, _, _, _, _, rfl, ⟨.inl rfl, l0, Nat.le_refl _, by simp, o2⟩⟩ (fun i t ρ K et p k => ?_) (fun ρ p => ?_)
  · obtain ⟨r, cs, st, x, x_read, x_some, x_change, rfl, ⟨hx, hst, hl, hc, o⟩⟩ := p
    obtain ⟨hi, rfl⟩ := rngT_get et
    have im : (i : Int) < 1000 := by omega
    have cl : (cs.map PyData.int).length < sizeLine := by rw [List.length_map]; exact Nat.lt_of_lt_of_le (by omega : _ < 2000) (by decide)
    have add : ∀ (c : Int) (r' : Spr) (st' : List Int) (x' a1 a2 : T), (c = 1 ∨ c = 0 ∨ c = -1) → r'.Ok (b + 2 + i + 1) → st'.length = R.toNat → (x' = .own (st'.map .int) ∨ x' = .dat (.list (st'.map .int))) → K [.own r'.d, .dat (.int R), .dat (.int m), .own (cs.map .int ++ [.int c]), x', .dat (.int w), .dat (.int (0 + (i : Nat))), a1, a2, .emp, .emp] := by
      intro c r' st' x' a1 a2 hcc o' hs hx'
      refine k _ ⟨r', cs ++ [c], st', x', _, _, _, (by simp only [List.map_append]; rfl), ⟨hx', hs, by simp; omega, fun z hz => ?_, o'⟩⟩
      rcases List.mem_append.mp hz with hz | hz
      · exact hc z hz
      · simp at hz; subst hz; omega
    refine dg_i rfl (dSeq.mk (And.intro rfl (And.intro rfl (br_split (b := PyData.eqv (.int w) (.int 0)) (fun _ => dSeq.mk ?_) fun _ => dSeq.mk ?_))))
    · refine use_draw (m := 3) o (by omega) (by decide) (by decide) fun v r3 v0 v1 o3 => ?_
      obtain ⟨c, ec, hcc⟩ := three_of v0 v1
      exact wO_i ec (And.intro cl (add c r3 st x _ _ hcc o3 hst hx))
    · refine dSeq.mk ?_
      refine for_disp (([1, 0, -1] : List Int).map fun c => .dat (.int c)) _ (fun Q h => h) ?_
      refine for_pre (α := Int) [1, 0, -1] (fun c => .dat (.int c)) (fun pre ρ => ∃ (ws : List (Int × List Int)) (x_change : T), ρ = [.own r.d, .dat (.int R), .dat (.int m), .own (cs.map .int), x, .dat (.int w), .dat (.int (0 + (i : Nat))), .own (ws.map nextD), x_change, .emp, .emp] ∧ (∀ z ∈ ws, (z.1 = 1 ∨ z.1 = 0 ∨ z.1 = -1) ∧ z.2.length = R.toNat) ∧ ws.length ≤ 1000 * pre.length ∧ ((if st.length = 1 then 0 else 1) ∈ pre → ws ≠ [])) ⟨[], _, rfl, ⟨by simp, by simp, by simp⟩⟩ (fun pre c post ρ K2 eq hp k2 => ?_) (fun ρ hp => ?_)
      · obtain ⟨ws, x_change, rfl, ⟨hw, hwl, hwn⟩⟩ := hp
        have hcc : c = 1 ∨ c = 0 ∨ c = -1 := by
          have : c ∈ ([1, 0, -1] : List Int) := by rw [eq]; simp
          simpa using this
        have hpl : pre.length ≤ 3 := by have := congrArg List.length eq; simp at this; omega
        rcases hx with rfl | rfl
        all_goals
          refine dg_i rfl (use_next (st := st) (c := c) (by omega) (by omega) fun zs hz1 hz2 hz3 => ?_)
          show dLcGo _ _ _ _ _ ((zs.map nextD).map T.dat) _ _
          rw [List.map_map]
          refine lc_mp2 (ρ := [.own r.d, .dat (.int R), .dat (.int m), .own (cs.map .int), _, .dat (.int w), .dat (.int (0 + (i : Nat))), .own (ws.map nextD), .dat (.int c), .emp, .emp]) zs _ (fun z => .dat (.int z.1)) (fun z => .dat (.list (z.2.map .int))) (fun z => nextD (c, z.2)) rfl (by decide) (Nat.le_trans (by omega : _ ≤ 1000) (by decide)) (fun _ _ => ⟨rfl, rfl, rfl, rfl⟩) (fun z hz P hP => hP _ rfl) ?_
          refine And.intro (a := (ws.map nextD).length + (zs.map fun z => nextD (c, z.2)).length ≤ sizeLine) (by rw [List.length_map, List.length_map]; exact Nat.le_trans (by omega : _ ≤ 5000) (by decide)) (k2 _ ?_)
          have ee : ws.map nextD ++ (zs.map fun z => nextD (c, z.2)) = (ws ++ zs.map fun z => (c, z.2)).map nextD := by rw [List.map_append, List.map_map]; rfl
          rw [ee]
          refine ⟨_, _, rfl, ⟨fun z hz => ?_, ?_, fun hm => ?_⟩⟩
          · rcases List.mem_append.mp hz with hz | hz
            · exact hw z hz
            · obtain ⟨y, hy, rfl⟩ := List.mem_map.mp hz
              exact ⟨hcc, by rw [← hst]; exact hz1 y hy⟩
          · simp only [List.length_append, List.length_map, List.length_singleton]; omega
          · rcases List.mem_append.mp hm with hm | hm
            · have := hwn hm; simp [this]
            · have : zs ≠ [] := hz3 (List.mem_singleton.mp hm).symm
              simp [this]
      · obtain ⟨ws, x_change, rfl, ⟨hw, hwl, hwn⟩⟩ := hp
        have hne : ws ≠ [] := hwn (by split <;> simp)
        have wl : 0 < ws.length := List.length_pos_iff.mpr hne
        have hwl : ws.length ≤ 3000 := by simpa using hwl
        have lm : ((ws.map nextD).length : Int) = ws.length := by rw [List.length_map]
        refine dSeq.mk (use_draw (m := ((ws.map nextD).length : Int)) o (by omega) (by omega) (by omega) fun v r3 v0 v1 o3 => ?_)
        obtain ⟨v, rfl⟩ : ∃ k : Nat, v = (k : Int) := ⟨v.toNat, by omega⟩
        have hv : v < ws.length := by omega
        have eg : gI (ws.map nextD) (v : Int) = some (nextD ws[v]) := by rw [gI_nat rfl, List.getElem?_map, List.getElem?_eq_getElem hv]; rfl
        obtain ⟨h1, h2⟩ := hw ws[v] (List.getElem_mem hv)
        refine wO_i (o := gI (ws.map nextD) (v : Int)) eg (And.intro rfl (And.intro cl ?_))
        exact add ws[v].1 r3 ws[v].2 _ _ _ h1 o3 h2 (.inr rfl)
  · obtain ⟨r, cs, st, x, x_read, x_some, x_change, rfl, ⟨hx, hst, hl, hc, o⟩⟩ := p
    rw [rngT_len] at hl o
    exact q cs r (by omega) hc (o.mono (by omega))

def sp__law_far : DSp := fun ts Q _ => ∃ (r : Spr) (R many most : Int) (b : Nat), ts = [.own r.d, .dat (.int R), .dat (.int many), .dat (.int most)] ∧ r.Ok b ∧ b < 2 ^ 59 ∧ 3 ≤ R ∧ R < 2 ^ 130 ∧ 0 ≤ many ∧ many ≤ 400 ∧ 1 ≤ most ∧ most ≤ (1000000000000000000000000000000 : Int) ∧
  ∀ (rs : List (Int × Int)) (r' : Spr), Runs many.toNat most rs → r'.Ok (b + 1 + 4 * many.toNat) → Q (.own (rs.map drun)) (.own r'.d)
theorem mono__law_far : Mono sp__law_far := fun ts R R' W W' hr _ ⟨r, a, m, o, b, e, h1, h2, h3, h4, h5, h6, h7, h8, q⟩ => ⟨r, a, m, o, b, e, h1, h2, h3, h4, h5, h6, h7, h8, fun cs r' a b => hr _ _ (q cs r' a b)⟩
theorem use_far {r : Spr} {R many most : Int} {b : Nat} {Q : T → T → Prop} {W : Exn → T → Prop} (o : r.Ok b) (hb : b < 2 ^ 59) (R1 : 3 ≤ R) (R2 : R < 2 ^ 130) (m0 : 0 ≤ many) (m1 : many ≤ 400) (t0 : 1 ≤ most) (t1 : most ≤ (1000000000000000000000000000000 : Int)) (q : ∀ (rs : List (Int × Int)) (r' : Spr), Runs many.toNat most rs → r'.Ok (b + 1 + 4 * many.toNat) → Q (.own (rs.map drun)) (.own r'.d)) :
    Spc sp__law_far [.own r.d, .dat (.int R), .dat (.int many), .dat (.int most)] Q W := ⟨⟨r, R, many, most, b, rfl, o, hb, R1, R2, m0, m1, t0, t1, q⟩⟩

def ms__law_far : List Md := [.lend, .dat, .dat, .dat]
def dn__law_far (Wd : Exn → List T → Prop) : DS := (dSeq (dPar (dCons (dLst dNil) (dCons (dLst (dCons (dC (.int 0)) (dCons (dC (.int 0)) (dCons (dC (.int 0)) dNil)))) dNil)) (dgCons (dgName 4) (dgCons (dgName 5) dgNil)))
    (dSeq (dForS (dRange1 (dCons (dCall ms__law_draw sp__law_draw Wd (dCons (dVar 0) (dCons (dOp dAdd (dVar 2) (dC (.int 1))) dNil))) dNil)) (dgName 6) (dSeq (dAsg (dOp dIx (dLst (dCons (dC (.int 1)) (dCons (dC (.int 0)) (dCons (dUn dNeg (dC (.int 1))) dNil)))) (dCall ms__law_draw sp__law_draw Wd (dCons (dVar 0) (dCons (dC (.int 3)) dNil)))) (dgName 7))
    (dSeq (dAsg (dOp dIx (dLst (dCons (dVarF 3) (dCons (dOp dSub (dOp dMul (dOp dSub (dVar 1) (dC (.int 2))) (dOp dIx (dVar 5) (dC (.int 0)))) (dOp dIx (dVar 5) (dC (.int 1)))) (dCons (dOp dSub (dOp dFdiv (dOp dIx (dVar 5) (dC (.int 1))) (dOp dSub (dVar 1) (dC (.int 2)))) (dOp dIx (dVar 5) (dC (.int 2)))) dNil)))) (dOp dSub (dC (.int 1)) (dVar 7))) (dgName 8))
    (dSeq (dAsg (dCB dMin2 (dCons (dVar 8) (dCons (dVar 3) dNil))) (dgName 8))
    (dSeq (dIfS ((dOrT (tVal (dOp dLt (dVar 8) (dC (.int 1)))) ((dAndT (tVal (dOp dNe (dVar 4) (dLst dNil))) (tVal (dOp dEq (dOp dIx (dOp dIx (dVar 4) (dUn dNeg (dC (.int 1)))) (dC (.int 0))) (dVar 7))))))) dCont dNext)
    (dSeq (dAsg (dOp dIx (dLst (dCons (dOp dAdd (dC (.int 1)) (dCall ms__law_draw sp__law_draw Wd (dCons (dVar 0) (dCons (dVarF 8) dNil)))) (dCons (dVarF 8) (dCons (dOp dAdd (dC (.int 1)) (dCall ms__law_draw sp__law_draw Wd (dCons (dVar 0) (dCons (dCB dMin2 (dCons (dVar 8) (dCons (dC (.int 3)) dNil))) dNil)))) dNil)))) (dCall ms__law_draw sp__law_draw Wd (dCons (dVar 0) (dCons (dC (.int 3)) dNil)))) (dgName 9))
    (dSeq (dDrop (dLm 4 lmAppend (dCons (dTup (dCons (dVarF 7) (dCons (dVarF 9) dNil))) dNil)))
    (dSeq (dAsg (dOp dSub (dC (.int 1)) (dVar 7)) (dgName 10))
    (dAsg (dOp dAdd (dOp dIx (dVar 5) (dVar 10)) (dVar 9)) (dSetIx 5 (dVar 10)))))))))))
    (dRet (dVarM 4))))
abbrev st__law_far : Stmt := PySem.Challenge.pw_teesizes_k15_obstructions_judged.main.body.getD 33 (.Pass ⟨0, 0, 0, 0⟩)
abbrev N__law_far : List Str := ["spring", "readers", "many", "most", "found", "totals", "turn", "change", "room", "count", "spot"]
theorem sc__law_far : FnScope N__law_far ["spring", "readers", "many", "most"] (defScope st__law_far) := ⟨rfl, rfl, rfl, by decide +kernel, rfl, by decide +kernel, by decide +kernel⟩
theorem dp__law_far {P : Program} {w : World} {K : PySem.W.Frag} {mg : Str → Option Value} {base : Heap} {f : Addr} {cdv : Value} {A : Around} {os : List Env} {s : Shared} {H : Hp} {E : XK} {Wd : Exn → List T → Prop} {B0 : Addr → Prop} {o : List Addr} {vs : List V} (n_min : mg "min" = none) (n_range : mg "range" = none) (h__law_draw : Has P w K mg base "_law_draw" 1 ["spring", "many"] ms__law_draw sp__law_draw)
    (hr : RoomG 1 (A.deeper (PyProof.Rows.envOfC "_law_far" (defScope st__law_far) s.heap.objs.size f cdv))) (tk : DTk (ctxOf P w K mg base N__law_far "_law_far" (defScope st__law_far) f cdv A os s H E Wd B0 o (some 0) vs [])) :
    DPSs (ctxOf P w K mg base N__law_far "_law_far" (defScope st__law_far) f cdv A os s H E Wd B0 o (some 0) vs []) (defBody st__law_far) (dn__law_far Wd) :=
  have S := sc__law_far
  (dss_cons (ds_par (i := 4) (j := 5) rfl S.nd rfl rfl rfl rfl rfl (nin_of rfl) (nin_of rfl) (da_cons (de_lst da_nil) (da_cons (de_lst (da_cons de_int (da_cons de_int (da_cons de_int da_nil)))) da_nil)))
    (dss_cons (ds_for (passes_of rfl) rfl (di_range1 rfl n_range (da_cons (de_fn h__law_draw hr (by decide) tk rfl (da_cons (de_var 0 (nin_of rfl)) (da_cons (de_add (de_var 2 (nin_of rfl)) de_int) da_nil))) da_nil)) (dg_name S.nd (i := 6) rfl (Or.inl rfl) (nin_of rfl)) (dss_cons (ds_set S.nd (i := 7) rfl (Or.inl rfl) (nin_of rfl) (de_ix (de_lst (da_cons de_int (da_cons de_int (da_cons (de_neg de_int) da_nil)))) (de_fn h__law_draw hr (by decide) tk rfl (da_cons (de_var 0 (nin_of rfl)) (da_cons de_int da_nil)))))
    (dss_cons (ds_set S.nd (i := 8) rfl (Or.inl rfl) (nin_of rfl) (de_ix (de_lst (da_cons (de_varF 3) (da_cons (de_sub (de_mul (de_sub (de_var 1 (nin_of rfl)) de_int) (de_ix (de_var 5 (nin_of rfl)) de_int)) (de_ix (de_var 5 (nin_of rfl)) de_int)) (da_cons (de_sub (de_fdiv (de_ix (de_var 5 (nin_of rfl)) de_int) (de_sub (de_var 1 (nin_of rfl)) de_int)) (de_ix (de_var 5 (nin_of rfl)) de_int)) da_nil)))) (de_sub de_int (de_var 7 (nin_of rfl)))))
    (dss_cons (ds_set S.nd (i := 8) rfl (Or.inl rfl) (nin_of rfl) (de_min2 rfl n_min rfl (da_cons (de_var 8 (nin_of rfl)) (da_cons (de_var 3 (nin_of rfl)) da_nil))))
    (dss_cons (ds_if (DPW.t (dw_or (dt_cmpD dc_lt (de_var 8 (nin_of rfl)) de_int) (dw_or1 (DPW.t (dw_and (dt_cmpD (dc_ne hr.units) (de_var 4 (nin_of rfl)) (de_lst da_nil)) (dw_and1 (dt_cmpD (dc_eq hr.units) (de_ix (de_ix (de_var 4 (nin_of rfl)) (de_neg de_int)) de_int) (de_var 7 (nin_of rfl))))))))) (dss_one ds_cont) dss_nil)
    (dss_cons (ds_set S.nd (i := 9) rfl (Or.inl rfl) (nin_of rfl) (de_ix (de_lst (da_cons (de_add de_int (de_fn h__law_draw hr (by decide) tk rfl (da_cons (de_var 0 (nin_of rfl)) (da_cons (de_varF 8) da_nil)))) (da_cons (de_varF 8) (da_cons (de_add de_int (de_fn h__law_draw hr (by decide) tk rfl (da_cons (de_var 0 (nin_of rfl)) (da_cons (de_min2 rfl n_min rfl (da_cons (de_var 8 (nin_of rfl)) (da_cons de_int da_nil))) da_nil)))) da_nil)))) (de_fn h__law_draw hr (by decide) tk rfl (da_cons (de_var 0 (nin_of rfl)) (da_cons de_int da_nil)))))
    (dss_cons (ds_expr (de_lm 4 PySem.F.slot_list_append PySem.F.type_list_append mt_append sl_append rfl (by first | exact Or.inl rfl | exact Or.inr (Or.inl rfl) | exact Or.inr (Or.inr rfl)) (da_cons (de_tup (da_cons (de_varF 7) (da_cons (de_varF 9) da_nil))) da_nil)))
    (dss_cons (ds_set S.nd (i := 10) rfl (Or.inl rfl) (nin_of rfl) (de_sub de_int (de_var 7 (nin_of rfl))))
    (dss_one (ds_asg (de_add (de_ix (de_var 5 (nin_of rfl)) (de_var 10 (nin_of rfl))) (de_var 9 (nin_of rfl))) (dg_setIx 5 rfl (Or.inl rfl) (de_var 10 (nin_of rfl)))))))))))))
    (dss_one (ds_ret (de_varM 4)))))
theorem law__law_far (ts : List T) (Q : T → T → Prop) (W : Exn → T → Prop) (h : sp__law_far ts Q W) : dn__law_far (finX (some 0) W) (fin0 (some 0) Q) (slots0 11 ts) := by
  obtain ⟨r, R, many, most, b, rfl, o, hb, R1, R2, m0, m1, t0, t1, q⟩ := h
  refine dSeq.mk (dSeq.mk ?_)
  refine use_draw (m := many + 1) o (by omega) (by omega) (by omega) fun n r2 n0 n1 o2 => ?_
  refine And.intro (a := -(2 ^ 62) ≤ n ∧ n < 2 ^ 62) (by omega) ?_
  refine dFor_inv (fun i ρ => ∃ (r : Spr) (rs : List (Int × Int)) (u z d : Int) (x_turn x_change x_room x_count x_spot : T), ρ = [.own r.d, .dat (.int R), .dat (.int many), .dat (.int most), .own (rs.map drun), .own [.int u, .int z, .int d], x_turn, x_change, x_room, x_count, x_spot] ∧ Runs i most rs ∧ (0 ≤ u ∧ u ≤ i * (1000000000000000000000000000000 : Int)) ∧ (0 ≤ z ∧ z ≤ i * (1000000000000000000000000000000 : Int)) ∧ (0 ≤ d ∧ d ≤ i * (1000000000000000000000000000000 : Int)) ∧ r.Ok (b + 1 + 4 * i)) ⟨r2, [], 0, 0, 0, _, _, _, _, _, rfl, ⟨.nil, by omega, by omega, by omega, o2⟩⟩ (fun i t ρ K et p k => ?_) (fun ρ p => ?_)
  · obtain ⟨r, rs, u, z, d, x_turn, x_change, x_room, x_count, x_spot, rfl, ⟨hr, hu, hz, hd, o⟩⟩ := p
    obtain ⟨hi, rfl⟩ := rngT_get et
    have im : i < 400 := by omega
    have skip : ∀ (r' : Spr) (a1 a2 a3 a4 a5 : T), r'.Ok (b + 1 + 4 * (i + 1)) → K [.own r'.d, .dat (.int R), .dat (.int many), .dat (.int most), .own (rs.map drun), .own [.int u, .int z, .int d], a1, a2, a3, a4, a5] := fun r' a1 a2 a3 a4 a5 o' =>
      k _ ⟨r', rs, u, z, d, _, _, _, _, _, rfl, ⟨hr.mono (by omega) (Int.le_refl _), by omega, by omega, by omega, o'⟩⟩
    have put : ∀ (r' : Spr) (c n u' z' d' : Int) (a1 a2 a3 a4 a5 : T), r'.Ok (b + 1 + 4 * (i + 1)) → (∀ a, rs.getLast? = some a → a.1 ≠ c) → (c = 1 ∨ c = 0 ∨ c = -1) → 1 ≤ n → n ≤ most → (u ≤ u' ∧ u' ≤ u + n) → (z ≤ z' ∧ z' ≤ z + n) → (d ≤ d' ∧ d' ≤ d + n) → K [.own r'.d, .dat (.int R), .dat (.int many), .dat (.int most), .own (rs.map drun ++ [drun (c, n)]), .own [.int u', .int z', .int d'], a1, a2, a3, a4, a5] := by
      intro r' c n u' z' d' a1 a2 a3 a4 a5 o' hl hc n1 n2 h1 h2 h3
      refine k _ ?_
      have e : rs.map drun ++ [drun (c, n)] = (rs ++ [(c, n)]).map drun := by rw [List.map_append]; rfl
      rw [e]
      exact ⟨r', _, u', z', d', _, _, _, _, _, rfl, ⟨hr.snoc hl (by omega) (by omega) n1 n2, by omega, by omega, by omega, o'⟩⟩
    refine dg_i rfl (dSeq.mk (use_draw (m := 3) o (by omega) (by decide) (by decide) fun v r3 v0 v1 o3 => ?_))
    obtain ⟨c, ec, hc⟩ := three_of v0 v1
    refine wO_i ec (dSeq.mk ?_)
    have lR : (R - 2).natAbs.log2 < 130 := log2_lt (by omega) (by omega) (by decide)
    refine And.intro (a := CMulW (R - 2) u) (mul_ok (a := 130) (b := 120) lR (log2_lt (by omega) (by omega) (by decide)) (by decide)) ?_
    refine And.intro (a := CDivW z (R - 2)) ⟨by omega, by omega⟩ ?_
    obtain ⟨x, ex⟩ : ∃ x : Int, gI [PyData.int most, .int ((R - 2) * u - z), .int (z / (R - 2) - d)] (1 - c) = some (.int x) := by
      rcases hc with rfl | rfl | rfl
      · exact ⟨_, rfl⟩
      · exact ⟨_, rfl⟩
      · exact ⟨_, rfl⟩
    refine wO_i ex (dSeq.mk ?_)
    obtain ⟨y, ey⟩ : ∃ y : Int, y = if most < x then most else x := ⟨_, rfl⟩
    have ym : y ≤ most := by rw [ey]; split <;> omega
    refine seq_at [.own r3.d, .dat (.int R), .dat (.int many), .dat (.int most), .own (rs.map drun), .own [.int u, .int z, .int d], .dat (.int (0 + (i : Nat))), .dat (.int c), .dat (.int y), x_count, x_spot] (by rw [ey]; rfl) ?_
    have lz : (rs.map drun).length < sizeLine := by rw [List.length_map]; exact Nat.lt_of_lt_of_le (by have := hr.len; omega : _ < 401) (by decide)
    have rest : 1 ≤ y → (∀ a, rs.getLast? = some a → a.1 ≠ c) → ∀ (D : DEnds), D.nx = K → dSeq (dAsg (dOp dIx (dLst (dCons (dOp dAdd (dC (.int 1)) (dCall ms__law_draw sp__law_draw (finX (some 0) W) (dCons (dVar 0) (dCons (dVarF 8) dNil)))) (dCons (dVarF 8) (dCons (dOp dAdd (dC (.int 1)) (dCall ms__law_draw sp__law_draw (finX (some 0) W) (dCons (dVar 0) (dCons (dCB dMin2 (dCons (dVar 8) (dCons (dC (.int 3)) dNil))) dNil)))) dNil)))) (dCall ms__law_draw sp__law_draw (finX (some 0) W) (dCons (dVar 0) (dCons (dC (.int 3)) dNil)))) (dgName 9))
        (dSeq (dDrop (dLm 4 lmAppend (dCons (dTup (dCons (dVarF 7) (dCons (dVarF 9) dNil))) dNil)))
        (dSeq (dAsg (dOp dSub (dC (.int 1)) (dVar 7)) (dgName 10))
        (dAsg (dOp dAdd (dOp dIx (dVar 5) (dVar 10)) (dVar 9)) (dSetIx 5 (dVar 10))))) D [.own r3.d, .dat (.int R), .dat (.int many), .dat (.int most), .own (rs.map drun), .own [.int u, .int z, .int d], .dat (.int (0 + (i : Nat))), .dat (.int c), .dat (.int y), x_count, x_spot] := by
      intro y1 hl D hD
      refine dSeq.mk (use_draw (m := y) o3 (by omega) (by omega) (by omega) fun a r4 a0 a1 o4 => ?_)
      refine use_draw (m := if (3 : Int) < y then 3 else y) o4 (by omega) (by split <;> omega) (by split <;> omega) fun e r5 e0 e1 o5 => ?_
      refine use_draw (m := 3) o5 (by omega) (by decide) (by decide) fun w r6 w0 w1 o6 => ?_
      obtain ⟨n, en, n1, n2⟩ : ∃ n : Int, gI [PyData.int (1 + a), .int y, .int (1 + e)] w = some (.int n) ∧ 1 ≤ n ∧ n ≤ y := by
        rcases (by omega : w = 0 ∨ w = 1 ∨ w = 2) with rfl | rfl | rfl
        · exact ⟨_, rfl, by omega, by omega⟩
        · exact ⟨_, rfl, by omega, by omega⟩
        · refine ⟨_, rfl, by omega, ?_⟩
          split at e1 <;> omega
      refine wO_i en (dSeq.mk (And.intro lz (dSeq.mk ?_)))
      rcases hc with rfl | rfl | rfl
      · show D.nx _
        rw [hD]
        exact put r6 1 n (u + n) z d _ _ _ _ _ o6 hl (.inl rfl) n1 (by omega) (by omega) (by omega) (by omega)
      · show D.nx _
        rw [hD]
        exact put r6 0 n u (z + n) d _ _ _ _ _ o6 hl (.inr (.inl rfl)) n1 (by omega) (by omega) (by omega) (by omega)
      · show D.nx _
        rw [hD]
        exact put r6 (-1) n u z (d + n) _ _ _ _ _ o6 hl (.inr (.inr rfl)) n1 (by omega) (by omega) (by omega) (by omega)
    refine br_dec (c := y < 1) (fun _ => br_t rfl (skip _ _ _ _ _ _ (o3.mono (by omega)))) fun y1 => ?_
    refine And.intro ((lay_runs rs).shaped (by decide)) (And.intro rfl (br_split (b := !PyData.eqv (.list (rs.map drun)) (.list [])) (fun e => ?_) fun e => ?_))
    · obtain ⟨p, hq⟩ := last_run (by simpa using e)
      refine wO_i (o := gI (rs.map drun) (-1)) (gI_run hq) (And.intro rfl (And.intro rfl (br_split (b := PyData.eqv (.int p.1) (.int c)) (fun e2 => ?_) fun e2 => ?_)))
      · exact skip _ _ _ _ _ _ (o3.mono (by omega))
      · rw [eqv_int] at e2
        exact rest (by omega) (fun a ha => by rw [hq] at ha; cases ha; simpa using e2) _ rfl
    · have e0 : rs = [] := nil_run (by simpa using e)
      exact br_f rfl (rest (by omega) (fun a ha => by rw [e0] at ha; simp at ha) _ rfl)
  · obtain ⟨r, rs, u, z, d, x_turn, x_change, x_room, x_count, x_spot, rfl, ⟨hr, hu, hz, hd, o⟩⟩ := p
    rw [rngT_len] at hr o
    exact q rs r (hr.mono (by omega) (Int.le_refl _)) (o.mono (by omega))

def tkF (rs : List (Int × Int)) (n : Int) : List D := [.int (cntF 1 rs n), .int (cntF 0 rs n), .int (cntF (-1) rs n)]
def sp__law_totals : DSp := fun ts Q _ => ∃ (rs : List (Int × Int)) (n : Int), ts = [.bor (.list (rs.map drun)), .dat (.int n)] ∧ (∀ p ∈ rs, -1 ≤ p.1 ∧ p.1 ≤ 1) ∧ Q (.own (tkF rs n)) .emp
theorem mono__law_totals : Mono sp__law_totals := fun ts R R' W W' hr _ ⟨cs, n, e, h, q⟩ => ⟨cs, n, e, h, hr _ _ q⟩
theorem use_totals {rs : List (Int × Int)} {n : Int} {Q : T → T → Prop} {W : Exn → T → Prop} (h : ∀ p ∈ rs, -1 ≤ p.1 ∧ p.1 ≤ 1) (q : Q (.own (tkF rs n)) .emp) : Spc sp__law_totals [.bor (.list (rs.map drun)), .dat (.int n)] Q W := ⟨⟨rs, n, rfl, h, q⟩⟩

def ms__law_totals : List Md := [.bor, .dat]
def dn__law_totals (Wd : Exn → List T → Prop) : DS := (dSeq (dPar (dCons (dLst (dCons (dC (.int 0)) (dCons (dC (.int 0)) (dCons (dC (.int 0)) dNil)))) (dCons (dVarF 1) dNil)) (dgCons (dgName 2) (dgCons (dgName 3) dgNil)))
    (dSeq (dForS (dSeqI (dVarF 0)) (dgTup 2 (dgCons (dgName 4) (dgCons (dgName 5) dgNil))) (dSeq (dAsg (dOp dSub (dC (.int 1)) (dVar 4)) (dgName 6))
    (dSeq (dAsg (dOp dAdd (dOp dIx (dVar 2) (dVar 6)) (dCB dMax2 (dCons (dC (.int 0)) (dCons (dCB dMin2 (dCons (dVar 5) (dCons (dVar 3) dNil))) dNil)))) (dSetIx 2 (dVar 6)))
    (dAsg (dOp dSub (dVar 3) (dVar 5)) (dgName 3)))))
    (dRet (dVarM 2))))
abbrev st__law_totals : Stmt := PySem.Challenge.pw_teesizes_k15_obstructions_judged.main.body.getD 34 (.Pass ⟨0, 0, 0, 0⟩)
abbrev N__law_totals : List Str := ["record", "number", "found", "left", "change", "count", "spot"]
theorem sc__law_totals : FnScope N__law_totals ["record", "number"] (defScope st__law_totals) := ⟨rfl, rfl, rfl, by decide +kernel, rfl, by decide +kernel, by decide +kernel⟩
theorem dp__law_totals {P : Program} {w : World} {K : PySem.W.Frag} {mg : Str → Option Value} {base : Heap} {f : Addr} {cdv : Value} {A : Around} {os : List Env} {s : Shared} {H : Hp} {E : XK} {Wd : Exn → List T → Prop} {B0 : Addr → Prop} {o : List Addr} {vs : List V} (n_max : mg "max" = none) (n_min : mg "min" = none)
    (hr : RoomG 0 (A.deeper (PyProof.Rows.envOfC "_law_totals" (defScope st__law_totals) s.heap.objs.size f cdv))) (tk : DTk (ctxOf P w K mg base N__law_totals "_law_totals" (defScope st__law_totals) f cdv A os s H E Wd B0 o none vs [])) :
    DPSs (ctxOf P w K mg base N__law_totals "_law_totals" (defScope st__law_totals) f cdv A os s H E Wd B0 o none vs []) (defBody st__law_totals) (dn__law_totals Wd) :=
  have S := sc__law_totals
  (dss_cons (ds_par (i := 2) (j := 3) rfl S.nd rfl rfl rfl rfl rfl (nin_of rfl) (nin_of rfl) (da_cons (de_lst (da_cons de_int (da_cons de_int (da_cons de_int da_nil)))) (da_cons (de_varF 1) da_nil)))
    (dss_cons (ds_for (passes_of rfl) rfl (di_seq (de_varF 0)) (dg_tup rfl (dgs_cons (dg_name S.nd (i := 4) rfl (Or.inl rfl) (nin_of rfl)) (dgs_cons (dg_name S.nd (i := 5) rfl (Or.inl rfl) (nin_of rfl)) dgs_nil))) (dss_cons (ds_set S.nd (i := 6) rfl (Or.inl rfl) (nin_of rfl) (de_sub de_int (de_var 4 (nin_of rfl))))
    (dss_cons (ds_asg (de_add (de_ix (de_var 2 (nin_of rfl)) (de_var 6 (nin_of rfl))) (de_max2 rfl n_max rfl (da_cons de_int (da_cons (de_min2 rfl n_min rfl (da_cons (de_var 5 (nin_of rfl)) (da_cons (de_var 3 (nin_of rfl)) da_nil))) da_nil)))) (dg_setIx 2 rfl (Or.inl rfl) (de_var 6 (nin_of rfl))))
    (dss_one (ds_set S.nd (i := 3) rfl (Or.inl rfl) (nin_of rfl) (de_sub (de_var 3 (nin_of rfl)) (de_var 5 (nin_of rfl))))))))
    (dss_one (ds_ret (de_varM 2)))))
theorem tkF_nil (n : Int) : tkF [] n = [.int 0, .int 0, .int 0] := rfl
theorem tkF_snoc (pre : List (Int × Int)) (p : Int × Int) (n : Int) (c : Int) : cntF c (pre ++ [p]) n = cntF c pre n + if p.1 = c then cutN p.2 (n - totR pre) else 0 := by rw [cntF_append, cntF_one]
theorem law__law_totals (ts : List T) (Q : T → T → Prop) (W : Exn → T → Prop) (h : sp__law_totals ts Q W) : dn__law_totals (finX none W) (fin0 none Q) (slots0 7 ts) := by
  obtain ⟨rs, n, rfl, hc, q⟩ := h
  refine dSeq.mk (dSeq.mk ?_)
  show dFor _ _ _ ((rs.map drun).map T.bor) _
  rw [List.map_map]
  refine for_pre rs _ (fun pre ρ => ∃  (x_change x_count x_spot : T), ρ = [.bor (.list (rs.map drun)), .dat (.int n), .own (tkF pre n), .dat (.int (n - totR pre)), x_change, x_count, x_spot]) (by rw [show n - totR [] = n by rw [totR_nil]; omega]; exact ⟨_, _, _, rfl⟩) (fun pre p post ρ K e hp k => ?_) (fun ρ p => ?_)
  · obtain ⟨x_change, x_count, x_spot, rfl⟩ := hp
    have hp1 := hc p (by rw [e]; simp)
    obtain ⟨pc, pn⟩ := p
    dsimp only at hp1
    have el : n - totR (pre ++ [(pc, pn)]) = n - totR pre - pn := by rw [totR_append, totR_one]; omega
    have kk := k
    unfold tkF at kk ⊢
    rw [el] at kk
    simp only [tkF_snoc] at kk
    refine And.intro rfl (dSeq.mk ?_)
    rcases (by omega : pc = 1 ∨ pc = 0 ∨ pc = -1) with rfl | rfl | rfl
    · exact dSeq.mk (kk _ (by simp only [Int.reduceEq, if_true, if_false, Int.add_zero]; exact ⟨_, _, _, rfl⟩))
    · exact dSeq.mk (kk _ (by simp only [Int.reduceEq, if_true, if_false, Int.add_zero]; exact ⟨_, _, _, rfl⟩))
    · exact dSeq.mk (kk _ (by simp only [Int.reduceEq, if_true, if_false, Int.add_zero]; exact ⟨_, _, _, rfl⟩))
  · obtain ⟨x_change, x_count, x_spot, rfl⟩ := p
    exact q

def sp__law_ends : DSp := fun ts Q _ => ∃ rs : List (Int × Int), ts = [.bor (.list (rs.map drun))] ∧ rs.length ≤ 1000000 ∧ Q (.own ((endsR rs).map .int)) .emp
theorem mono__law_ends : Mono sp__law_ends := fun ts R R' W W' hr _ ⟨cs, e, h, q⟩ => ⟨cs, e, h, hr _ _ q⟩
theorem use_ends {rs : List (Int × Int)} {Q : T → T → Prop} {W : Exn → T → Prop} (h : rs.length ≤ 1000000) (q : Q (.own ((endsR rs).map .int)) .emp) : Spc sp__law_ends [.bor (.list (rs.map drun))] Q W := ⟨⟨rs, rfl, h, q⟩⟩

def ms__law_ends : List Md := [.bor]
def dn__law_ends (Wd : Exn → List T → Prop) : DS := (dSeq (dAsg (dLst (dCons (dC (.int 0)) dNil)) (dgName 1))
    (dSeq (dForS (dSeqI (dVarF 0)) (dgTup 2 (dgCons (dgName 2) (dgCons (dgName 3) dgNil))) (dDrop (dLm 1 lmAppend (dCons (dOp dAdd (dOp dIx (dVar 1) (dUn dNeg (dC (.int 1)))) (dVar 3)) dNil))))
    (dRet (dVarM 1))))
abbrev st__law_ends : Stmt := PySem.Challenge.pw_teesizes_k15_obstructions_judged.main.body.getD 35 (.Pass ⟨0, 0, 0, 0⟩)
abbrev N__law_ends : List Str := ["record", "found", "change", "count"]
theorem sc__law_ends : FnScope N__law_ends ["record"] (defScope st__law_ends) := ⟨rfl, rfl, rfl, by decide +kernel, rfl, by decide +kernel, by decide +kernel⟩
theorem dp__law_ends {P : Program} {w : World} {K : PySem.W.Frag} {mg : Str → Option Value} {base : Heap} {f : Addr} {cdv : Value} {A : Around} {os : List Env} {s : Shared} {H : Hp} {E : XK} {Wd : Exn → List T → Prop} {B0 : Addr → Prop} {o : List Addr} {vs : List V} 
    (hr : RoomG 0 (A.deeper (PyProof.Rows.envOfC "_law_ends" (defScope st__law_ends) s.heap.objs.size f cdv))) (tk : DTk (ctxOf P w K mg base N__law_ends "_law_ends" (defScope st__law_ends) f cdv A os s H E Wd B0 o none vs [])) :
    DPSs (ctxOf P w K mg base N__law_ends "_law_ends" (defScope st__law_ends) f cdv A os s H E Wd B0 o none vs []) (defBody st__law_ends) (dn__law_ends Wd) :=
  have S := sc__law_ends
  (dss_cons (ds_set S.nd (i := 1) rfl (Or.inl rfl) (nin_of rfl) (de_lst (da_cons de_int da_nil)))
    (dss_cons (ds_for (passes_of rfl) rfl (di_seq (de_varF 0)) (dg_tup rfl (dgs_cons (dg_name S.nd (i := 2) rfl (Or.inl rfl) (nin_of rfl)) (dgs_cons (dg_name S.nd (i := 3) rfl (Or.inl rfl) (nin_of rfl)) dgs_nil))) (dss_one (ds_expr (de_lm 1 PySem.F.slot_list_append PySem.F.type_list_append mt_append sl_append rfl (by first | exact Or.inl rfl | exact Or.inr (Or.inl rfl) | exact Or.inr (Or.inr rfl)) (da_cons (de_add (de_ix (de_var 1 (nin_of rfl)) (de_neg de_int)) (de_var 3 (nin_of rfl))) da_nil)))))
    (dss_one (ds_ret (de_varM 1)))))
theorem gI_ends (rs : List (Int × Int)) : gI ((endsR rs).map PyData.int) (-1) = some (.int (totR rs)) := by rw [gI_last, List.getLast?_map, endsR_last]; rfl
theorem law__law_ends (ts : List T) (Q : T → T → Prop) (W : Exn → T → Prop) (h : sp__law_ends ts Q W) : dn__law_ends (finX none W) (fin0 none Q) (slots0 4 ts) := by
  obtain ⟨rs, rfl, hl, q⟩ := h
  refine dSeq.mk (dSeq.mk ?_)
  show dFor _ _ _ ((rs.map drun).map T.bor) _
  rw [List.map_map]
  refine for_pre rs _ (fun pre ρ => ∃  (x_change x_count : T), ρ = [.bor (.list (rs.map drun)), .own ((endsR pre).map .int), x_change, x_count]) ⟨_, _, rfl⟩ (fun pre p post ρ K e hp k => ?_) (fun ρ p => ?_)
  · obtain ⟨x_change, x_count, rfl⟩ := hp
    have hz : ((endsR pre).map PyData.int).length < sizeLine := by
      have h2 := congrArg List.length e
      simp only [List.length_append, List.length_cons] at h2
      rw [List.length_map, endsR_len]
      exact Nat.lt_of_lt_of_le (by omega : _ < 1000001) (by decide)
    refine And.intro rfl (wO_i (gI_ends pre) (And.intro hz (k _ ?_)))
    rw [endsR_snoc, totR_append, totR_one]
    exact ⟨_, _, (by simp only [List.map_append]; rfl)⟩
  · obtain ⟨x_change, x_count, rfl⟩ := p
    exact q

def four : List Str := [("single" : Str), ("two" : Str), ("few" : Str), ("many" : Str)]
def sp__law_holds : DSp := fun ts Q _ => ∃ (rs : List (Int × Int)) (R : Int) (w : Str) (n : Int), ts = [.bor (.list (rs.map drun)), .dat (.int R), .dat (.str w), .dat (.int n)] ∧ Runs 400 (1000000000000000000000000000000 : Int) rs ∧ 1 ≤ R ∧ R ≤ 1000000000000000000000000000000000000000 ∧ w ∈ four ∧ Q (.dat (.bool (obsP rs R (.str w) (.int n)))) .emp
theorem mono__law_holds : Mono sp__law_holds := fun ts R R' W W' hr _ ⟨rs, r, w, n, e, h1, h2, h3, h4, q⟩ => ⟨rs, r, w, n, e, h1, h2, h3, h4, hr _ _ q⟩
theorem use_holds {rs : List (Int × Int)} {R n : Int} {w : Str} {Q : T → T → Prop} {W : Exn → T → Prop} (h1 : Runs 400 (1000000000000000000000000000000 : Int) rs) (h2 : 1 ≤ R) (h3 : R ≤ 1000000000000000000000000000000000000000) (h4 : w ∈ four) (q : Q (.dat (.bool (obsP rs R (.str w) (.int n)))) .emp) :
    Spc sp__law_holds [.bor (.list (rs.map drun)), .dat (.int R), .dat (.str w), .dat (.int n)] Q W := ⟨⟨rs, R, w, n, rfl, h1, h2, h3, h4, q⟩⟩

def ms__law_holds : List Md := [.bor, .dat, .dat, .dat]
def dn__law_holds (Wd : Exn → List T → Prop) : DS := (dSeq (dAsg (dCall ms__law_totals sp__law_totals Wd (dCons (dVar 0) (dCons (dVarF 3) dNil))) (dgTup 3 (dgCons (dgName 4) (dgCons (dgName 5) (dgCons (dgName 6) dgNil)))))
    (dSeq (dIfS (dNotT (tVal (dChain (fun i j => decide (i ≤ j)) (fun i j => decide (i ≤ j)) (dC (.int 1)) (dVar 3) (dOp dIx (dCall ms__law_ends sp__law_ends Wd (dCons (dVar 0) dNil)) (dUn dNeg (dC (.int 1))))))) (dRet (dC (.bool false))) dNext)
    (dSeq (dIfS (tVal (dOp dEq (dVar 2) (dC (.str ("single" : Str))))) (dRet ((dAndV (dOp dEq (dVar 1) (dC (.int 1))) (dOp dGt (dOp dAdd (dVar 4) (dVar 6)) (dC (.int 0)))))) dNext)
    (dSeq (dIfS (tVal (dOp dEq (dVar 2) (dC (.str ("two" : Str))))) (dRet ((dAndV (dOp dEq (dVar 1) (dC (.int 2))) ((dOrV (dOp dGt (dVar 5) (dC (.int 0))) (dOp dGt (dVar 6) (dVar 4))))))) dNext)
    (dSeq (dIfS (tVal (dOp dEq (dVar 2) (dC (.str ("few" : Str))))) (dRet ((dAndV (dOp dGt (dVar 1) (dC (.int 2))) (dOp dGt (dVar 5) (dOp dMul (dOp dSub (dVar 1) (dC (.int 2))) (dVar 4)))))) dNext)
    (dRet ((dAndV (dOp dGt (dVar 1) (dC (.int 2))) (dOp dGt (dOp dMul (dOp dSub (dVar 1) (dC (.int 2))) (dVar 6)) (dVar 5))))))))))
abbrev st__law_holds : Stmt := PySem.Challenge.pw_teesizes_k15_obstructions_judged.main.body.getD 36 (.Pass ⟨0, 0, 0, 0⟩)
abbrev N__law_holds : List Str := ["record", "readers", "word", "number", "ups", "zeros", "downs"]
theorem sc__law_holds : FnScope N__law_holds ["record", "readers", "word", "number"] (defScope st__law_holds) := ⟨rfl, rfl, rfl, by decide +kernel, rfl, by decide +kernel, by decide +kernel⟩
theorem dp__law_holds {P : Program} {w : World} {K : PySem.W.Frag} {mg : Str → Option Value} {base : Heap} {f : Addr} {cdv : Value} {A : Around} {os : List Env} {s : Shared} {H : Hp} {E : XK} {Wd : Exn → List T → Prop} {B0 : Addr → Prop} {o : List Addr} {vs : List V} (h__law_ends : Has P w K mg base "_law_ends" 1 ["record"] ms__law_ends sp__law_ends) (h__law_totals : Has P w K mg base "_law_totals" 1 ["record", "number"] ms__law_totals sp__law_totals)
    (hr : RoomG 1 (A.deeper (PyProof.Rows.envOfC "_law_holds" (defScope st__law_holds) s.heap.objs.size f cdv))) (tk : DTk (ctxOf P w K mg base N__law_holds "_law_holds" (defScope st__law_holds) f cdv A os s H E Wd B0 o none vs [])) :
    DPSs (ctxOf P w K mg base N__law_holds "_law_holds" (defScope st__law_holds) f cdv A os s H E Wd B0 o none vs []) (defBody st__law_holds) (dn__law_holds Wd) :=
  have S := sc__law_holds
  (dss_cons (ds_asg (de_fn h__law_totals hr (by decide) tk rfl (da_cons (de_var 0 (nin_of rfl)) (da_cons (de_varF 3) da_nil))) (dg_tup rfl (dgs_cons (dg_name S.nd (i := 4) rfl (Or.inl rfl) (nin_of rfl)) (dgs_cons (dg_name S.nd (i := 5) rfl (Or.inl rfl) (nin_of rfl)) (dgs_cons (dg_name S.nd (i := 6) rfl (Or.inl rfl) (nin_of rfl)) dgs_nil)))))
    (dss_cons (ds_if (dt_not (dt_chain op_le op_le de_int (de_var 3 (nin_of rfl)) (de_ix (de_fn h__law_ends hr (by decide) tk rfl (da_cons (de_var 0 (nin_of rfl)) da_nil)) (de_neg de_int)))) (dss_one (ds_ret de_bl)) dss_nil)
    (dss_cons (ds_if (dt_cmpD (dc_eq hr.units) (de_var 2 (nin_of rfl)) de_str) (dss_one (ds_ret ((de_and (de_cmpD (dc_eq hr.units) (de_var 1 (nin_of rfl)) de_int) (de_one (de_cmpD dc_gt (de_add (de_var 4 (nin_of rfl)) (de_var 6 (nin_of rfl))) de_int)))))) dss_nil)
    (dss_cons (ds_if (dt_cmpD (dc_eq hr.units) (de_var 2 (nin_of rfl)) de_str) (dss_one (ds_ret ((de_and (de_cmpD (dc_eq hr.units) (de_var 1 (nin_of rfl)) de_int) (de_one ((de_or (de_cmpD dc_gt (de_var 5 (nin_of rfl)) de_int) (de_one (de_cmpD dc_gt (de_var 6 (nin_of rfl)) (de_var 4 (nin_of rfl))))))))))) dss_nil)
    (dss_cons (ds_if (dt_cmpD (dc_eq hr.units) (de_var 2 (nin_of rfl)) de_str) (dss_one (ds_ret ((de_and (de_cmpD dc_gt (de_var 1 (nin_of rfl)) de_int) (de_one (de_cmpD dc_gt (de_var 5 (nin_of rfl)) (de_mul (de_sub (de_var 1 (nin_of rfl)) de_int) (de_var 4 (nin_of rfl))))))))) dss_nil)
    (dss_one (ds_ret ((de_and (de_cmpD dc_gt (de_var 1 (nin_of rfl)) de_int) (de_one (de_cmpD dc_gt (de_mul (de_sub (de_var 1 (nin_of rfl)) de_int) (de_var 6 (nin_of rfl))) (de_var 5 (nin_of rfl)))))))))))))
theorem law__law_holds (ts : List T) (Q : T → T → Prop) (W : Exn → T → Prop) (h : sp__law_holds ts Q W) : dn__law_holds (finX none W) (fin0 none Q) (slots0 7 ts) := by
  obtain ⟨rs, R, w, n, rfl, hr, R1, R2, hw, q⟩ := h
  have hl := hr.len
  have tb := tot_big hr
  have pos : ∀ p ∈ rs, 1 ≤ p.2 := fun p hp => (hr.cnt p hp).1
  have b1 := cntF_bd 1 (n := n) pos
  have b2 := cntF_bd (-1) (n := n) pos
  refine dSeq.mk (use_totals hr.chg (And.intro rfl (dSeq.mk ?_)))
  refine br_dec (c := 1 ≤ n) (fun h1 => use_ends (by omega) (wO_i (gI_ends rs) (br_ndec (c := n ≤ totR rs) (fun h2 => ?_) fun h2 => ?_))) fun h1 => br_t rfl ?_
  · have e : obsP rs R (.str w) (.int n) = false := by
      show (isIntB (.int n) 1 (.int (totR rs)) && lawB rs R w n) = _
      rw [show isIntB (.int n) 1 (.int (totR rs)) = false by simp only [isIntB, decide_eq_false h2, Bool.and_false]]; rfl
    rw [e] at q; exact q
  · replace q : Q (.dat (.bool (lawB rs R w n))) .emp := by
      have e : obsP rs R (.str w) (.int n) = lawB rs R w n := by
        show (isIntB (.int n) 1 (.int (totR rs)) && lawB rs R w n) = _
        rw [show isIntB (.int n) 1 (.int (totR rs)) = true by simp only [isIntB, decide_eq_true h1, decide_eq_true h2]; rfl]; rfl
      rw [e] at q; exact q
    unfold lawB at q
    generalize cntF 1 rs n = u at q b1
    generalize cntF (-1) rs n = c at q b2
    generalize cntF 0 rs n = z at q
    have cm : ∀ x : Int, 0 ≤ x → x < 2 ^ 110 → 2 < R → CMulW (R - 2) x := fun x x0 x1 h => mul_ok (a := 135) (b := 110) (log2_lt (by omega) (by omega) (by decide)) (log2_lt x0 x1 (by decide)) (by decide)
    refine dSeq.mk (br_dec (c := w = ("single" : Str)) (fun e1 => ?_) fun e1 => dSeq.mk (br_dec (c := w = ("two" : Str)) (fun e2 => ?_) fun e2 => dSeq.mk (br_dec (c := w = ("few" : Str)) (fun e3 => ?_) fun e3 => ?_)))
    · rw [if_pos e1] at q
      refine And.intro rfl (And.intro rfl (br_split (b := PyData.eqv (.int R) (.int 1)) (fun e => ?_) fun e => ?_))
      · rw [eqv_int] at e; rw [e] at q; exact q
      · rw [eqv_int] at e; rw [e] at q; exact q
    · rw [if_neg e1, if_pos e2] at q
      refine And.intro rfl (And.intro rfl (br_split (b := PyData.eqv (.int R) (.int 2)) (fun e => ?_) fun e => ?_))
      · rw [eqv_int] at e; rw [e] at q
        refine br_split (b := decide (0 < z)) (fun e4 => ?_) fun e4 => ?_
        · rw [e4] at q; exact q
        · rw [e4] at q; exact q
      · rw [eqv_int] at e; rw [e] at q; exact q
    · rw [if_neg e1, if_neg e2, if_pos e3] at q
      refine br_split (b := decide (2 < R)) (fun e => ?_) fun e => ?_
      · rw [e] at q; exact And.intro (cm u (by omega) (by omega) (of_decide_eq_true e)) q
      · rw [e] at q; exact q
    · rw [if_neg e1, if_neg e2, if_neg e3] at q
      have e4 : w = ("many" : Str) := by
        simp only [four, List.mem_cons, List.not_mem_nil, or_false] at hw
        rcases hw with z | z | z | z
        · exact absurd z e1
        · exact absurd z e2
        · exact absurd z e3
        · exact z
      rw [decide_eq_true e4] at q
      refine br_split (b := decide (2 < R)) (fun e => ?_) fun e => ?_
      · rw [e] at q; exact And.intro (cm c (by omega) (by omega) (of_decide_eq_true e)) q
      · rw [e] at q; exact q
  · have e : obsP rs R (.str w) (.int n) = false := by
      show (isIntB (.int n) 1 (.int (totR rs)) && lawB rs R w n) = _
      rw [show isIntB (.int n) 1 (.int (totR rs)) = false by simp only [isIntB, decide_eq_false h1, Bool.false_and]]; rfl
    rw [e] at q; exact q

def sp__law_right : DSp := fun ts Q _ => ∃ (r : Spr) (rs : List (Int × Int)) (R : Int) (ns : List Int) (b : Nat), ts = [.own r.d, .bor (.list (rs.map drun)), .dat (.int R), .bor (.list (ns.map .int))] ∧ r.Ok b ∧ b < 2 ^ 58 ∧ Runs 400 (1000000000000000000000000000000 : Int) rs ∧ 1 ≤ R ∧ R ≤ 1000000000000000000000000000000000000000 ∧ ns.length ≤ 1000 ∧ (∀ n ∈ ns, -(2 ^ 120) < n ∧ n < 2 ^ 120) ∧
  ∀ r' : Spr, r'.Ok (b + 5000 * ns.length) → Q (.dat (.bool true)) (.own r'.d)
theorem mono__law_right : Mono sp__law_right := fun ts R R' W W' hr _ ⟨r, rs, a, ns, b, e, h1, h2, h3, h4, h5, h6, h7, q⟩ => ⟨r, rs, a, ns, b, e, h1, h2, h3, h4, h5, h6, h7, fun r' o => hr _ _ (q r' o)⟩
theorem use_right {r : Spr} {rs : List (Int × Int)} {R : Int} {ns : List Int} {b : Nat} {Q : T → T → Prop} {W : Exn → T → Prop} (o : r.Ok b) (hb : b < 2 ^ 58) (h3 : Runs 400 (1000000000000000000000000000000 : Int) rs) (h4 : 1 ≤ R) (h5 : R ≤ 1000000000000000000000000000000000000000) (h6 : ns.length ≤ 1000) (h7 : ∀ n ∈ ns, -(2 ^ 120) < n ∧ n < 2 ^ 120) (q : ∀ r' : Spr, r'.Ok (b + 5000 * ns.length) → Q (.dat (.bool true)) (.own r'.d)) :
    Spc sp__law_right [.own r.d, .bor (.list (rs.map drun)), .dat (.int R), .bor (.list (ns.map .int))] Q W := ⟨⟨r, rs, R, ns, b, rfl, o, hb, h3, h4, h5, h6, h7, q⟩⟩
theorem word_tl {w : Str} (h : w ∈ four) : Tl 0 20 (.str w) := by
  simp only [four, List.mem_cons, List.not_mem_nil, or_false] at h
  rcases h with rfl | rfl | rfl | rfl <;> exact ⟨by decide +kernel, by decide +kernel, Nat.zero_le _⟩
theorem rtl {ds : List D} {rs : List (Int × Int)} (k : RLk ds rs) (h : Runs 400 (1000000000000000000000000000000 : Int) rs) : Tl 3 100000 (.list ds) ∧ Tl 3 100000 (.tuple ds) := ⟨(rlk_tlA k h (Int.le_refl _)).listM (by decide) (by decide), (rlk_tlA k h (Int.le_refl _)).tupleM (by decide) (by decide)⟩
theorem repr_i {d : D} {k n : Nat} {P : Prop} (h : Tl k n d) (hk : k < 60) (hn : n ≤ 16777216) (p : P) : d.showable = true ∧ d.shown.length ≤ sizeLine ∧ d.depth < 60 ∧ P := ⟨h.sh, Nat.le_trans h.le hn, Nat.lt_of_le_of_lt h.dp hk, p⟩
theorem und_str {d : D} {s : Str} (h : und d = .str s) : d = .str s := by cases d <;> simp only [und] at h <;> first | exact h | cases h
theorem und_handed {d : D} {rs : List (Int × Int)} {w : Str} {n : Int} (h : und d = und (.list [.list (rs.map drun), .tuple [.str w, .int n]])) :
    ∃ x y ds, (d = .list [x, y] ∨ d = .tuple [x, y]) ∧ (x = .list ds ∨ x = .tuple ds) ∧ RLk ds rs ∧ (y = .list [.str w, .int n] ∨ y = .tuple [.str w, .int n]) := by
  simp only [und, undL] at h
  obtain ⟨ds, h1, h2⟩ := und_lst h
  obtain ⟨x, r, rfl, hx, h3⟩ := undL_cons_inv h2
  obtain ⟨y, r2, rfl, hy, h4⟩ := undL_cons_inv h3
  cases undL_nil_inv h4
  obtain ⟨es, h5, h6⟩ := und_lst hx
  obtain ⟨fs, h7, h8⟩ := und_lst hy
  obtain ⟨a, r3, rfl, ha, h9⟩ := undL_cons_inv h8
  obtain ⟨b, r4, rfl, hb, h10⟩ := undL_cons_inv h9
  cases undL_nil_inv h10
  cases und_str ha
  cases und_int hb
  exact ⟨x, y, es, h1, h5, undL_runs_inv h6, h7⟩
def badA : List D := [.none, .int 0, .str ("few" : Str), .tuple [], .tuple [.str ("few" : Str)], .tuple [.str ("few" : Str), .int 1, .int 1], .tuple [.str ("more" : Str), .int 1], .tuple [.int 1, .str ("few" : Str)], .tuple [.str ("few" : Str), .none], .tuple [.str ("few" : Str), .bool true], .dict [], .list []]
def badC : List D := [.tuple [.str ("few" : Str), .str ("1" : Str)], .tuple [.str ("single" : Str), .int (10 ^ 39)], .tuple [.str ("two" : Str), .int (-1)], .tuple [.str ("many" : Str), .list [.int 1]], .tuple [.none, .int 1], .tuple [.tuple [.str ("few" : Str), .int 1]], .tuple [.str ("FEW" : Str), .int 1]]
def badL : List D := badA ++ badC
theorem bad_not {rs : List (Int × Int)} {R : Int} (ht : totR rs < 2 ^ 110) : ∀ v ∈ badL, obsB rs R v = false := by
  intro v hv
  simp only [badL, badA, badC, List.cons_append, List.nil_append, List.mem_cons, List.not_mem_nil, or_false] at hv
  have other : ∀ (w : Str) (n : Int), w ∉ four → obsP rs R (.str w) (.int n) = false := by
    intro w n h
    simp only [four, List.mem_cons, List.not_mem_nil, or_false, not_or] at h
    show (isIntB (.int n) 1 (.int (totR rs)) && lawB rs R w n) = false
    unfold lawB
    rw [if_neg h.1, if_neg h.2.1, if_neg h.2.2.1, decide_eq_false h.2.2.2]
    simp
  have off : ∀ (w : Str) (n : Int), (n < 1 ∨ totR rs < n) → obsP rs R (.str w) (.int n) = false := by
    intro w n h
    show (isIntB (.int n) 1 (.int (totR rs)) && lawB rs R w n) = false
    have : isIntB (.int n) 1 (.int (totR rs)) = false := by
      simp only [isIntB, Bool.and_eq_false_iff, decide_eq_false_iff_not]; omega
    rw [this]; rfl
  rcases hv with rfl | rfl | rfl | rfl | rfl | rfl | rfl | rfl | rfl | rfl | rfl | rfl | rfl | rfl | rfl | rfl | rfl | rfl | rfl
  all_goals first | rfl | exact other _ _ (by decide) | exact off _ _ (by omega)

def ms__law_right : List Md := [.lend, .bor, .dat, .bor]
def dn__law_right (Wd : Exn → List T → Prop) : DS := (dSeq (dForS (dSeqI (dLst (dCons (dC (.str ("single" : Str))) (dCons (dC (.str ("two" : Str))) (dCons (dC (.str ("few" : Str))) (dCons (dC (.str ("many" : Str))) dNil)))))) (dgName 4) (dForS (dSeqI (dVarF 3)) (dgName 5) (dSeq (dAsg (dCall ms__law_dressed sp__law_dressed Wd (dCons (dVar 0) (dCons (dLst (dCons (dVarF 1) (dCons (dTup (dCons (dVarF 4) (dCons (dVarF 5) dNil))) dNil))) dNil))) (dgName 6))
    (dSeq (dAsg (dCB dRepr (dCons (dVar 6) dNil)) (dgName 7))
    (dSeq (dAsg (dCall ms__law_holds sp__law_holds Wd (dCons (dVar 1) (dCons (dVarF 2) (dCons (dVarF 4) (dCons (dVarF 5) dNil))))) (dgName 8))
    (dIfS ((dOrT (dNotT (tVal (dCall ms__law_same sp__law_same Wd (dCons (dCall ms_obstructs sp_obstructs Wd (dCons (dOp dIx (dVar 6) (dC (.int 0))) (dCons (dVarF 2) (dCons (dOp dIx (dVar 6) (dC (.int 1))) dNil)))) (dCons (dVar 8) dNil))))) (tVal (dOp dNe (dCB dRepr (dCons (dVar 6) dNil)) (dVar 7))))) (dRet (dC (.bool false))) dNext))))))
    (dSeq (dAsg (dLst (dCons (dC .none) (dCons (dC (.int 0)) (dCons (dC (.str ("few" : Str))) (dCons (dTup dNil) (dCons (dTup (dCons (dC (.str ("few" : Str))) dNil)) (dCons (dTup (dCons (dC (.str ("few" : Str))) (dCons (dC (.int 1)) (dCons (dC (.int 1)) dNil)))) (dCons (dTup (dCons (dC (.str ("more" : Str))) (dCons (dC (.int 1)) dNil))) (dCons (dTup (dCons (dC (.int 1)) (dCons (dC (.str ("few" : Str))) dNil))) (dCons (dTup (dCons (dC (.str ("few" : Str))) (dCons (dC .none) dNil))) (dCons (dTup (dCons (dC (.str ("few" : Str))) (dCons (dC (.bool true)) dNil))) (dCons (dDct []) (dCons (dLst dNil) dNil))))))))))))) (dgName 9))
    (dSeq (dAsg (dOp dAdd (dVar 9) (dLst (dCons (dTup (dCons (dC (.str ("few" : Str))) (dCons (dC (.str ("1" : Str))) dNil))) (dCons (dTup (dCons (dC (.str ("single" : Str))) (dCons (dOp dPow (dC (.int 10)) (dC (.int 39))) dNil))) (dCons (dTup (dCons (dC (.str ("two" : Str))) (dCons (dUn dNeg (dC (.int 1))) dNil))) (dCons (dTup (dCons (dC (.str ("many" : Str))) (dCons (dLst (dCons (dC (.int 1)) dNil)) dNil))) (dCons (dTup (dCons (dC .none) (dCons (dC (.int 1)) dNil))) (dCons (dTup (dCons (dTup (dCons (dC (.str ("few" : Str))) (dCons (dC (.int 1)) dNil))) dNil)) (dCons (dTup (dCons (dC (.str ("FEW" : Str))) (dCons (dC (.int 1)) dNil))) dNil))))))))) (dgName 9))
    (dRet (dOp dEq (dLc (dSeqI (dVarF 9)) (Tgt.one 10).d (tVal (dOp dIsNotB (dCall ms_obstructs sp_obstructs noW (dCons (dVar 1) (dCons (dVarF 2) (dCons (dVarF 10) dNil)))) (dC (.bool false)))) (dVarF 10) [10]) (dLst dNil))))))
abbrev st__law_right : Stmt := PySem.Challenge.pw_teesizes_k15_obstructions_judged.main.body.getD 37 (.Pass ⟨0, 0, 0, 0⟩)
abbrev N__law_right : List Str := ["spring", "record", "readers", "numbers", "word", "number", "handed", "before", "due", "some", "value"]
theorem sc__law_right : FnScope N__law_right ["spring", "record", "readers", "numbers"] (defScope st__law_right) := ⟨rfl, rfl, rfl, by decide +kernel, rfl, by decide +kernel, by decide +kernel⟩
theorem dp__law_right {P : Program} {w : World} {K : PySem.W.Frag} {mg : Str → Option Value} {base : Heap} {f : Addr} {cdv : Value} {A : Around} {os : List Env} {s : Shared} {H : Hp} {E : XK} {Wd : Exn → List T → Prop} {B0 : Addr → Prop} {o : List Addr} {vs : List V} (n_repr : mg "repr" = none) (h__law_dressed : Has P w K mg base "_law_dressed" 5 ["spring", "value"] ms__law_dressed sp__law_dressed) (h__law_holds : Has P w K mg base "_law_holds" 2 ["record", "readers", "word", "number"] ms__law_holds sp__law_holds) (h__law_same : Has P w K mg base "_law_same" 4 ["found", "due"] ms__law_same sp__law_same) (h_obstructs : Has P w K mg base "obstructs" 6 ["record", "readers", "value"] ms_obstructs sp_obstructs)
    (hr : RoomG 6 (A.deeper (PyProof.Rows.envOfC "_law_right" (defScope st__law_right) s.heap.objs.size f cdv))) (tk : DTk (ctxOf P w K mg base N__law_right "_law_right" (defScope st__law_right) f cdv A os s H E Wd B0 o (some 0) vs [10])) :
    DPSs (ctxOf P w K mg base N__law_right "_law_right" (defScope st__law_right) f cdv A os s H E Wd B0 o (some 0) vs [10]) (defBody st__law_right) (dn__law_right Wd) :=
  have S := sc__law_right
  (dss_cons (ds_for (passes_of rfl) rfl (di_seq (de_lst (da_cons de_str (da_cons de_str (da_cons de_str (da_cons de_str da_nil)))))) (dg_name S.nd (i := 4) rfl (Or.inl rfl) (nin_of rfl)) (dss_one (ds_for (passes_of rfl) rfl (di_seq (de_varF 3)) (dg_name S.nd (i := 5) rfl (Or.inl rfl) (nin_of rfl)) (dss_cons (ds_set S.nd (i := 6) rfl (Or.inl rfl) (nin_of rfl) (de_fn h__law_dressed hr (by decide) tk rfl (da_cons (de_var 0 (nin_of rfl)) (da_cons (de_lst (da_cons (de_varF 1) (da_cons (de_tup (da_cons (de_varF 4) (da_cons (de_varF 5) da_nil))) da_nil))) da_nil))))
    (dss_cons (ds_set S.nd (i := 7) rfl (Or.inl rfl) (nin_of rfl) (de_repr hr rfl n_repr (da_cons (de_var 6 (nin_of rfl)) da_nil)))
    (dss_cons (ds_set S.nd (i := 8) rfl (Or.inl rfl) (nin_of rfl) (de_fn h__law_holds hr (by decide) tk rfl (da_cons (de_var 1 (nin_of rfl)) (da_cons (de_varF 2) (da_cons (de_varF 4) (da_cons (de_varF 5) da_nil))))))
    (dss_one (ds_if (DPW.t (dw_or (dt_not (dt_val (de_fn h__law_same hr (by decide) tk rfl (da_cons (de_fn h_obstructs hr (by decide) tk rfl (da_cons (de_ix (de_var 6 (nin_of rfl)) de_int) (da_cons (de_varF 2) (da_cons (de_ix (de_var 6 (nin_of rfl)) de_int) da_nil)))) (da_cons (de_var 8 (nin_of rfl)) da_nil))))) (dw_or1 (dt_cmpD (dc_ne hr.units) (de_repr hr rfl n_repr (da_cons (de_var 6 (nin_of rfl)) da_nil)) (de_var 7 (nin_of rfl)))))) (dss_one (ds_ret de_bl)) dss_nil))))))))
    (dss_cons (ds_set S.nd (i := 9) rfl (Or.inl rfl) (nin_of rfl) (de_lst (da_cons de_non (da_cons de_int (da_cons de_str (da_cons (de_tup da_nil) (da_cons (de_tup (da_cons de_str da_nil)) (da_cons (de_tup (da_cons de_str (da_cons de_int (da_cons de_int da_nil)))) (da_cons (de_tup (da_cons de_str (da_cons de_int da_nil))) (da_cons (de_tup (da_cons de_int (da_cons de_str da_nil))) (da_cons (de_tup (da_cons de_str (da_cons de_non da_nil))) (da_cons (de_tup (da_cons de_str (da_cons de_bl da_nil))) (da_cons de_dict0 (da_cons (de_lst da_nil) da_nil))))))))))))))
    (dss_cons (ds_set S.nd (i := 9) rfl (Or.inl rfl) (nin_of rfl) (de_add (de_var 9 (nin_of rfl)) (de_lst (da_cons (de_tup (da_cons de_str (da_cons de_str da_nil))) (da_cons (de_tup (da_cons de_str (da_cons (de_pow de_int de_int) da_nil))) (da_cons (de_tup (da_cons de_str (da_cons (de_neg de_int) da_nil))) (da_cons (de_tup (da_cons de_str (da_cons (de_lst (da_cons de_int da_nil)) da_nil))) (da_cons (de_tup (da_cons de_non (da_cons de_int da_nil))) (da_cons (de_tup (da_cons (de_tup (da_cons de_str (da_cons de_int da_nil))) da_nil)) (da_cons (de_tup (da_cons de_str (da_cons de_int da_nil))) da_nil))))))))))
    (dss_one (ds_ret (de_cmpD (dc_eq hr.units) (de_lc rfl S.nd (own := [(("value" : Str), 10)]) (tg := (Tgt.one 10)) (di_seq (de_varF 9)) (blk_of (N := N__law_right) (sc := defScope st__law_right) (by decide +kernel)) (tgt_one S.nd rfl (Or.inl rfl) rfl) (fun _ _ _ _ _ => (dts_one (dt_cmpD dc_isNotB (de_fn h_obstructs hr (by decide) tk_blk rfl (da_cons (de_var 1 (nin_of rfl)) (da_cons (de_varF 2) (da_cons (de_varF 10) da_nil)))) de_bl))) (fun _ _ _ _ _ => (de_varF 10)) (by decide) (own_of rfl)) (de_lst da_nil)))))))
theorem law__law_right (ts : List T) (Q : T → T → Prop) (W : Exn → T → Prop) (h : sp__law_right ts Q W) : dn__law_right (finX (some 0) W) (fin0 (some 0) Q) (slots0 11 ts) := by
  obtain ⟨r0, rs, R, ns, b, rfl, o0, hb, hr, R1, R2, hn, hns, q⟩ := h
  have hl := hr.len
  have tb := tot_big hr
  have dl := depth_runs rs
  have nd := nd_runs rs
  refine dSeq.mk (for_disp (four.map fun w => .dat (.str w)) _ (fun Q h => h) ?_)
  refine for_pre four _ (fun pre ρ => ∃ (r : Spr) (x_word x_number x_handed x_before x_due x_some : T), ρ = [.own r.d, .bor (.list (rs.map drun)), .dat (.int R), .bor (.list (ns.map .int)), x_word, x_number, x_handed, x_before, x_due, x_some, .emp] ∧ r.Ok (b + 1250 * ns.length * pre.length)) ⟨r0, _, _, _, _, _, _, rfl, o0⟩ (fun pre w post ρ K e hp k => ?_) (fun ρ hp => ?_)
  · obtain ⟨r, x_word, x_number, x_handed, x_before, x_due, x_some, rfl, o⟩ := hp
    have hw : w ∈ four := by rw [e]; simp
    have hpl : pre.length ≤ 3 := by have := congrArg List.length e; simp [four] at this; omega
    refine dg_i rfl ?_
    show dFor _ _ _ ((ns.map PyData.int).map T.bor) _
    rw [List.map_map]
    refine for_pre ns _ (fun pre2 ρ => ∃ (r : Spr) (x_number x_handed x_before x_due x_some : T), ρ = [.own r.d, .bor (.list (rs.map drun)), .dat (.int R), .bor (.list (ns.map .int)), .dat (.str w), x_number, x_handed, x_before, x_due, x_some, .emp] ∧ r.Ok (b + 1250 * ns.length * pre.length + 1250 * pre2.length)) ⟨r, _, _, _, _, _, rfl, o⟩ (fun pre2 n post2 ρ K2 e2 hp k2 => ?_) (fun ρ hp => ?_)
    · obtain ⟨r, x_number, x_handed, x_before, x_due, x_some, rfl, o⟩ := hp
      have hn2 := hns n (by rw [e2]; simp)
      have hpl2 : pre2.length < ns.length := by have := congrArg List.length e2; simp at this; omega
      have lb : 1250 * ns.length * pre.length ≤ 3750000 := Nat.le_trans (Nat.mul_le_mul (by omega : 1250 * ns.length ≤ 1250000) hpl) (by decide)
      refine dg_i rfl (dSeq.mk ?_)
      refine use_dressed (d := .list [.list (rs.map drun), .tuple [.str w, .int n]]) o (by simp only [ndD, ndL]; omega) (by simp only [PyData.depth, PyData.depthAll]; omega) (by simp only [ndD, ndL]; omega) (by simp only [noDct, noDctL, noDct_runs]; rfl) fun d r4 hd o4 => ?_
      simp only [ndD, ndL] at o4
      obtain ⟨x, y, ds, hd1, hx, hk, hy⟩ := und_handed hd
      have t1 : Tl 3 100000 x := by have := rtl hk hr; rcases hx with rfl | rfl; exact this.1; exact this.2
      have t2 : Tl 3 100000 y := by
        have : TlA 0 130 2 [PyData.str w, .int n] := .cons ((word_tl hw).mono (Nat.le_refl _) (by decide)) (.cons (Tl.intB 120 hn2.1 hn2.2 (by decide) (by decide) (by decide)) (TlA.nil (m := 0)))
        rcases hy with rfl | rfl
        · exact this.listM (by decide) (by decide)
        · exact this.tupleM (by decide) (by decide)
      have t3 : TlA 3 100000 2 [x, y] := .cons t1 (.cons t2 (TlA.nil (m := 0)))
      have td : Tl 4 300000 d := by
        rcases hd1 with rfl | rfl
        · exact t3.listM (by decide) (by decide)
        · exact t3.tupleM (by decide) (by decide)
      have eo : obsP rs R (.str w) (.int n) = obsB rs R y := by rcases hy with rfl | rfl <;> rfl
      refine seq_at [_, _, _, _, _, _, _, _, _, _, _] rfl ?_
      refine repr_i td (by decide) (by decide) ?_
      refine seq_at [_, _, _, _, _, _, _, _, _, _, _] rfl ?_
      refine use_holds hr R1 R2 hw ?_
      rw [eo]
      have fin : ∀ ρ, (∃  (x_number x_handed x_before x_due x_some : T), ρ = [.own r4.d, .bor (.list (rs.map drun)), .dat (.int R), .bor (.list (ns.map .int)), .dat (.str w), x_number, x_handed, x_before, x_due, x_some, .emp]) → K2 ρ := fun ρ hp => by
        obtain ⟨x_number, x_handed, x_before, x_due, x_some, rfl⟩ := hp
        exact k2 _ ⟨r4, _, _, _, _, _, rfl, o4.mono (by simp; omega)⟩
      rcases hd1 with rfl | rfl
      all_goals
        refine use_obstructs (v := y) hx hk hr R1 R2 (use_same (d := .bool (obsB rs R y)) .bool (by show 1 ≤ 1000000; decide) (br_f rfl (repr_i td (by decide) (by decide) (br_f (by simp) (fin _ ?_)))))
        exact ⟨_, _, _, _, _, rfl⟩
    · obtain ⟨r, x_number, x_handed, x_before, x_due, x_some, rfl, o⟩ := hp
      refine k _ ⟨r, _, _, _, _, _, _, rfl, o.mono ?_⟩
      simp only [List.length_append, List.length_singleton, Nat.mul_add]; omega
  · obtain ⟨r, x_word, x_number, x_handed, x_before, x_due, x_some, rfl, o⟩ := hp
    have o : r.Ok (b + 5000 * ns.length) := o.mono (by simp [four]; omega)
    refine dSeq.mk (asg_disp _ (fun K h => h) (ds := badA) rfl rfl ?_)
    refine dSeq.mk (add_disp _ (ds := badA) (es := badC) rfl (fun K h => And.intro (a := CPow 10 39) (by unfold CPow; decide) h) rfl rfl (by decide) ?_)
    show dRet (dOp dEq (dLc (dSeqI (dVarF 9)) (Tgt.one 10).d (tVal (dOp dIsNotB (dCall ms_obstructs sp_obstructs noW (dCons (dVar 1) (dCons (dVarF 2) (dCons (dVarF 10) dNil)))) (dC (.bool false)))) (dVarF 10) [10]) (dLst dNil)) (fin0 (some 0) Q) [.own r.d, .bor (.list (rs.map drun)), .dat (.int R), .bor (.list (ns.map .int)), x_word, x_number, x_handed, x_before, x_due, .own badL, .emp]
    have hbad := bad_not (R := R) tb.2
    have hlen : badL.length ≤ 19 := by decide
    generalize badL = L at hbad hlen
    refine (show dLcGo _ _ _ _ _ (L.map T.dat) _ [.own r.d, .bor (.list (rs.map drun)), .dat (.int R), .bor (.list (ns.map .int)), x_word, x_number, x_handed, x_before, x_due, .dat (.list L), .emp] from ?_)
    refine lc_fl L _ (fun _ => false) (fun v => v) rfl (Nat.le_trans hlen (by decide)) (fun _ _ => rfl) (fun v hv P R' hP hR => ?_) ?_
    · refine use_obstructs (.inl rfl) (rlk_self rs) hr R1 R2 ?_
      rw [hbad v hv]
      exact br_f rfl (hR rfl)
    · rw [filter_no]
      refine And.intro rfl (And.intro rfl ?_)
      show Q (.dat (.bool (PyData.eqv (.list []) (.list [])))) _
      rw [eqv_nil_nil]
      exact q r o

def sp_law : DSp := fun ts Q _ => ∃ ns : List Int, ts = [.scr ns] ∧ ns.length ≤ 63 ∧ Q (.dat (.bool true)) .emp
theorem mono_law : Mono sp_law := fun ts R R' W W' hr _ ⟨ns, e, h, q⟩ => ⟨ns, e, h, hr _ _ q⟩
theorem rngI_mem {a b x : Int} (h : x ∈ rngI a b) : a ≤ x ∧ x < b := by
  unfold rngI at h
  obtain ⟨j, hj, rfl⟩ := List.mem_map.mp h
  rw [List.mem_range] at hj
  omega
theorem rngI_len (a b : Int) : (rngI a b).length = (b - a).toNat := by simp [rngI]

def ms_law : List Md := [.bor]
def dn_law (Wd : Exn → List T → Prop) : DS := (dSeq (dAsg (dCall ms__law_spring sp__law_spring Wd (dCons (dVar 0) dNil)) (dgName 1))
    (dSeq (dForS (dRange1 (dCons (dOp dAdd (dC (.int 2)) (dCB dMin2 (dCons (dCB dLen (dCons (dVar 0) dNil)) (dCons (dC (.int 5)) dNil)))) dNil)) (dgName 2) (dSeq (dAsg (dCall ms__law_changes sp__law_changes Wd (dCons (dVar 1) (dCons (dOp dAdd (dC (.int 1)) (dCall ms__law_draw sp__law_draw Wd (dCons (dVar 1) (dCons (dC (.int 5)) dNil)))) (dCons (dC (.int 8)) dNil)))) (dgName 3))
    (dSeq (dForS (dRange2 (dCons (dC (.int 1)) (dCons (dC (.int 7)) dNil))) (dgName 4) (dIfS (dNotT (tVal (dCall ms__law_right sp__law_right Wd (dCons (dVar 1) (dCons (dCall ms__law_record sp__law_record Wd (dCons (dVar 3) dNil)) (dCons (dVarF 4) (dCons (dLstRg1 (dOp dAdd (dCB dLen (dCons (dVar 3) dNil)) (dC (.int 2)))) dNil))))))) (dRet (dC (.bool false))) dNext))
    (dSeq (dAsg (dCall ms__law_far sp__law_far Wd (dCons (dVar 1) (dCons (dOp dAdd (dC (.int 3)) (dCall ms__law_draw sp__law_draw Wd (dCons (dVar 1) (dCons (dC (.int 30)) dNil)))) (dCons (dC (.int 20)) (dCons (dOp dPow (dC (.int 10)) (dC (.int 30))) dNil))))) (dgName 5))
    (dSeq (dAsg (dLst dNil) (dgName 6))
    (dSeq (dForS (dSeqI (dSl (dCall ms__law_ends sp__law_ends Wd (dCons (dVar 5) dNil)) (dPart (dUn dNeg (dC (.int 4)))) dNoPart)) (dgName 7) (dDrop (dLm 6 lmExtend (dCons (dLst (dCons (dOp dSub (dVar 7) (dC (.int 1))) (dCons (dVarF 7) (dCons (dOp dAdd (dVar 7) (dC (.int 1))) (dCons (dCall ms__law_draw sp__law_draw Wd (dCons (dVar 1) (dCons (dOp dAdd (dVar 7) (dC (.int 1))) dNil))) dNil))))) dNil))))
    (dSeq (dAsg (dOp dIx (dLst (dCons (dC (.int 1)) (dCons (dC (.int 2)) (dCons (dC (.int 3)) (dCons (dOp dPow (dC (.int 10)) (dC (.int 39))) (dCons (dOp dAdd (dC (.int 3)) (dCall ms__law_draw sp__law_draw Wd (dCons (dVar 1) (dCons (dOp dPow (dC (.int 10)) (dC (.int 20))) dNil)))) dNil)))))) (dCall ms__law_draw sp__law_draw Wd (dCons (dVar 1) (dCons (dC (.int 5)) dNil)))) (dgName 4))
    (dIfS (dNotT (tVal (dCall ms__law_right sp__law_right Wd (dCons (dVar 1) (dCons (dVar 5) (dCons (dVarF 4) (dCons (dVar 6) dNil))))))) (dRet (dC (.bool false))) dNext))))))))
    (dRet ((dAndV (dOp dIsB (dCall ms_obstructs sp_obstructs Wd (dCons (dLst dNil) (dCons (dC (.int 3)) (dCons (dTup (dCons (dC (.str ("few" : Str))) (dCons (dC (.int 1)) dNil))) dNil)))) (dC (.bool false))) (dOp dIsB (dCall ms_obstructs sp_obstructs Wd (dCons (dLst (dCons (dTup (dCons (dC (.int 0)) (dCons (dC (.int 1)) dNil))) dNil)) (dCons (dC (.int 3)) (dCons (dLst (dCons (dC (.str ("few" : Str))) (dCons (dC (.int 1)) dNil))) dNil)))) (dC (.bool true))))))))
abbrev st_law : Stmt := PySem.Challenge.pw_teesizes_k15_obstructions_judged.main.body.getD 38 (.Pass ⟨0, 0, 0, 0⟩)
abbrev N_law : List Str := ["script", "spring", "turn", "changes", "readers", "far", "numbers", "number"]
theorem sc_law : FnScope N_law ["script"] (defScope st_law) := ⟨rfl, rfl, rfl, by decide +kernel, rfl, by decide +kernel, by decide +kernel⟩
theorem dp_law {P : Program} {w : World} {K : PySem.W.Frag} {mg : Str → Option Value} {base : Heap} {f : Addr} {cdv : Value} {A : Around} {os : List Env} {s : Shared} {H : Hp} {E : XK} {Wd : Exn → List T → Prop} {B0 : Addr → Prop} {o : List Addr} {vs : List V} (n_len : mg "len" = none) (n_list : mg "list" = none) (n_min : mg "min" = none) (n_range : mg "range" = none) (h__law_changes : Has P w K mg base "_law_changes" 2 ["spring", "readers", "most"] ms__law_changes sp__law_changes) (h__law_draw : Has P w K mg base "_law_draw" 1 ["spring", "many"] ms__law_draw sp__law_draw) (h__law_ends : Has P w K mg base "_law_ends" 1 ["record"] ms__law_ends sp__law_ends) (h__law_far : Has P w K mg base "_law_far" 2 ["spring", "readers", "many", "most"] ms__law_far sp__law_far) (h__law_record : Has P w K mg base "_law_record" 1 ["changes"] ms__law_record sp__law_record) (h__law_right : Has P w K mg base "_law_right" 7 ["spring", "record", "readers", "numbers"] ms__law_right sp__law_right) (h__law_spring : Has P w K mg base "_law_spring" 1 ["script"] ms__law_spring sp__law_spring) (h_obstructs : Has P w K mg base "obstructs" 6 ["record", "readers", "value"] ms_obstructs sp_obstructs)
    (hr : RoomG 7 (A.deeper (PyProof.Rows.envOfC "law" (defScope st_law) s.heap.objs.size f cdv))) (tk : DTk (ctxOf P w K mg base N_law "law" (defScope st_law) f cdv A os s H E Wd B0 o none vs [])) :
    DPSs (ctxOf P w K mg base N_law "law" (defScope st_law) f cdv A os s H E Wd B0 o none vs []) (defBody st_law) (dn_law Wd) :=
  have S := sc_law
  (dss_cons (ds_set S.nd (i := 1) rfl (Or.inl rfl) (nin_of rfl) (de_fn h__law_spring hr (by decide) tk rfl (da_cons (de_var 0 (nin_of rfl)) da_nil)))
    (dss_cons (ds_for (passes_of rfl) rfl (di_range1 rfl n_range (da_cons (de_add de_int (de_min2 rfl n_min rfl (da_cons (de_len rfl n_len (da_cons (de_var 0 (nin_of rfl)) da_nil)) (da_cons de_int da_nil)))) da_nil)) (dg_name S.nd (i := 2) rfl (Or.inl rfl) (nin_of rfl)) (dss_cons (ds_set S.nd (i := 3) rfl (Or.inl rfl) (nin_of rfl) (de_fn h__law_changes hr (by decide) tk rfl (da_cons (de_var 1 (nin_of rfl)) (da_cons (de_add de_int (de_fn h__law_draw hr (by decide) tk rfl (da_cons (de_var 1 (nin_of rfl)) (da_cons de_int da_nil)))) (da_cons de_int da_nil)))))
    (dss_cons (ds_for (passes_of rfl) rfl (di_range2 rfl n_range (da_cons de_int (da_cons de_int da_nil))) (dg_name S.nd (i := 4) rfl (Or.inl rfl) (nin_of rfl)) (dss_one (ds_if (dt_not (dt_val (de_fn h__law_right hr (by decide) tk rfl (da_cons (de_var 1 (nin_of rfl)) (da_cons (de_fn h__law_record hr (by decide) tk rfl (da_cons (de_var 3 (nin_of rfl)) da_nil)) (da_cons (de_varF 4) (da_cons (de_lstRg1 rfl rfl n_list rfl n_range (de_add (de_len rfl n_len (da_cons (de_var 3 (nin_of rfl)) da_nil)) de_int)) da_nil))))))) (dss_one (ds_ret de_bl)) dss_nil)))
    (dss_cons (ds_set S.nd (i := 5) rfl (Or.inl rfl) (nin_of rfl) (de_fn h__law_far hr (by decide) tk rfl (da_cons (de_var 1 (nin_of rfl)) (da_cons (de_add de_int (de_fn h__law_draw hr (by decide) tk rfl (da_cons (de_var 1 (nin_of rfl)) (da_cons de_int da_nil)))) (da_cons de_int (da_cons (de_pow de_int de_int) da_nil))))))
    (dss_cons (ds_set S.nd (i := 6) rfl (Or.inl rfl) (nin_of rfl) (de_lst da_nil))
    (dss_cons (ds_for (passes_of rfl) rfl (di_seq (de_slice (de_fn h__law_ends hr (by decide) tk rfl (da_cons (de_var 5 (nin_of rfl)) da_nil)) (do_some (de_neg de_int)) do_none)) (dg_name S.nd (i := 7) rfl (Or.inl rfl) (nin_of rfl)) (dss_one (ds_expr (de_lm 6 PySem.F.slot_list_extend PySem.F.type_list_extend mt_extend sl_extend rfl (by first | exact Or.inl rfl | exact Or.inr (Or.inl rfl) | exact Or.inr (Or.inr rfl)) (da_cons (de_lst (da_cons (de_sub (de_var 7 (nin_of rfl)) de_int) (da_cons (de_varF 7) (da_cons (de_add (de_var 7 (nin_of rfl)) de_int) (da_cons (de_fn h__law_draw hr (by decide) tk rfl (da_cons (de_var 1 (nin_of rfl)) (da_cons (de_add (de_var 7 (nin_of rfl)) de_int) da_nil))) da_nil))))) da_nil)))))
    (dss_cons (ds_set S.nd (i := 4) rfl (Or.inl rfl) (nin_of rfl) (de_ix (de_lst (da_cons de_int (da_cons de_int (da_cons de_int (da_cons (de_pow de_int de_int) (da_cons (de_add de_int (de_fn h__law_draw hr (by decide) tk rfl (da_cons (de_var 1 (nin_of rfl)) (da_cons (de_pow de_int de_int) da_nil)))) da_nil)))))) (de_fn h__law_draw hr (by decide) tk rfl (da_cons (de_var 1 (nin_of rfl)) (da_cons de_int da_nil)))))
    (dss_one (ds_if (dt_not (dt_val (de_fn h__law_right hr (by decide) tk rfl (da_cons (de_var 1 (nin_of rfl)) (da_cons (de_var 5 (nin_of rfl)) (da_cons (de_varF 4) (da_cons (de_var 6 (nin_of rfl)) da_nil))))))) (dss_one (ds_ret de_bl)) dss_nil)))))))))
    (dss_one (ds_ret ((de_and (de_cmpD dc_isB (de_fn h_obstructs hr (by decide) tk rfl (da_cons (de_lst da_nil) (da_cons de_int (da_cons (de_tup (da_cons de_str (da_cons de_int da_nil))) da_nil)))) de_bl) (de_one (de_cmpD dc_isB (de_fn h_obstructs hr (by decide) tk rfl (da_cons (de_lst (da_cons (de_tup (da_cons de_int (da_cons de_int da_nil))) da_nil)) (da_cons de_int (da_cons (de_lst (da_cons de_str (da_cons de_int da_nil))) da_nil)))) de_bl))))))))
theorem law_law (ts : List T) (Q : T → T → Prop) (W : Exn → T → Prop) (h : sp_law ts Q W) : dn_law (finX none W) (fin0 none Q) (slots0 8 ts) := by
  obtain ⟨ns, rfl, hl, q⟩ := h
  refine dSeq.mk ⟨⟨ns, rfl, hl, fun r0 o0 => ?_⟩⟩
  refine dSeq.mk (And.intro (a := -(2 ^ 62) ≤ 2 + (if (5 : Int) < (ns.length : Int) then 5 else (ns.length : Int)) ∧ 2 + (if (5 : Int) < (ns.length : Int) then 5 else (ns.length : Int)) < 2 ^ 62) (by split <;> omega) ?_)
  have hlen : (2 + (if (5 : Int) < (ns.length : Int) then 5 else (ns.length : Int))).toNat ≤ 7 := by split <;> omega
  generalize (2 + (if (5 : Int) < (ns.length : Int) then 5 else (ns.length : Int))).toNat = turns at hlen
  refine dFor_inv (fun i ρ => ∃ (r : Spr) (x_turn x_changes x_readers x_far x_numbers x_number : T), ρ = [.scr ns, .own r.d, x_turn, x_changes, x_readers, x_far, x_numbers, x_number] ∧ r.Ok (100000000 * i)) ⟨r0, _, _, _, _, _, _, rfl, o0⟩ (fun i t ρ K et p k => ?_) (fun ρ p => ?_)
  · obtain ⟨r, x_turn, x_changes, x_readers, x_far, x_numbers, x_number, rfl, o⟩ := p
    obtain ⟨hi, rfl⟩ := rngT_get et
    refine dg_i rfl (dSeq.mk (use_draw (m := 5) o (by omega) (by decide) (by decide) fun v1 r1 v10 v11 o1 => ?_))
    refine use_changes (R := 1 + v1) (m := 8) o1 (by omega) (by omega) (by omega) (by decide) (by decide) fun cs r2 hcl hcs o2 => ?_
    have hcl : cs.length ≤ 8 := by omega
    have hr : Runs 400 (1000000000000000000000000000000 : Int) (runsOf cs) := (runsOf_runs hcs).mono (by omega) (by omega)
    refine dSeq.mk (And.intro (a := -(2 ^ 62) ≤ (1 : Int) ∧ (1 : Int) < 2 ^ 62 ∧ -(2 ^ 62) ≤ (7 : Int) ∧ (7 : Int) < 2 ^ 62) (by decide) ?_)
    have lcs : ((cs.map PyData.int).length : Int) = cs.length := by rw [List.length_map]
    refine dFor_inv (fun j ρ => ∃ (r : Spr) (x_turn x_readers x_far x_numbers x_number : T), ρ = [.scr ns, .own r.d, x_turn, .own (cs.map .int), x_readers, x_far, x_numbers, x_number] ∧ r.Ok (100000000 * i + 20 + 50000 * j)) ⟨r2, _, _, _, _, _, rfl, o2.mono (by omega)⟩ (fun j t ρ K2 et p k2 => ?_) (fun ρ p => ?_)
    · obtain ⟨r, x_turn, x_readers, x_far, x_numbers, x_number, rfl, o⟩ := p
      obtain ⟨hj, rfl⟩ := rngT_get et
      have hj : j < 6 := hj
      refine dg_i rfl ⟨⟨cs, rfl, by omega, And.intro (a := RgOk 0 (((cs.map PyData.int).length : Int) + 2)) ⟨by omega, by omega, by omega, by omega, by omega⟩ ?_⟩⟩
      have rl := rngI_len 0 (((cs.map PyData.int).length : Int) + 2)
      refine use_right (R := 1 + (j : Nat)) (ns := rngI 0 (((cs.map PyData.int).length : Int) + 2)) o (by omega) hr (by omega) (by omega) (by omega) (fun n hn => by have := rngI_mem hn; omega) fun r3 o3 => ?_
      exact br_f rfl (k2 _ ⟨r3, _, _, _, _, _, rfl, o3.mono (by omega)⟩)
    · obtain ⟨r, x_turn, x_readers, x_far, x_numbers, x_number, rfl, o⟩ := p
      have o : r.Ok (100000000 * i + 400000) := o.mono (by show 100000000 * i + 20 + 50000 * 6 ≤ _; omega)
      refine dSeq.mk (use_draw (m := 30) o (by omega) (by decide) (by decide) fun v2 r3 v20 v21 o3 => ?_)
      refine And.intro (a := CPow 10 30) (by unfold CPow; decide) ?_
      refine use_far (R := 3 + v2) (many := 20) (most := 10 ^ 30) o3 (by omega) (by omega) (by omega) (by decide) (by decide) (by decide) (by decide) fun rs r4 hr2 o4 => ?_
      have hr2 : Runs 400 (1000000000000000000000000000000 : Int) rs := hr2.mono (by decide) (by decide)
      have pos : ∀ p ∈ rs, 1 ≤ p.2 := fun p hp => (hr2.cnt p hp).1
      have tb := tot_big hr2
      refine dSeq.mk (dSeq.mk (use_ends (by have := hr2.len; omega) ?_))
      have hm := endsR_mem pos
      have hc4 : (cut ((endsR rs).map PyData.int) (some (-4)) none).length ≤ 4 := cut_last _ 4 (by decide)
      have hmem : ∀ d ∈ cut ((endsR rs).map PyData.int) (some (-4)) none, ∃ n : Int, d = .int n ∧ 0 ≤ n ∧ n ≤ totR rs := fun d hd => by
        obtain ⟨n, hn, rfl⟩ := List.mem_map.mp (cut_mem hd)
        exact ⟨n, rfl, hm n hn⟩
      show dFor _ _ _ ((cut ((endsR rs).map PyData.int) (some (-4)) none).map T.dat) _
      generalize cut ((endsR rs).map PyData.int) (some (-4)) none = es at hc4 hmem
      refine for_pre es _ (fun pre ρ => ∃ (r : Spr) (xs : List Int) (x_turn x_changes x_readers x_number : T), ρ = [.scr ns, .own r.d, x_turn, x_changes, x_readers, .own (rs.map drun), .own (xs.map .int), x_number] ∧ r.Ok (100000000 * i + 400100 + pre.length) ∧ xs.length ≤ 4 * pre.length ∧ ∀ n ∈ xs, -(2 ^ 120) < n ∧ n < 2 ^ 120) ⟨r4, [], _, _, _, _, rfl, ⟨o4.mono (by show 100000000 * i + 400000 + 1 + 1 + 4 * 20 ≤ 100000000 * i + 400100 + 0; omega), by simp, by simp⟩⟩ (fun pre d post ρ K2 eq hp k2 => ?_) (fun ρ hp => ?_)
      · obtain ⟨r, xs, x_turn, x_changes, x_readers, x_number, rfl, ⟨o, hx, hb⟩⟩ := hp
        obtain ⟨n, rfl, n0, n1⟩ := hmem d (by rw [eq]; simp)
        have hpl : pre.length < 4 := by have := congrArg List.length eq; simp at this; omega
        refine dg_i rfl (use_draw (m := n + 1) o (by omega) (by omega) (by omega) fun v r5 v0 v1 o5 => ?_)
        refine And.intro (a := (xs.map PyData.int).length + 4 ≤ sizeLine) (by rw [List.length_map]; exact Nat.le_trans (by omega : _ ≤ 30) (by decide)) ?_
        refine k2 _ ⟨r5, xs ++ [n - 1, n, n + 1, v], _, _, _, _, (by simp only [List.map_append]; rfl), ⟨o5.mono (by rw [List.length_append]; simp only [List.length_singleton]; omega), by simp; omega, fun z hz => ?_⟩⟩
        rcases List.mem_append.mp hz with hz | hz
        · exact hb z hz
        · simp only [List.mem_cons, List.not_mem_nil, or_false] at hz
          omega
      · obtain ⟨r, xs, x_turn, x_changes, x_readers, x_number, rfl, ⟨o, hx, hb⟩⟩ := hp
        refine dSeq.mk (And.intro (a := CPow 10 39) (by unfold CPow; decide) (And.intro (a := CPow 10 20) (by unfold CPow; decide) ?_))
        refine use_draw (m := 10 ^ 20) o (by omega) (by decide) (by decide) fun v5 r5 v50 v51 o5 => ?_
        refine use_draw (m := 5) o5 (by omega) (by decide) (by decide) fun v6 r6 v60 v61 o6 => ?_
        obtain ⟨R, eR, R1, R2⟩ : ∃ R : Int, gI [PyData.int 1, .int 2, .int 3, .int (10 ^ 39), .int (3 + v5)] v6 = some (.int R) ∧ 1 ≤ R ∧ R ≤ 1000000000000000000000000000000000000000 := by
          rcases (by omega : v6 = 0 ∨ v6 = 1 ∨ v6 = 2 ∨ v6 = 3 ∨ v6 = 4) with rfl | rfl | rfl | rfl | rfl
          · exact ⟨_, rfl, by decide, by decide⟩
          · exact ⟨_, rfl, by decide, by decide⟩
          · exact ⟨_, rfl, by decide, by decide⟩
          · exact ⟨_, rfl, by decide, by decide⟩
          · exact ⟨_, rfl, by omega, by omega⟩
        refine wO_i eR (use_right (R := R) (ns := xs) o6 (by omega) hr2 R1 R2 (by omega) hb fun r7 o7 => ?_)
        exact br_f rfl (k _ ⟨r7, _, _, _, _, _, _, rfl, o7.mono (by omega)⟩)
  · obtain ⟨r, x_turn, x_changes, x_readers, x_far, x_numbers, x_number, rfl, o⟩ := p
    refine use_obstructs (ds := []) (rs := []) (.inl rfl) trivial .nil (by decide) (by decide) ?_
    have e1 : obsB [] 3 (.tuple [.str ("few" : Str), .int 1]) = false := by decide +kernel
    rw [e1]
    refine br_t rfl ?_
    have hr1 : Runs 400 (1000000000000000000000000000000 : Int) [((0 : Int), (1 : Int))] := ⟨by decide, by decide, by decide, fun i a b ha hb => by
      have := (List.getElem?_eq_some_iff.mp hb).1
      simp at this⟩
    refine use_obstructs (ds := [drun (0, 1)]) (rs := [(0, 1)]) (.inl rfl) (rlk_self [(0, 1)]) hr1 (by decide) (by decide) ?_
    have e2 : obsB [((0 : Int), (1 : Int))] 3 (.list [.str ("few" : Str), .int 1]) = true := by decide +kernel
    rw [e2]
    exact q


theorem all {l : PySem.W.OpenLaw} {w : World} {K : PySem.W.Frag} {h : Heap} {mg : Str → Option Value} {fa : Addr} (X : K.In h) (G : h.Ns mainGlobals mg) (hfa : mg "law" = some (.ref fa))
    {f0 : Addr} {od0 an0 : Option Addr} {sl0 : Array (Option Value)} {oc0 kV0 dc0 pm0 cd0 ct0 : Value}
    {T0 : Addr} {tc0 : Value} {td0 : Option Addr} {tn0 : Nat} {tl0 : Array (Option Value)}
    {f1 : Addr} {od1 an1 : Option Addr} {sl1 : Array (Option Value)} {oc1 kV1 dc1 pm1 cd1 ct1 : Value}
    {f2 : Addr} {od2 an2 : Option Addr} {sl2 : Array (Option Value)} {oc2 kV2 dc2 pm2 cd2 ct2 : Value}
    {f3 : Addr} {od3 an3 : Option Addr} {sl3 : Array (Option Value)} {oc3 kV3 dc3 pm3 cd3 ct3 : Value}
    {f4 : Addr} {od4 an4 : Option Addr} {sl4 : Array (Option Value)} {oc4 kV4 dc4 pm4 cd4 ct4 : Value}
    {f5 : Addr} {od5 an5 : Option Addr} {sl5 : Array (Option Value)} {oc5 kV5 dc5 pm5 cd5 ct5 : Value}
    {f6 : Addr} {od6 an6 : Option Addr} {sl6 : Array (Option Value)} {oc6 kV6 dc6 pm6 cd6 ct6 : Value}
    {f7 : Addr} {od7 an7 : Option Addr} {sl7 : Array (Option Value)} {oc7 kV7 dc7 pm7 cd7 ct7 : Value}
    {f8 : Addr} {od8 an8 : Option Addr} {sl8 : Array (Option Value)} {oc8 kV8 dc8 pm8 cd8 ct8 : Value}
    {f9 : Addr} {od9 an9 : Option Addr} {sl9 : Array (Option Value)} {oc9 kV9 dc9 pm9 cd9 ct9 : Value}
    {f10 : Addr} {od10 an10 : Option Addr} {sl10 : Array (Option Value)} {oc10 kV10 dc10 pm10 cd10 ct10 : Value}
    {f11 : Addr} {od11 an11 : Option Addr} {sl11 : Array (Option Value)} {oc11 kV11 dc11 pm11 cd11 ct11 : Value}
    {f12 : Addr} {od12 an12 : Option Addr} {sl12 : Array (Option Value)} {oc12 kV12 dc12 pm12 cd12 ct12 : Value}
    {f13 : Addr} {od13 an13 : Option Addr} {sl13 : Array (Option Value)} {oc13 kV13 dc13 pm13 cd13 ct13 : Value}
    {f14 : Addr} {od14 an14 : Option Addr} {sl14 : Array (Option Value)} {oc14 kV14 dc14 pm14 cd14 ct14 : Value}
    {f15 : Addr} {od15 an15 : Option Addr} {sl15 : Array (Option Value)} {oc15 kV15 dc15 pm15 cd15 ct15 : Value}
    {f16 : Addr} {od16 an16 : Option Addr} {sl16 : Array (Option Value)} {oc16 kV16 dc16 pm16 cd16 ct16 : Value}
    {f17 : Addr} {od17 an17 : Option Addr} {sl17 : Array (Option Value)} {oc17 kV17 dc17 pm17 cd17 ct17 : Value}
    {f18 : Addr} {od18 an18 : Option Addr} {sl18 : Array (Option Value)} {oc18 kV18 dc18 pm18 cd18 ct18 : Value}
    {f19 : Addr} {od19 an19 : Option Addr} {sl19 : Array (Option Value)} {oc19 kV19 dc19 pm19 cd19 ct19 : Value}
    {f20 : Addr} {od20 an20 : Option Addr} {sl20 : Array (Option Value)} {oc20 kV20 dc20 pm20 cd20 ct20 : Value}
    {f21 : Addr} {od21 an21 : Option Addr} {sl21 : Array (Option Value)} {oc21 kV21 dc21 pm21 cd21 ct21 : Value}
    {f22 : Addr} {od22 an22 : Option Addr} {sl22 : Array (Option Value)} {oc22 kV22 dc22 pm22 cd22 ct22 : Value}
    {f23 : Addr} {od23 an23 : Option Addr} {sl23 : Array (Option Value)} {oc23 kV23 dc23 pm23 cd23 ct23 : Value}
    {tk_FEW : Tok}
    {tk_MANY : Tok}
    {tk_MAX_COUNT : Tok}
    {tk_MAX_RUNS : Tok}
    {tk_MOST_NUMBER : Tok}
    {tk_SINGLE : Tok}
    {tk_TWO : Tok}
    (a0 : PySem.W.nsIn K mainGlobals "is_integer" = some (some (.ref f0)))
    (l0 : K.lookup f0 = some ⟨oc0, od0, .func (PySem.W.fnOf "is_integer" "is_integer" (defArgs st_is_integer) (defBody st_is_integer) (defScope st_is_integer) (.ref T0) kV0 dc0 pm0 an0 cd0 ct0), sl0⟩)
    (c0 : PySem.W.codeIn K cd0 "is_integer" = true)
    (k0 : PySem.W.keepIn K (.ref f0) = true)
    (t0 : K.lookup T0 = some ⟨tc0, td0, .seq #[.none] tn0, tl0⟩)
    (a1 : PySem.W.nsIn K mainGlobals "is_listed" = some (some (.ref f1)))
    (l1 : K.lookup f1 = some ⟨oc1, od1, .func (PySem.W.fnOf "is_listed" "is_listed" (defArgs st_is_listed) (defBody st_is_listed) (defScope st_is_listed) .none kV1 dc1 pm1 an1 cd1 ct1), sl1⟩)
    (c1 : PySem.W.codeIn K cd1 "is_listed" = true)
    (k1 : PySem.W.keepIn K (.ref f1) = true)
    (a2 : PySem.W.nsIn K mainGlobals "is_change" = some (some (.ref f2)))
    (l2 : K.lookup f2 = some ⟨oc2, od2, .func (PySem.W.fnOf "is_change" "is_change" (defArgs st_is_change) (defBody st_is_change) (defScope st_is_change) .none kV2 dc2 pm2 an2 cd2 ct2), sl2⟩)
    (c2 : PySem.W.codeIn K cd2 "is_change" = true)
    (k2 : PySem.W.keepIn K (.ref f2) = true)
    (a3 : PySem.W.nsIn K mainGlobals "is_run" = some (some (.ref f3)))
    (l3 : K.lookup f3 = some ⟨oc3, od3, .func (PySem.W.fnOf "is_run" "is_run" (defArgs st_is_run) (defBody st_is_run) (defScope st_is_run) .none kV3 dc3 pm3 an3 cd3 ct3), sl3⟩)
    (c3 : PySem.W.codeIn K cd3 "is_run" = true)
    (k3 : PySem.W.keepIn K (.ref f3) = true)
    (a4 : PySem.W.nsIn K mainGlobals "is_record" = some (some (.ref f4)))
    (l4 : K.lookup f4 = some ⟨oc4, od4, .func (PySem.W.fnOf "is_record" "is_record" (defArgs st_is_record) (defBody st_is_record) (defScope st_is_record) .none kV4 dc4 pm4 an4 cd4 ct4), sl4⟩)
    (c4 : PySem.W.codeIn K cd4 "is_record" = true)
    (k4 : PySem.W.keepIn K (.ref f4) = true)
    (a5 : PySem.W.nsIn K mainGlobals "checked_record" = some (some (.ref f5)))
    (l5 : K.lookup f5 = some ⟨oc5, od5, .func (PySem.W.fnOf "checked_record" "checked_record" (defArgs st_checked_record) (defBody st_checked_record) (defScope st_checked_record) .none kV5 dc5 pm5 an5 cd5 ct5), sl5⟩)
    (c5 : PySem.W.codeIn K cd5 "checked_record" = true)
    (k5 : PySem.W.keepIn K (.ref f5) = true)
    (a6 : PySem.W.nsIn K mainGlobals "after_run" = some (some (.ref f6)))
    (l6 : K.lookup f6 = some ⟨oc6, od6, .func (PySem.W.fnOf "after_run" "after_run" (defArgs st_after_run) (defBody st_after_run) (defScope st_after_run) .none kV6 dc6 pm6 an6 cd6 ct6), sl6⟩)
    (c6 : PySem.W.codeIn K cd6 "after_run" = true)
    (k6 : PySem.W.keepIn K (.ref f6) = true)
    (a7 : PySem.W.nsIn K mainGlobals "ends_of" = some (some (.ref f7)))
    (l7 : K.lookup f7 = some ⟨oc7, od7, .func (PySem.W.fnOf "ends_of" "ends_of" (defArgs st_ends_of) (defBody st_ends_of) (defScope st_ends_of) .none kV7 dc7 pm7 an7 cd7 ct7), sl7⟩)
    (c7 : PySem.W.codeIn K cd7 "ends_of" = true)
    (k7 : PySem.W.keepIn K (.ref f7) = true)
    (a8 : PySem.W.nsIn K mainGlobals "ends_until" = some (some (.ref f8)))
    (l8 : K.lookup f8 = some ⟨oc8, od8, .func (PySem.W.fnOf "ends_until" "ends_until" (defArgs st_ends_until) (defBody st_ends_until) (defScope st_ends_until) .none kV8 dc8 pm8 an8 cd8 ct8), sl8⟩)
    (c8 : PySem.W.codeIn K cd8 "ends_until" = true)
    (k8 : PySem.W.keepIn K (.ref f8) = true)
    (a9 : PySem.W.nsIn K mainGlobals "check_many_readers" = some (some (.ref f9)))
    (l9 : K.lookup f9 = some ⟨oc9, od9, .func (PySem.W.fnOf "check_many_readers" "check_many_readers" (defArgs st_check_many_readers) (defBody st_check_many_readers) (defScope st_check_many_readers) .none kV9 dc9 pm9 an9 cd9 ct9), sl9⟩)
    (c9 : PySem.W.codeIn K cd9 "check_many_readers" = true)
    (k9 : PySem.W.keepIn K (.ref f9) = true)
    (a10 : PySem.W.nsIn K mainGlobals "obstructs" = some (some (.ref f10)))
    (l10 : K.lookup f10 = some ⟨oc10, od10, .func (PySem.W.fnOf "obstructs" "obstructs" (defArgs st_obstructs) (defBody st_obstructs) (defScope st_obstructs) .none kV10 dc10 pm10 an10 cd10 ct10), sl10⟩)
    (c10 : PySem.W.codeIn K cd10 "obstructs" = true)
    (k10 : PySem.W.keepIn K (.ref f10) = true)
    (a11 : PySem.W.nsIn K mainGlobals "_law_spring" = some (some (.ref f11)))
    (l11 : K.lookup f11 = some ⟨oc11, od11, .func (PySem.W.fnOf "_law_spring" "_law_spring" (defArgs st__law_spring) (defBody st__law_spring) (defScope st__law_spring) .none kV11 dc11 pm11 an11 cd11 ct11), sl11⟩)
    (c11 : PySem.W.codeIn K cd11 "_law_spring" = true)
    (k11 : PySem.W.keepIn K (.ref f11) = true)
    (a12 : PySem.W.nsIn K mainGlobals "_law_draw" = some (some (.ref f12)))
    (l12 : K.lookup f12 = some ⟨oc12, od12, .func (PySem.W.fnOf "_law_draw" "_law_draw" (defArgs st__law_draw) (defBody st__law_draw) (defScope st__law_draw) .none kV12 dc12 pm12 an12 cd12 ct12), sl12⟩)
    (c12 : PySem.W.codeIn K cd12 "_law_draw" = true)
    (k12 : PySem.W.keepIn K (.ref f12) = true)
    (a13 : PySem.W.nsIn K mainGlobals "_law_same" = some (some (.ref f13)))
    (l13 : K.lookup f13 = some ⟨oc13, od13, .func (PySem.W.fnOf "_law_same" "_law_same" (defArgs st__law_same) (defBody st__law_same) (defScope st__law_same) .none kV13 dc13 pm13 an13 cd13 ct13), sl13⟩)
    (c13 : PySem.W.codeIn K cd13 "_law_same" = true)
    (k13 : PySem.W.keepIn K (.ref f13) = true)
    (a14 : PySem.W.nsIn K mainGlobals "_law_dressed" = some (some (.ref f14)))
    (l14 : K.lookup f14 = some ⟨oc14, od14, .func (PySem.W.fnOf "_law_dressed" "_law_dressed" (defArgs st__law_dressed) (defBody st__law_dressed) (defScope st__law_dressed) .none kV14 dc14 pm14 an14 cd14 ct14), sl14⟩)
    (c14 : PySem.W.codeIn K cd14 "_law_dressed" = true)
    (k14 : PySem.W.keepIn K (.ref f14) = true)
    (a15 : PySem.W.nsIn K mainGlobals "_law_record" = some (some (.ref f15)))
    (l15 : K.lookup f15 = some ⟨oc15, od15, .func (PySem.W.fnOf "_law_record" "_law_record" (defArgs st__law_record) (defBody st__law_record) (defScope st__law_record) .none kV15 dc15 pm15 an15 cd15 ct15), sl15⟩)
    (c15 : PySem.W.codeIn K cd15 "_law_record" = true)
    (k15 : PySem.W.keepIn K (.ref f15) = true)
    (a16 : PySem.W.nsIn K mainGlobals "_law_next" = some (some (.ref f16)))
    (l16 : K.lookup f16 = some ⟨oc16, od16, .func (PySem.W.fnOf "_law_next" "_law_next" (defArgs st__law_next) (defBody st__law_next) (defScope st__law_next) .none kV16 dc16 pm16 an16 cd16 ct16), sl16⟩)
    (c16 : PySem.W.codeIn K cd16 "_law_next" = true)
    (k16 : PySem.W.keepIn K (.ref f16) = true)
    (a17 : PySem.W.nsIn K mainGlobals "_law_changes" = some (some (.ref f17)))
    (l17 : K.lookup f17 = some ⟨oc17, od17, .func (PySem.W.fnOf "_law_changes" "_law_changes" (defArgs st__law_changes) (defBody st__law_changes) (defScope st__law_changes) .none kV17 dc17 pm17 an17 cd17 ct17), sl17⟩)
    (c17 : PySem.W.codeIn K cd17 "_law_changes" = true)
    (k17 : PySem.W.keepIn K (.ref f17) = true)
    (a18 : PySem.W.nsIn K mainGlobals "_law_far" = some (some (.ref f18)))
    (l18 : K.lookup f18 = some ⟨oc18, od18, .func (PySem.W.fnOf "_law_far" "_law_far" (defArgs st__law_far) (defBody st__law_far) (defScope st__law_far) .none kV18 dc18 pm18 an18 cd18 ct18), sl18⟩)
    (c18 : PySem.W.codeIn K cd18 "_law_far" = true)
    (k18 : PySem.W.keepIn K (.ref f18) = true)
    (a19 : PySem.W.nsIn K mainGlobals "_law_totals" = some (some (.ref f19)))
    (l19 : K.lookup f19 = some ⟨oc19, od19, .func (PySem.W.fnOf "_law_totals" "_law_totals" (defArgs st__law_totals) (defBody st__law_totals) (defScope st__law_totals) .none kV19 dc19 pm19 an19 cd19 ct19), sl19⟩)
    (c19 : PySem.W.codeIn K cd19 "_law_totals" = true)
    (k19 : PySem.W.keepIn K (.ref f19) = true)
    (a20 : PySem.W.nsIn K mainGlobals "_law_ends" = some (some (.ref f20)))
    (l20 : K.lookup f20 = some ⟨oc20, od20, .func (PySem.W.fnOf "_law_ends" "_law_ends" (defArgs st__law_ends) (defBody st__law_ends) (defScope st__law_ends) .none kV20 dc20 pm20 an20 cd20 ct20), sl20⟩)
    (c20 : PySem.W.codeIn K cd20 "_law_ends" = true)
    (k20 : PySem.W.keepIn K (.ref f20) = true)
    (a21 : PySem.W.nsIn K mainGlobals "_law_holds" = some (some (.ref f21)))
    (l21 : K.lookup f21 = some ⟨oc21, od21, .func (PySem.W.fnOf "_law_holds" "_law_holds" (defArgs st__law_holds) (defBody st__law_holds) (defScope st__law_holds) .none kV21 dc21 pm21 an21 cd21 ct21), sl21⟩)
    (c21 : PySem.W.codeIn K cd21 "_law_holds" = true)
    (k21 : PySem.W.keepIn K (.ref f21) = true)
    (a22 : PySem.W.nsIn K mainGlobals "_law_right" = some (some (.ref f22)))
    (l22 : K.lookup f22 = some ⟨oc22, od22, .func (PySem.W.fnOf "_law_right" "_law_right" (defArgs st__law_right) (defBody st__law_right) (defScope st__law_right) .none kV22 dc22 pm22 an22 cd22 ct22), sl22⟩)
    (c22 : PySem.W.codeIn K cd22 "_law_right" = true)
    (k22 : PySem.W.keepIn K (.ref f22) = true)
    (a23 : PySem.W.nsIn K mainGlobals "law" = some (some (.ref f23)))
    (l23 : K.lookup f23 = some ⟨oc23, od23, .func (PySem.W.fnOf "law" "law" (defArgs st_law) (defBody st_law) (defScope st_law) .none kV23 dc23 pm23 an23 cd23 ct23), sl23⟩)
    (c23 : PySem.W.codeIn K cd23 "law" = true)
    (k23 : PySem.W.keepIn K (.ref f23) = true)
    (z_abs : PySem.W.nsIn K mainGlobals "abs" = some none)
    (z_all : PySem.W.nsIn K mainGlobals "all" = some none)
    (z_bool : PySem.W.nsIn K mainGlobals "bool" = some none)
    (z_int : PySem.W.nsIn K mainGlobals "int" = some none)
    (z_isinstance : PySem.W.nsIn K mainGlobals "isinstance" = some none)
    (z_len : PySem.W.nsIn K mainGlobals "len" = some none)
    (z_list : PySem.W.nsIn K mainGlobals "list" = some none)
    (z_max : PySem.W.nsIn K mainGlobals "max" = some none)
    (z_min : PySem.W.nsIn K mainGlobals "min" = some none)
    (z_range : PySem.W.nsIn K mainGlobals "range" = some none)
    (z_repr : PySem.W.nsIn K mainGlobals "repr" = some none)
    (z_str : PySem.W.nsIn K mainGlobals "str" = some none)
    (z_tuple : PySem.W.nsIn K mainGlobals "tuple" = some none)
    (z_zip : PySem.W.nsIn K mainGlobals "zip" = some none)
    (m_FEW : PySem.W.nsIn K mainGlobals "FEW" = some (some (.str ("few" : Str) tk_FEW)))
    (m_MANY : PySem.W.nsIn K mainGlobals "MANY" = some (some (.str ("many" : Str) tk_MANY)))
    (m_MAX_COUNT : PySem.W.nsIn K mainGlobals "MAX_COUNT" = some (some (.int 1000000000000000000000000000000 tk_MAX_COUNT)))
    (m_MAX_RUNS : PySem.W.nsIn K mainGlobals "MAX_RUNS" = some (some (.int 400 tk_MAX_RUNS)))
    (m_MOST_NUMBER : PySem.W.nsIn K mainGlobals "MOST_NUMBER" = some (some (.int 1000000000000000000000000000000000000000 tk_MOST_NUMBER)))
    (m_SINGLE : PySem.W.nsIn K mainGlobals "SINGLE" = some (some (.str ("single" : Str) tk_SINGLE)))
    (m_TWO : PySem.W.nsIn K mainGlobals "TWO" = some (some (.str ("two" : Str) tk_TWO)))
    : ∃ fd : FuncData, (∀ (s : Shared) (v : Value), BindsTo s fd ⟨[v], []⟩ [("script", v)]) ∧ ∀ base : Heap, K.In base → base.Ns mainGlobals mg → FnG l.prog w K mg base 8 fa fd ["script"] (toSp K 1 none sp_law) := by
  have e := hfa.symm.trans (PySem.W.mg_of X G a23)
  cases e
  have n_abs := PySem.W.mg_none_of X G z_abs
  have n_all := PySem.W.mg_none_of X G z_all
  have n_bool := PySem.W.mg_none_of X G z_bool
  have n_int := PySem.W.mg_none_of X G z_int
  have n_isinstance := PySem.W.mg_none_of X G z_isinstance
  have n_len := PySem.W.mg_none_of X G z_len
  have n_list := PySem.W.mg_none_of X G z_list
  have n_max := PySem.W.mg_none_of X G z_max
  have n_min := PySem.W.mg_none_of X G z_min
  have n_range := PySem.W.mg_none_of X G z_range
  have n_repr := PySem.W.mg_none_of X G z_repr
  have n_str := PySem.W.mg_none_of X G z_str
  have n_tuple := PySem.W.mg_none_of X G z_tuple
  have n_zip := PySem.W.mg_none_of X G z_zip
  have c_FEW : HasC mg "FEW" (.str ("few" : Str)) := ⟨_, PySem.W.mg_of X G m_FEW, ⟨_, rfl⟩⟩
  have c_MANY : HasC mg "MANY" (.str ("many" : Str)) := ⟨_, PySem.W.mg_of X G m_MANY, ⟨_, rfl⟩⟩
  have c_MAX_COUNT : HasC mg "MAX_COUNT" (.int 1000000000000000000000000000000) := ⟨_, PySem.W.mg_of X G m_MAX_COUNT, ⟨_, rfl⟩⟩
  have c_MAX_RUNS : HasC mg "MAX_RUNS" (.int 400) := ⟨_, PySem.W.mg_of X G m_MAX_RUNS, ⟨_, rfl⟩⟩
  have c_MOST_NUMBER : HasC mg "MOST_NUMBER" (.int 1000000000000000000000000000000000000000) := ⟨_, PySem.W.mg_of X G m_MOST_NUMBER, ⟨_, rfl⟩⟩
  have c_SINGLE : HasC mg "SINGLE" (.str ("single" : Str)) := ⟨_, PySem.W.mg_of X G m_SINGLE, ⟨_, rfl⟩⟩
  have c_TWO : HasC mg "TWO" (.str ("two" : Str)) := ⟨_, PySem.W.mg_of X G m_TWO, ⟨_, rfl⟩⟩
  have F0 : FunD K "is_integer" "is_integer" (defArgs st_is_integer) (defBody st_is_integer) (defScope st_is_integer) [V.non] [] f0 _ := ⟨⟨_, _, .ref T0, _, _, _, _, _, _, _, rfl, l0, c0, .inr ⟨by simp, T0, _, [.none], tn0, rfl, t0, rfl, (.cons rfl .nil)⟩, .inl rfl⟩, k0⟩
  have b0 : ∃ ds, Vals (([V.non] : List V).drop 1) ds ∧ Binds K _ ["value", "low", "high"] ds := F0.binds1 (ps := ["value", "low", "high"]) 3 1 (by simp) rfl (fun _ _ _ _ _ _ _ us its hl hi => match us, its, hl, hi with | [_, _, _], [_], _, _ => ⟨_, rfl, rfl⟩)
  obtain ⟨ds0, v0, b0⟩ := b0
  cases v0
  have F1 := fun_mk (st := st_is_listed) l1 c1 k1
  have b1 := F1.binds (ps := ["value"]) fun _ _ _ _ _ _ us hl => match us, hl with | [_], _ => rfl
  have F2 := fun_mk (st := st_is_change) l2 c2 k2
  have b2 := F2.binds (ps := ["value"]) fun _ _ _ _ _ _ us hl => match us, hl with | [_], _ => rfl
  have F3 := fun_mk (st := st_is_run) l3 c3 k3
  have b3 := F3.binds (ps := ["value"]) fun _ _ _ _ _ _ us hl => match us, hl with | [_], _ => rfl
  have F4 := fun_mk (st := st_is_record) l4 c4 k4
  have b4 := F4.binds (ps := ["value"]) fun _ _ _ _ _ _ us hl => match us, hl with | [_], _ => rfl
  have F5 := fun_mk (st := st_checked_record) l5 c5 k5
  have b5 := F5.binds (ps := ["value"]) fun _ _ _ _ _ _ us hl => match us, hl with | [_], _ => rfl
  have F6 := fun_mk (st := st_after_run) l6 c6 k6
  have b6 := F6.binds (ps := ["totals", "change", "count"]) fun _ _ _ _ _ _ us hl => match us, hl with | [_, _, _], _ => rfl
  have F7 := fun_mk (st := st_ends_of) l7 c7 k7
  have b7 := F7.binds (ps := ["runs"]) fun _ _ _ _ _ _ us hl => match us, hl with | [_], _ => rfl
  have F8 := fun_mk (st := st_ends_until) l8 c8 k8
  have b8 := F8.binds (ps := ["runs", "number"]) fun _ _ _ _ _ _ us hl => match us, hl with | [_, _], _ => rfl
  have F9 := fun_mk (st := st_check_many_readers) l9 c9 k9
  have b9 := F9.binds (ps := ["readers"]) fun _ _ _ _ _ _ us hl => match us, hl with | [_], _ => rfl
  have F10 := fun_mk (st := st_obstructs) l10 c10 k10
  have b10 := F10.binds (ps := ["record", "readers", "value"]) fun _ _ _ _ _ _ us hl => match us, hl with | [_, _, _], _ => rfl
  have F11 := fun_mk (st := st__law_spring) l11 c11 k11
  have b11 := F11.binds (ps := ["script"]) fun _ _ _ _ _ _ us hl => match us, hl with | [_], _ => rfl
  have F12 := fun_mk (st := st__law_draw) l12 c12 k12
  have b12 := F12.binds (ps := ["spring", "many"]) fun _ _ _ _ _ _ us hl => match us, hl with | [_, _], _ => rfl
  have F13 := fun_mk (st := st__law_same) l13 c13 k13
  have b13 := F13.binds (ps := ["found", "due"]) fun _ _ _ _ _ _ us hl => match us, hl with | [_, _], _ => rfl
  have F14 := fun_mk (st := st__law_dressed) l14 c14 k14
  have b14 := F14.binds (ps := ["spring", "value"]) fun _ _ _ _ _ _ us hl => match us, hl with | [_, _], _ => rfl
  have F15 := fun_mk (st := st__law_record) l15 c15 k15
  have b15 := F15.binds (ps := ["changes"]) fun _ _ _ _ _ _ us hl => match us, hl with | [_], _ => rfl
  have F16 := fun_mk (st := st__law_next) l16 c16 k16
  have b16 := F16.binds (ps := ["state", "change"]) fun _ _ _ _ _ _ us hl => match us, hl with | [_, _], _ => rfl
  have F17 := fun_mk (st := st__law_changes) l17 c17 k17
  have b17 := F17.binds (ps := ["spring", "readers", "most"]) fun _ _ _ _ _ _ us hl => match us, hl with | [_, _, _], _ => rfl
  have F18 := fun_mk (st := st__law_far) l18 c18 k18
  have b18 := F18.binds (ps := ["spring", "readers", "many", "most"]) fun _ _ _ _ _ _ us hl => match us, hl with | [_, _, _, _], _ => rfl
  have F19 := fun_mk (st := st__law_totals) l19 c19 k19
  have b19 := F19.binds (ps := ["record", "number"]) fun _ _ _ _ _ _ us hl => match us, hl with | [_, _], _ => rfl
  have F20 := fun_mk (st := st__law_ends) l20 c20 k20
  have b20 := F20.binds (ps := ["record"]) fun _ _ _ _ _ _ us hl => match us, hl with | [_], _ => rfl
  have F21 := fun_mk (st := st__law_holds) l21 c21 k21
  have b21 := F21.binds (ps := ["record", "readers", "word", "number"]) fun _ _ _ _ _ _ us hl => match us, hl with | [_, _, _, _], _ => rfl
  have F22 := fun_mk (st := st__law_right) l22 c22 k22
  have b22 := F22.binds (ps := ["spring", "record", "readers", "numbers"]) fun _ _ _ _ _ _ us hl => match us, hl with | [_, _, _, _], _ => rfl
  have F23 := fun_mk (st := st_law) l23 c23 k23
  refine ⟨PySem.W.fnOf "law" "law" (defArgs st_law) (defBody st_law) (defScope st_law) .none kV23 dc23 pm23 an23 cd23 ct23, fun s v => .of_eq rfl, fun base _ _ => ?_⟩
  have h_is_integer : Has l.prog w K mg base "is_integer" 1 ["value", "low", "high"] ms_is_integer sp_is_integer := ⟨⟨f0, _, PySem.W.mg_of X G a0, k0, b0, fn_dataD F0 sc_is_integer [] none (by intro j e; cases e) dn_is_integer (fun cdv A os s H E Wd B0 o vs hr tk => dp_is_integer n_bool n_int n_isinstance hr tk) (fun ts Q W _ h => law_is_integer ts Q W h)⟩, mono_is_integer, rfl⟩
  have h_is_listed : Has l.prog w K mg base "is_listed" 1 ["value"] ms_is_listed sp_is_listed := ⟨⟨f1, _, PySem.W.mg_of X G a1, k1, b1, fn_data F1 sc_is_listed [] none (by intro j e; cases e) dn_is_listed (fun cdv A os s H E Wd B0 o vs hr tk => dp_is_listed n_isinstance n_list n_tuple hr tk) (fun ts Q W _ h => law_is_listed ts Q W h)⟩, mono_is_listed, rfl⟩
  have h_is_change : Has l.prog w K mg base "is_change" 2 ["value"] ms_is_change sp_is_change := ⟨⟨f2, _, PySem.W.mg_of X G a2, k2, b2, fn_data F2 sc_is_change [] none (by intro j e; cases e) dn_is_change (fun cdv A os s H E Wd B0 o vs hr tk => dp_is_change h_is_integer hr tk) (fun ts Q W _ h => law_is_change ts Q W h)⟩, mono_is_change, rfl⟩
  have h_is_run : Has l.prog w K mg base "is_run" 3 ["value"] ms_is_run sp_is_run := ⟨⟨f3, _, PySem.W.mg_of X G a3, k3, b3, fn_data F3 sc_is_run [] none (by intro j e; cases e) dn_is_run (fun cdv A os s H E Wd B0 o vs hr tk => dp_is_run n_len c_MAX_COUNT h_is_change h_is_integer h_is_listed hr tk) (fun ts Q W _ h => law_is_run ts Q W h)⟩, mono_is_run, rfl⟩
  have h_is_record : Has l.prog w K mg base "is_record" 4 ["value"] ms_is_record sp_is_record := ⟨⟨f4, _, PySem.W.mg_of X G a4, k4, b4, fn_data F4 sc_is_record [1, 2, 3] none (by intro j e; cases e) dn_is_record (fun cdv A os s H E Wd B0 o vs hr tk => dp_is_record n_all n_len n_zip c_MAX_RUNS h_is_listed h_is_run hr tk) (fun ts Q W _ h => law_is_record ts Q W h)⟩, mono_is_record, rfl⟩
  have h_checked_record : Has l.prog w K mg base "checked_record" 5 ["value"] ms_checked_record sp_checked_record := ⟨⟨f5, _, PySem.W.mg_of X G a5, k5, b5, fn_data F5 sc_checked_record [1] none (by intro j e; cases e) dn_checked_record (fun cdv A os s H E Wd B0 o vs hr tk => dp_checked_record n_tuple h_is_record hr tk) (fun ts Q W _ h => law_checked_record ts Q W h)⟩, mono_checked_record, rfl⟩
  have h_after_run : Has l.prog w K mg base "after_run" 1 ["totals", "change", "count"] ms_after_run sp_after_run := ⟨⟨f6, _, PySem.W.mg_of X G a6, k6, b6, fn_data F6 sc_after_run [] none (by intro j e; cases e) dn_after_run (fun cdv A os s H E Wd B0 o vs hr tk => dp_after_run  hr tk) (fun ts Q W _ h => law_after_run ts Q W h)⟩, mono_after_run, rfl⟩
  have h_ends_of : Has l.prog w K mg base "ends_of" 2 ["runs"] ms_ends_of sp_ends_of := ⟨⟨f7, _, PySem.W.mg_of X G a7, k7, b7, fn_data F7 sc_ends_of [] none (by intro j e; cases e) dn_ends_of (fun cdv A os s H E Wd B0 o vs hr tk => dp_ends_of h_after_run hr tk) (fun ts Q W _ h => law_ends_of ts Q W h)⟩, mono_ends_of, rfl⟩
  have h_ends_until : Has l.prog w K mg base "ends_until" 2 ["runs", "number"] ms_ends_until sp_ends_until := ⟨⟨f8, _, PySem.W.mg_of X G a8, k8, b8, fn_data F8 sc_ends_until [] none (by intro j e; cases e) dn_ends_until (fun cdv A os s H E Wd B0 o vs hr tk => dp_ends_until n_min h_after_run hr tk) (fun ts Q W _ h => law_ends_until ts Q W h)⟩, mono_ends_until, rfl⟩
  have h_check_many_readers : Has l.prog w K mg base "check_many_readers" 2 ["readers"] ms_check_many_readers sp_check_many_readers := ⟨⟨f9, _, PySem.W.mg_of X G a9, k9, b9, fn_data F9 sc_check_many_readers [] none (by intro j e; cases e) dn_check_many_readers (fun cdv A os s H E Wd B0 o vs hr tk => dp_check_many_readers c_MOST_NUMBER h_is_integer hr tk) (fun ts Q W _ h => law_check_many_readers ts Q W h)⟩, mono_check_many_readers, rfl⟩
  have h_obstructs : Has l.prog w K mg base "obstructs" 6 ["record", "readers", "value"] ms_obstructs sp_obstructs := ⟨⟨f10, _, PySem.W.mg_of X G a10, k10, b10, fn_data F10 sc_obstructs [] none (by intro j e; cases e) dn_obstructs (fun cdv A os s H E Wd B0 o vs hr tk => dp_obstructs n_isinstance n_len n_list n_str n_tuple c_FEW c_MANY c_SINGLE c_TWO h_check_many_readers h_checked_record h_ends_of h_ends_until h_is_integer hr tk) (fun ts Q W _ h => law_obstructs ts Q W h)⟩, mono_obstructs, rfl⟩
  have h__law_spring : Has l.prog w K mg base "_law_spring" 1 ["script"] ms__law_spring sp__law_spring := ⟨⟨f11, _, PySem.W.mg_of X G a11, k11, b11, fn_data F11 sc__law_spring [] (some 0) (by intro j e; cases e; decide) dn__law_spring (fun cdv A os s H E Wd B0 o vs hr tk => dp__law_spring n_abs hr tk) (fun ts Q W _ h => law__law_spring ts Q W h)⟩, mono__law_spring, rfl⟩
  have h__law_draw : Has l.prog w K mg base "_law_draw" 1 ["spring", "many"] ms__law_draw sp__law_draw := ⟨⟨f12, _, PySem.W.mg_of X G a12, k12, b12, fn_data F12 sc__law_draw [] (some 0) (by intro j e; cases e; decide) dn__law_draw (fun cdv A os s H E Wd B0 o vs hr tk => dp__law_draw  hr tk) (fun ts Q W _ h => law__law_draw ts Q W h)⟩, mono__law_draw, rfl⟩
  have h__law_same : ∀ nr, Has l.prog w K mg base "_law_same" (0 + nr) ["found", "due"] ms__law_same (spn__law_same nr) := by
    intro nr; induction nr with
    | zero => exact ⟨⟨f13, _, PySem.W.mg_of X G a13, k13, b13, ⟨fun _ _ _ _ ⟨_, _, _, _, _, h⟩ => (never__law_same _ _ _ h).elim, fun _ _ _ _ _ _ _ _ _ _ _ _ _ ⟨_, _, _, _, _, h⟩ => (never__law_same _ _ _ h).elim⟩⟩, mono__law_same 0, rfl⟩
    | succ nr ih => exact ⟨⟨f13, _, PySem.W.mg_of X G a13, k13, b13, fn_data F13 sc__law_same [2] none (by intro j e; cases e) (dn__law_same (spn__law_same nr)) (fun cdv A os s H E Wd B0 o vs hr tk => dp__law_same n_all n_bool n_isinstance n_len n_list n_range n_str n_tuple ih hr tk) (fun ts Q W _ h => law__law_same nr ts Q W h)⟩, mono__law_same (nr + 1), rfl⟩
  have h__law_same : Has l.prog w K mg base "_law_same" 4 ["found", "due"] ms__law_same sp__law_same := h__law_same 4
  have h__law_dressed : ∀ nr, Has l.prog w K mg base "_law_dressed" (1 + nr) ["spring", "value"] ms__law_dressed (spn__law_dressed nr) := by
    intro nr; induction nr with
    | zero => exact ⟨⟨f14, _, PySem.W.mg_of X G a14, k14, b14, ⟨fun _ _ _ _ ⟨_, _, _, _, _, h⟩ => (never__law_dressed _ _ _ h).elim, fun _ _ _ _ _ _ _ _ _ _ _ _ _ ⟨_, _, _, _, _, h⟩ => (never__law_dressed _ _ _ h).elim⟩⟩, mono__law_dressed 0, rfl⟩
    | succ nr ih => exact ⟨⟨f14, _, PySem.W.mg_of X G a14, k14, b14, fn_data F14 sc__law_dressed [3] (some 0) (by intro j e; cases e; decide) (dn__law_dressed (spn__law_dressed nr)) (fun cdv A os s H E Wd B0 o vs hr tk => dp__law_dressed n_isinstance n_list n_tuple h__law_draw ih hr tk) (fun ts Q W _ h => law__law_dressed nr ts Q W h)⟩, mono__law_dressed (nr + 1), rfl⟩
  have h__law_dressed : Has l.prog w K mg base "_law_dressed" 5 ["spring", "value"] ms__law_dressed sp__law_dressed := h__law_dressed 4
  have h__law_record : Has l.prog w K mg base "_law_record" 1 ["changes"] ms__law_record sp__law_record := ⟨⟨f15, _, PySem.W.mg_of X G a15, k15, b15, fn_data F15 sc__law_record [] none (by intro j e; cases e) dn__law_record (fun cdv A os s H E Wd B0 o vs hr tk => dp__law_record  hr tk) (fun ts Q W _ h => law__law_record ts Q W h)⟩, mono__law_record, rfl⟩
  have h__law_next : Has l.prog w K mg base "_law_next" 1 ["state", "change"] ms__law_next sp__law_next := ⟨⟨f16, _, PySem.W.mg_of X G a16, k16, b16, fn_data F16 sc__law_next [] none (by intro j e; cases e) dn__law_next (fun cdv A os s H E Wd B0 o vs hr tk => dp__law_next n_int n_len n_range hr tk) (fun ts Q W _ h => law__law_next ts Q W h)⟩, mono__law_next, rfl⟩
  have h__law_changes : Has l.prog w K mg base "_law_changes" 2 ["spring", "readers", "most"] ms__law_changes sp__law_changes := ⟨⟨f17, _, PySem.W.mg_of X G a17, k17, b17, fn_data F17 sc__law_changes [9, 10] (some 0) (by intro j e; cases e; decide) dn__law_changes (fun cdv A os s H E Wd B0 o vs hr tk => dp__law_changes n_len n_range h__law_draw h__law_next hr tk) (fun ts Q W _ h => law__law_changes ts Q W h)⟩, mono__law_changes, rfl⟩
  have h__law_far : Has l.prog w K mg base "_law_far" 2 ["spring", "readers", "many", "most"] ms__law_far sp__law_far := ⟨⟨f18, _, PySem.W.mg_of X G a18, k18, b18, fn_data F18 sc__law_far [] (some 0) (by intro j e; cases e; decide) dn__law_far (fun cdv A os s H E Wd B0 o vs hr tk => dp__law_far n_min n_range h__law_draw hr tk) (fun ts Q W _ h => law__law_far ts Q W h)⟩, mono__law_far, rfl⟩
  have h__law_totals : Has l.prog w K mg base "_law_totals" 1 ["record", "number"] ms__law_totals sp__law_totals := ⟨⟨f19, _, PySem.W.mg_of X G a19, k19, b19, fn_data F19 sc__law_totals [] none (by intro j e; cases e) dn__law_totals (fun cdv A os s H E Wd B0 o vs hr tk => dp__law_totals n_max n_min hr tk) (fun ts Q W _ h => law__law_totals ts Q W h)⟩, mono__law_totals, rfl⟩
  have h__law_ends : Has l.prog w K mg base "_law_ends" 1 ["record"] ms__law_ends sp__law_ends := ⟨⟨f20, _, PySem.W.mg_of X G a20, k20, b20, fn_data F20 sc__law_ends [] none (by intro j e; cases e) dn__law_ends (fun cdv A os s H E Wd B0 o vs hr tk => dp__law_ends  hr tk) (fun ts Q W _ h => law__law_ends ts Q W h)⟩, mono__law_ends, rfl⟩
  have h__law_holds : Has l.prog w K mg base "_law_holds" 2 ["record", "readers", "word", "number"] ms__law_holds sp__law_holds := ⟨⟨f21, _, PySem.W.mg_of X G a21, k21, b21, fn_data F21 sc__law_holds [] none (by intro j e; cases e) dn__law_holds (fun cdv A os s H E Wd B0 o vs hr tk => dp__law_holds h__law_ends h__law_totals hr tk) (fun ts Q W _ h => law__law_holds ts Q W h)⟩, mono__law_holds, rfl⟩
  have h__law_right : Has l.prog w K mg base "_law_right" 7 ["spring", "record", "readers", "numbers"] ms__law_right sp__law_right := ⟨⟨f22, _, PySem.W.mg_of X G a22, k22, b22, fn_data F22 sc__law_right [10] (some 0) (by intro j e; cases e; decide) dn__law_right (fun cdv A os s H E Wd B0 o vs hr tk => dp__law_right n_repr h__law_dressed h__law_holds h__law_same h_obstructs hr tk) (fun ts Q W _ h => law__law_right ts Q W h)⟩, mono__law_right, rfl⟩
  exact fn_data F23 sc_law [] none (by intro j e; cases e) dn_law (fun cdv A os s H E Wd B0 o vs hr tk => dp_law n_len n_list n_min n_range h__law_changes h__law_draw h__law_ends h__law_far h__law_record h__law_right h__law_spring h_obstructs hr tk) (fun ts Q W _ h => law_law ts Q W h)
end Lw

open PySem PySem.W PyProof.Rows in
set_option maxRecDepth 100000 in
set_option maxHeartbeats 0 in
theorem PySem.Challenge.cw_teesizes_k15_obstructions_judged_holds : PySem.Challenge.rw_teesizes_k15_obstructions_judged.Holds := by
  w_on; o_law; k_head; (case hw => w_witness2)
  k_fill
  refine Ds.walkD (l := PySem.Challenge.rw_teesizes_k15_obstructions_judged) (k := 8) rfl rfl ⟨⟨rfl, by decide, by decide⟩, rfl⟩ (fun w h Y => PySem.W.kIn_of Y) Lw.mono_law (fun ns Q W hl h => ⟨ns, rfl, hl, h⟩) ?F
  case F =>
    intro w mg fa h KX G hmg
    refine' Lw.all KX G hmg ?a0 ?l0 ?c0 ?k0 ?t0 ?a1 ?l1 ?c1 ?k1 ?a2 ?l2 ?c2 ?k2 ?a3 ?l3 ?c3 ?k3 ?a4 ?l4 ?c4 ?k4 ?a5 ?l5 ?c5 ?k5 ?a6 ?l6 ?c6 ?k6 ?a7 ?l7 ?c7 ?k7 ?a8 ?l8 ?c8 ?k8 ?a9 ?l9 ?c9 ?k9 ?a10 ?l10 ?c10 ?k10 ?a11 ?l11 ?c11 ?k11 ?a12 ?l12 ?c12 ?k12 ?a13 ?l13 ?c13 ?k13 ?a14 ?l14 ?c14 ?k14 ?a15 ?l15 ?c15 ?k15 ?a16 ?l16 ?c16 ?k16 ?a17 ?l17 ?c17 ?k17 ?a18 ?l18 ?c18 ?k18 ?a19 ?l19 ?c19 ?k19 ?a20 ?l20 ?c20 ?k20 ?a21 ?l21 ?c21 ?k21 ?a22 ?l22 ?c22 ?k22 ?a23 ?l23 ?c23 ?k23 ?z_abs ?z_all ?z_bool ?z_int ?z_isinstance ?z_len ?z_list ?z_max ?z_min ?z_range ?z_repr ?z_str ?z_tuple ?z_zip ?m_FEW ?m_MANY ?m_MAX_COUNT ?m_MAX_RUNS ?m_MOST_NUMBER ?m_SINGLE ?m_TWO
    (case a0 => k_is)
    (case l0 => k_is)
    (case c0 => k_is)
    (case k0 => k_is)
    (case t0 => k_is)
    (case a1 => k_is)
    (case l1 => k_is)
    (case c1 => k_is)
    (case k1 => k_is)
    (case a2 => k_is)
    (case l2 => k_is)
    (case c2 => k_is)
    (case k2 => k_is)
    (case a3 => k_is)
    (case l3 => k_is)
    (case c3 => k_is)
    (case k3 => k_is)
    (case a4 => k_is)
    (case l4 => k_is)
    (case c4 => k_is)
    (case k4 => k_is)
    (case a5 => k_is)
    (case l5 => k_is)
    (case c5 => k_is)
    (case k5 => k_is)
    (case a6 => k_is)
    (case l6 => k_is)
    (case c6 => k_is)
    (case k6 => k_is)
    (case a7 => k_is)
    (case l7 => k_is)
    (case c7 => k_is)
    (case k7 => k_is)
    (case a8 => k_is)
    (case l8 => k_is)
    (case c8 => k_is)
    (case k8 => k_is)
    (case a9 => k_is)
    (case l9 => k_is)
    (case c9 => k_is)
    (case k9 => k_is)
    (case a10 => k_is)
    (case l10 => k_is)
    (case c10 => k_is)
    (case k10 => k_is)
    (case a11 => k_is)
    (case l11 => k_is)
    (case c11 => k_is)
    (case k11 => k_is)
    (case a12 => k_is)
    (case l12 => k_is)
    (case c12 => k_is)
    (case k12 => k_is)
    (case a13 => k_is)
    (case l13 => k_is)
    (case c13 => k_is)
    (case k13 => k_is)
    (case a14 => k_is)
    (case l14 => k_is)
    (case c14 => k_is)
    (case k14 => k_is)
    (case a15 => k_is)
    (case l15 => k_is)
    (case c15 => k_is)
    (case k15 => k_is)
    (case a16 => k_is)
    (case l16 => k_is)
    (case c16 => k_is)
    (case k16 => k_is)
    (case a17 => k_is)
    (case l17 => k_is)
    (case c17 => k_is)
    (case k17 => k_is)
    (case a18 => k_is)
    (case l18 => k_is)
    (case c18 => k_is)
    (case k18 => k_is)
    (case a19 => k_is)
    (case l19 => k_is)
    (case c19 => k_is)
    (case k19 => k_is)
    (case a20 => k_is)
    (case l20 => k_is)
    (case c20 => k_is)
    (case k20 => k_is)
    (case a21 => k_is)
    (case l21 => k_is)
    (case c21 => k_is)
    (case k21 => k_is)
    (case a22 => k_is)
    (case l22 => k_is)
    (case c22 => k_is)
    (case k22 => k_is)
    (case a23 => k_is)
    (case l23 => k_is)
    (case c23 => k_is)
    (case k23 => k_is)
    (case z_abs => k_is)
    (case z_all => k_is)
    (case z_bool => k_is)
    (case z_int => k_is)
    (case z_isinstance => k_is)
    (case z_len => k_is)
    (case z_list => k_is)
    (case z_max => k_is)
    (case z_min => k_is)
    (case z_range => k_is)
    (case z_repr => k_is)
    (case z_str => k_is)
    (case z_tuple => k_is)
    (case z_zip => k_is)
    (case m_FEW => k_is)
    (case m_MANY => k_is)
    (case m_MAX_COUNT => k_is)
    (case m_MAX_RUNS => k_is)
    (case m_MOST_NUMBER => k_is)
    (case m_SINGLE => k_is)
    (case m_TWO => k_is)

