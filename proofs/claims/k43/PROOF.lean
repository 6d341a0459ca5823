import PyProof.Rows.All
import Wide.All
import OpenK.AllK
import Wide.FinOn
import KE.KStateDown
import Lean
import HandS.ForMost
import HandS.Walk
import HandS.TupAny
import HandS.Defaults
import HandS.Exc
import HandS.TryOnly
import HandS.ExcOwn
import HandS.TupLen
import HandS.HeadEnd
import KE.LtSeq
import HandS.TupLe
import HandS.Deep
import PyProof.Rows.InDataRows
import PyProof.MaxThree
import HandS.Style
import HandS.Wide
import HandS.TupMul
import PyProof.ReprRoads
import PyProof.CallFns
import KE.SortData
import HandS.Conv
import KE.DataMinMax
import PyProof.P3Eq
import HandS.IsInst
import HandS.Star
import HandS.Iter
import HandS.Gcd
import HandS.Head0
import HandS.Head1
import HandS.Head2
import HandS.HeadHook1
import HandS.HeadHook2
import KE.KDictPairs
import KE.KDictKeyed
import HandS.DictComp
import KE.GoesEnum
import HandS.Base
import HandS.Call
import HandS.Ends
import HandS.More
import HandS.Words
import HandS.WordsExc
import PySem.Challenge.RW_lettersagain_k43_points_on_a_round
set_option Elab.async false
set_option linter.all false
set_option maxRecDepth 100000
set_option maxHeartbeats 2000000
namespace Dz
open PySem PySem.Spec PyProof.Rows L2
/-! ## room, and no display under way: what a def may lean on -/
structure RmG (k : Nat) (A : Around) : Prop where
  room : Room k A
  gd : A.guards = some []
theorem RmG.mono {j k : Nat} {A : Around} (r : RmG k A) (h : j ≤ k) : RmG j A := ⟨r.room.mono h, r.gd⟩
theorem RmG.un {k : Nat} {A : Around} (r : RmG k A) : A.units + 16 * k + 200 < cLine := r.room.un
theorem RmG.units {k : Nat} {A : Around} (r : RmG k A) : A.units + 64 < cLine := r.room.units
theorem RmG.deeper {k : Nat} {A : Around} (r : RmG (k + 1) A) (env : PySem.Env) : RmG k (A.deeper env) := ⟨r.room.deeper env, r.gd⟩
/-- a def's promise, where nothing is shown around it -/
structure FnG (P : Program) (w : World) (K : PySem.W.Frag) (mg : Str → Option Value) (base : Heap) (CX : CXT) (k : Nat) (f : Addr) (fd : FuncData) (ps : List Str) (sp : Sp) : Prop where
  len : ∀ vs H Q E, sp vs H Q E → vs.length = ps.length
  run : ∀ {A : Around} {outer : List PySem.Env} {s : Shared} {H : Hp} {args : Args} {us : List Value} {vs : List V} {Q : VK} {E : XK}, RmG k A → Env0 P w K mg base A outer s H → BindsTo s fd args (ps.zip us) → Vals vs us → sp vs H Q E →
    codeAny (model P w) A (.call (.ref f) args) (CR CX outer P w H s Q E) s
section
variable {P : Program} {w : World} {K : PySem.W.Frag} {mg : Str → Option Value} {base : Heap} {CX : CXT} {k : Nat} {f : Addr} {fd : FuncData} {ps : List Str} {sp : Sp}
theorem FnG.mono {j : Nat} (F : FnG P w K mg base CX j f fd ps sp) (h : j ≤ k) : FnG P w K mg base CX k f fd ps sp := ⟨F.len, fun hr => F.run (hr.mono h)⟩
theorem FnG.imp {sp' : Sp} (F : FnG P w K mg base CX k f fd ps sp) (h : ∀ vs H Q E, sp' vs H Q E → sp vs H Q E) : FnG P w K mg base CX k f fd ps sp' :=
  ⟨fun vs H Q E q => F.len vs H Q E (h _ _ _ _ q), fun hr he hb hv hs => F.run hr he hb hv (h _ _ _ _ hs)⟩
/-- by its body, read where nothing is shown around it -/
theorem fnG_of {x qual : Str} {params : Arguments} {body : List Stmt} {scope : Scope} {dvs : List V} {kws : List (Str × V)} {N : List Str} (F : FunD K x qual params body scope dvs kws f fd) (S : FnScope N ps scope) (len : ∀ vs H Q E, sp vs H Q E → vs.length = ps.length)
    (hbody : ∀ (cdv : Value) (A : Around) (outer : List PySem.Env) (s : Shared) (H : Hp) (vs : List V) (Q : VK) (E : XK), RmG k (A.deeper (envOfC qual scope s.heap.objs.size f cdv)) → sp vs H Q E →
      ∃ t, PSs (cxOf CX P w K mg base N qual scope f cdv A outer s H E) body t ∧ t { nx := fun _ H' => Q .non H', rt := Q } (L2.start N vs) H) : FnG P w K mg base CX (k + 1) f fd ps sp := by
  obtain ⟨oc, od, dV, kV, doc, pm, an, cdv, ct, osl, rfl, lk, hcd, _, _⟩ := F.ex
  constructor
  · exact len
  · intro A outer s H args us vs Q E hr e0 hb rv hsp
    have back := fun b o e => (e0.bs b o e).1
    have inK : K.In s.heap := e0.mod.kin.keeps back
    have kinds : ∀ y ∈ ps.zip us, scope.names.lookup y.1 = some .local ∨ (scope.names.lookup y.1 = some .cell ∧ ((cellsFrom (s.heap.objs.size + 1) scope.names []).lookup y.1).isSome = true) := by
      rintro ⟨n, v⟩ hy
      exact (S.par n (List.of_mem_zip hy).1).imp id fun q => ⟨q, PySem.W.cellsFrom_some _ _ _ (.inl q)⟩
    refine codeAny_call_function hr.room.depth (inK _ _ lk) rfl S.co S.gen rfl (PySem.W.codeRec_of inK hcd) (hb _ _ _ _ (wpAny_newFunctionEnv_cells S.kind kinds ?_))
    rintro env he s1 x
    subst he
    refine ⟨(e0.mod.nolimit.keeps back).keeps x.toInCall.keep, codeAny_func ?_⟩
    obtain ⟨t, ht, hq⟩ := hbody cdv A outer s H vs Q E (hr.deeper _) hsp
    refine wpAny_mono (ht.run [] s1 (L2.start N vs) H _ (inv_start S hr.room.hd e0 (len _ _ _ _ hsp) rv x) hq) ?_ (fun _ _ hs => hs)
    intro fl s' hs
    cases fl with
    | brk => exact hs.choose_spec.choose_spec.2.elim
    | cont => exact hs.choose_spec.choose_spec.2.elim
    | next =>
      obtain ⟨σ', H', J, q⟩ := hs
      exact ⟨V.non, H', J.os, J.bare, J.base, J.hok, rfl, q⟩
    | ret u =>
      obtain ⟨v, σ', H', J, rw', q⟩ := hs
      exact ⟨v, H', J.os, J.bare, J.base, J.hok, rw', q⟩
end
section
variable {X : Cx} {CX : CXT} {k : Nat} {f : Addr} {fd : FuncData} {ps : List Str} {sp : Sp} {dvs : List V} {ds : List Value} {E : XK} {x : Str} {p pos : Pos} {e : Expr} {es : List Expr} {t : TA}
theorem runG {pins : List (Addr × Obj)} {σ : L2.St} {H : Hp} {s : Shared} {Q : VK} {us : List Value} {vs : List V} (F : FnG X.prog X.w X.K X.mg X.base CX k f fd ps sp) (hr : RmG k X.A) (hb : Binds X.K fd ps ds) (hd : Vals dvs ds) (hx : Passes CX X E)
    (I : L2.Inv X pins σ H s) (r : Vals vs us) (h : sp (vs ++ dvs) H Q E) : wpAny (model X.prog X.w) X.A (call (.ref f) us) (EP X pins σ Q) X.xe s := by
  have r2 := r.append hd
  have hl := (r2.length).symm.trans (F.len _ _ _ _ h)
  refine wpAny_call (codeAny_mono (F.run (args := ⟨us, []⟩) hr I.env0 (hb s us I.kIn hl) r2 h) ?_)
  rintro (er | fl) s' hq
  · exact hx pins σ H s er s' I hq
  · cases fl with
    | ret u => exact I.after hq
    | next => cases hq
    | brk => cases hq
    | cont => cases hq
theorem pe_callG (F : FnG X.prog X.w X.K X.mg X.base CX k f fd ps sp) (hr : RmG k X.A) (hg : Gl X x) (hm : X.mg x = some (.ref f)) (hk : PySem.W.keepIn X.K (.ref f) = true) (hb : Binds X.K fd ps ds) (hd : Vals dvs ds) (hx : Passes CX X E)
    (ha : PA X (e :: es) t) (hdb : (x == ("__debug__" : Str)) = false := by decide) (he : starEach (e :: es) X.env = (false, eval e X.env) :: starEach es X.env := by rfl) (hpl : (backTo pos (starEach es X.env)).any (·.1) = false := by rfl) :
    PE X (.Call (.Name x p) (e :: es) [] pos) (tCall sp dvs E t) := ⟨fun pins s σ H Q I h =>
  wpAny_Call_Name_kw (ld_glob I hg hm (PySem.W.callWith_K (h₀ := X.base) I.ok.mod.kin hk (thn (ha.run pos pins s σ H _ I h) fun us s1 ⟨vs, H1, I1, r, q⟩ => ⟨I1.kIn, runG F hr hb hd hx I1 r q⟩) he hpl) hdb)⟩
end
/-! ## the law's end -/
/-- a law whose def promises where nothing is shown around it -/
theorem lawG {P : Program} {w : World} {K : PySem.W.Frag} {mg mb : Str → Option Value} {k : Nat} {fa a : Addr} {fd : FuncData} {x : Str} {sp : Sp} {s : Shared} {vs : List Value} {ns : List Int}
    (KX : K.In s.heap) (hns : s.heap.Ns mainGlobals mg) (hb : s.heap.Ns builtinsNs mb) (hbb : ∀ x : Str, x ≠ "__name__" → mb x = bootBuiltins x) (hlim : s.heap.NoLimit) (hg : s.gens = #[])
    (ha : s.heap.get? a = some { cls := .type "list", data := .seq vs.toArray }) (hi : IntsAre vs ns) (hl : ns.length ≤ sizeLine) (hr : RmG k callerA)
    (F : ∀ base : Heap, FnG P w K mg base CX0 k fa fd [x] sp) (hbind : ∀ (s : Shared) (u : Value), BindsTo s fd ⟨[u], []⟩ [(x, u)])
    (hsp : ∀ H : Hp, SqL K H a (ns.map V.int) → sp [.ref a] H (fun v _ => v = .bl true) fun _ _ _ => False) :
    codeAny (model P w) callerA (.call (.ref fa) ⟨[.ref a], []⟩) (fun r s' => r = .ok (.ret (.bool true)) ∧ OldK s.heap s'.heap ∧ s'.os = s.os ∧ AllBare s'.gens) s := by
  have rv := vals_ints hi
  have go : ∀ H : Hp, Only H → SqL K H a (ns.map V.int) → HOk P w H s.heap → (∀ b, H b ≠ none → b = a ∧ K.lookup a = none) →
      codeAny (model P w) callerA (.call (.ref fa) ⟨[.ref a], []⟩) (fun r s' => r = .ok (.ret (.bool true)) ∧ OldK s.heap s'.heap ∧ s'.os = s.os ∧ AllBare s'.gens) s := by
    intro H hO hS ok only
    have low : ∀ {b : Addr} {o : Obj}, s.heap.get? b = some o → H b = none → (hidT s.heap H).get? b = some o := fun e n => hidT_get e n
    have ns' : ∀ {b : Addr} {m : Str → Option Value}, s.heap.Ns b m → (hidT s.heap H).Ns b m := by
      rintro b m ⟨o, es, ep, e, d, r⟩
      refine ⟨o, es, ep, low e ?_, d, r⟩
      cases q : H b with
      | none => rfl
      | some u =>
        obtain ⟨rfl, _⟩ := only b (by rw [q]; exact fun z => nomatch z)
        rw [ha] at e
        cases e
        cases d
    have kin : K.In (hidT s.heap H) := fun b o e => low (KX b o e) (by
      cases q : H b with
      | none => rfl
      | some u =>
        obtain ⟨rfl, z⟩ := only b (by rw [q]; exact fun z => nomatch z)
        rw [z] at e; cases e)
    obtain ⟨mc, l1, l2⟩ := hlim
    have e0 : Env0 P w K mg (hidT s.heap H) callerA [] s H := ⟨rfl, ⟨kin, ns' hns, ⟨mb, ns' hb, hbb⟩, ⟨mc, ns' l1, l2⟩⟩, fun b o e => of_hidT e, Nat.le_of_eq (hidT_size _ _), trivial, (fun b hb => by cases hb), ok, .of_eq hg⟩
    refine codeAny_mono ((F _).run (us := [.ref a]) (vs := [.ref a]) hr e0 (hbind s (.ref a)) (.cons rfl .nil) (hsp H hS)) ?_
    rintro (er | fl) s' h
    · exact False.elim h
    · cases fl with
      | next => cases h
      | brk => cases h
      | cont => cases h
      | ret u =>
        obtain ⟨v, H', os, bare, un, ok', r', q⟩ := h
        obtain rfl : v = .bl true := q
        obtain rfl : u = Value.bool true := r'
        refine ⟨rfl, OldK.of_keep ?_, os, bare⟩
        intro b o e
        rcases hO b with z | ⟨ob, xs, z⟩
        · exact un.keep b o e z (fun z => by cases z) (fun z => by cases z)
        · obtain ⟨e1, _⟩ := ok b _ z
          obtain ⟨e2, _⟩ := ok' b _ (un.frzs b ob _ z)
          rw [e] at e1
          cases e1
          exact e2
  cases hk : K.lookup a with
  | some o =>
    have e := KX a o hk
    rw [ha] at e
    cases e
    exact go (fun _ => none) (fun _ => .inl rfl) (.inr ⟨_, vs.toArray, _, hk, rfl, rfl, rfl, by rw [List.size_toArray, hi.length]; exact hl, by simpa using rv⟩) (fun b u z => nomatch z) (fun b z => absurd rfl z)
  | none =>
    refine go (fun b => if b = a then some (.frz { cls := .type "list", data := .seq vs.toArray } (.lst (ns.map V.int))) else none) (fun b => ?_) (.inl (.inr ⟨_, if_pos rfl⟩)) (fun b u z => ?_) (fun b z => ?_)
    · exact if hb' : b = a then .inr ⟨_, _, if_pos hb'⟩ else .inl (if_neg hb')
    · by_cases hb' : b = a
      · have z' := (if_pos hb').symm.trans z
        subst hb'
        cases z'
        exact ⟨ha, by rw [List.length_map]; exact hl, vs, _, rv, ha⟩
      · exact absurd ((if_neg hb').symm.trans z) (fun z => nomatch z)
    · exact if hb' : b = a then ⟨hb', hk⟩ else absurd (if_neg hb') z
theorem walkG {l : PySem.W.OpenLaw} {n k : Nat} {q : Program} {loose : List Str} {XP : (Str → Option Value) → Heap → Prop} {YP : World → Heap → Prop} {d : DefRec} {x : Str}
    (hn : l.most = some n) (hn2 : n ≤ sizeLine) (hdf : d.params.defaults = []) (hr : Room k callerA)
    (F : ∀ (w : World) (mg : Str → Option Value) (fa : Addr) (h : Heap), YP w h → h.Ns mainGlobals mg → mg d.name = some (.ref fa) →
      ∃ (K : PySem.W.Frag) (fd : FuncData) (sp : Sp), K.In h ∧ (∀ (s : Shared) (u : Value), BindsTo s fd ⟨[u], []⟩ [(x, u)]) ∧
        (∀ (H : Hp) (a : Addr) (ns : List Int), ns.length ≤ n → SqL K H a (ns.map V.int) → sp [.ref a] H (fun v _ => v = .bl true) fun _ _ _ => False) ∧
        ∀ base : Heap, FnG l.prog w K mg base CX0 k fa fd [x] sp) : PySem.W.WalkO q loose XP YP l.row.toRowW d [] (fun f vs => PySem.call f vs) := by
  refine Att.attach_call hn hdf fun w s₀ s₁ mg mb fa o pm cd doc a vs ns G Y ho hd hcd hmg hobj hints hlen hg => ?_
  obtain ⟨K, fd, sp, KX, hb, hsp, hF⟩ := F w mg fa _ Y G.T.g hmg
  exact lawG KX G.T.g G.T.b G.T.builtins G.T.nolimit hg hobj hints (Nat.le_trans hlen hn2) ⟨hr, rfl⟩ hF hb fun H hS => hsp H a ns hlen hS
end Dz

set_option maxRecDepth 100000
set_option maxHeartbeats 2000000
namespace Dz
open PySem PySem.Spec PyProof.Rows L2
/-! ## the data level: what a piece of code tells, as a function of data -/
abbrev D := PyData
/-- a value, an own error (its class, what it bears), or no word -/
inductive R (a : Type) where
  | ok (x : a)
  | err (c : Str) (p : D)
  | no
def R.bind {a b : Type} (r : R a) (f : a → R b) : R b := match r with
  | .ok x => f x
  | .err c p => .err c p
  | .no => .no
@[simp] theorem R.bind_ok {a b : Type} (x : a) (f : a → R b) : (R.ok x).bind f = f x := rfl
@[simp] theorem R.bind_err {a b : Type} (c : Str) (p : D) (f : a → R b) : (R.err c p).bind f = .err c p := rfl
@[simp] theorem R.bind_no {a b : Type} (f : a → R b) : (R.no).bind f = .no := rfl
theorem R.of_bind {a b : Type} {r : R a} {f : a → R b} {y : b} (h : r.bind f = .ok y) : ∃ x, r = .ok x ∧ f x = .ok y := by
  cases r with
  | ok x => exact ⟨x, rfl, h⟩
  | err c p => cases h
  | no => cases h
/-- .. where errors are not looked for -/
def R.bindP {a b : Type} (r : R a) (f : a → R b) : R b := match r with
  | .ok x => f x
  | _ => .no
@[simp] theorem R.bindP_ok {a b : Type} (x : a) (f : a → R b) : (R.ok x).bindP f = f x := rfl
/-- an assertion -/
def R.when {a : Type} (c : Bool) (r : R a) : R a := if c = true then r else .no
theorem R.of_when {a : Type} {c : Bool} {r : R a} {y : a} (h : R.when c r = .ok y) : c = true ∧ r = .ok y := by
  unfold R.when at h
  split at h
  · exact ⟨by assumption, h⟩
  · cases h
@[simp] theorem R.when_true {a : Type} (r : R a) : R.when true r = r := rfl

/-! ## what stands for a datum -/
def kD : Key → D
  | .inl i => .int i
  | .inr s => .str s
/-- may tuples of the written part be read? -/
def kTup : Bool := false
/-- a tuple stands at a -/
def TpAt (K : PySem.W.Frag) (Z : Hp) (a : Addr) (xs : List V) : Prop :=
  Z a = some (.tup xs) ∨
    (kTup = true ∧ ∃ (o : Obj) (its : Array Value) (n : Nat), K.lookup a = some o ∧ o.cls = .type "tuple" ∧ o.data = .seq its n ∧ its.size ≤ sizeLine ∧ Vals xs its.toList)
mutual
inductive Rep (K : PySem.W.Frag) (Z : Hp) : V → D → Prop
  | non : Rep K Z .non .none
  | bl (b : Bool) : Rep K Z (.bl b) (.bool b)
  | int (i : Int) : Rep K Z (.int i) (.int i)
  | str (x : Str) : Rep K Z (.str x) (.str x)
  | tup {a : Addr} {vs : List V} {ds : List D} : TpAt K Z a vs → Reps K Z vs ds → Rep K Z (.ref a) (.tuple ds)
  | lst {a : Addr} {vs : List V} {ds : List D} : Z a = some (.lst vs) → Reps K Z vs ds → Rep K Z (.ref a) (.list ds)
  | dK {a : Addr} {kvs : List (Key × V)} {ds : List (D × D)} : Z a = some (.dK kvs) → RepK K Z kvs ds → Rep K Z (.ref a) (.dict ds)
  | dT {a : Addr} {kvs : List (List Key × V)} {ds : List (D × D)} : Z a = some (.dT kvs) → kvs ≠ [] → RepT K Z kvs ds → Rep K Z (.ref a) (.dict ds)
inductive Reps (K : PySem.W.Frag) (Z : Hp) : List V → List D → Prop
  | nil : Reps K Z [] []
  | cons {v : V} {vs : List V} {d : D} {ds : List D} : Rep K Z v d → Reps K Z vs ds → Reps K Z (v :: vs) (d :: ds)
inductive RepK (K : PySem.W.Frag) (Z : Hp) : List (Key × V) → List (D × D) → Prop
  | nil : RepK K Z [] []
  | cons {k : Key} {v : V} {d : D} {kvs : List (Key × V)} {ds : List (D × D)} : Rep K Z v d → RepK K Z kvs ds → RepK K Z ((k, v) :: kvs) ((kD k, d) :: ds)
inductive RepT (K : PySem.W.Frag) (Z : Hp) : List (List Key × V) → List (D × D) → Prop
  | nil : RepT K Z [] []
  | cons {k : List Key} {v : V} {d : D} {kvs : List (List Key × V)} {ds : List (D × D)} : Rep K Z v d → RepT K Z kvs ds → RepT K Z ((k, v) :: kvs) ((.tuple (k.map kD), d) :: ds)
end
section
variable {K : PySem.W.Frag} {Z Z' : Hp}
theorem TpAt.mono (e : Same Z Z') {a : Addr} {xs : List V} (h : TpAt K Z a xs) : TpAt K Z' a xs := h.imp (e _ _) id
theorem same_seqT (e : Same Z Z') {a : Addr} {xs : List V} (h : TpAt K Z a xs) : SqT K Z' a xs := by
  rcases h with h | h
  · exact .inl (.inl (e _ _ h))
  · exact .inr h.2
mutual
theorem Rep.mono (e : Same Z Z') : ∀ {v : V} {d : D}, Rep K Z v d → Rep K Z' v d
  | _, _, .non => .non
  | _, _, .bl b => .bl b
  | _, _, .int i => .int i
  | _, _, .str x => .str x
  | _, _, .tup h r => .tup (h.mono e) (Reps.mono e r)
  | _, _, .lst h r => .lst (e _ _ h) (Reps.mono e r)
  | _, _, .dK h r => .dK (e _ _ h) (RepK.mono e r)
  | _, _, .dT h n r => .dT (e _ _ h) n (RepT.mono e r)
theorem Reps.mono (e : Same Z Z') : ∀ {vs : List V} {ds : List D}, Reps K Z vs ds → Reps K Z' vs ds
  | _, _, .nil => .nil
  | _, _, .cons h r => .cons (Rep.mono e h) (Reps.mono e r)
theorem RepK.mono (e : Same Z Z') : ∀ {vs : List (Key × V)} {ds : List (D × D)}, RepK K Z vs ds → RepK K Z' vs ds
  | _, _, .nil => .nil
  | _, _, .cons h r => .cons (Rep.mono e h) (RepK.mono e r)
theorem RepT.mono (e : Same Z Z') : ∀ {vs : List (List Key × V)} {ds : List (D × D)}, RepT K Z vs ds → RepT K Z' vs ds
  | _, _, .nil => .nil
  | _, _, .cons h r => .cons (Rep.mono e h) (RepT.mono e r)
end
theorem Reps.length : ∀ {vs : List V} {ds : List D}, Reps K Z vs ds → vs.length = ds.length
  | _, _, .nil => rfl
  | _, _, .cons _ r => congrArg Nat.succ (Reps.length r)
theorem Reps.get : ∀ {vs : List V} {ds : List D} {i : Nat} {d : D}, Reps K Z vs ds → ds[i]? = some d → ∃ v, vs[i]? = some v ∧ Rep K Z v d
  | _, _, _, _, .nil, e => by simp at e
  | _, _, 0, _, .cons r _, e => by simp at e; subst e; exact ⟨_, rfl, r⟩
  | _, _, i + 1, d, .cons _ t, e => by
    obtain ⟨u, h1, h2⟩ := Reps.get (i := i) (d := d) t (by simpa using e)
    exact ⟨u, by simpa using h1, h2⟩
theorem Reps.getV : ∀ {vs : List V} {ds : List D} {i : Nat} {v : V}, Reps K Z vs ds → vs[i]? = some v → ∃ d, ds[i]? = some d ∧ Rep K Z v d
  | _, _, _, _, .nil, e => by simp at e
  | _, _, 0, _, .cons r _, e => by simp at e; subst e; exact ⟨_, rfl, r⟩
  | _, _, i + 1, d, .cons _ t, e => by
    obtain ⟨u, h1, h2⟩ := Reps.getV (i := i) (v := d) t (by simpa using e)
    exact ⟨u, by simpa using h1, h2⟩
theorem Reps.append : ∀ {vs ws : List V} {ds es : List D}, Reps K Z vs ds → Reps K Z ws es → Reps K Z (vs ++ ws) (ds ++ es)
  | _, _, _, _, .nil, s => s
  | _, _, _, _, .cons r t, s => .cons r (Reps.append t s)
theorem Reps.take : ∀ {vs : List V} {ds : List D} (n : Nat), Reps K Z vs ds → Reps K Z (vs.take n) (ds.take n)
  | _, _, 0, _ => .nil
  | _, _, _ + 1, .nil => .nil
  | _, _, n + 1, .cons r t => .cons r (Reps.take n t)
theorem Reps.drop : ∀ {vs : List V} {ds : List D} (n : Nat), Reps K Z vs ds → Reps K Z (vs.drop n) (ds.drop n)
  | _, _, 0, r => r
  | _, _, _ + 1, .nil => .nil
  | _, _, n + 1, .cons _ t => Reps.drop n t
theorem Reps.set {v : V} {d : D} (r : Rep K Z v d) : ∀ {vs : List V} {ds : List D} (i : Nat), Reps K Z vs ds → Reps K Z (vs.set i v) (ds.set i d)
  | _, _, _, .nil => .nil
  | _, _, 0, .cons _ t => .cons r t
  | _, _, i + 1, .cons q t => .cons q (Reps.set r i t)
theorem Reps.reverse {vs : List V} {ds : List D} (h : Reps K Z vs ds) : Reps K Z vs.reverse ds.reverse := by
  induction vs generalizing ds with
  | nil => cases h; exact .nil
  | cons v vs ih =>
    cases h with
    | cons r t =>
      rw [List.reverse_cons, List.reverse_cons]
      exact (ih t).append (.cons r .nil)
theorem Reps.dropLast {vs : List V} {ds : List D} (h : Reps K Z vs ds) : Reps K Z vs.dropLast ds.dropLast := by
  rw [List.dropLast_eq_take, List.dropLast_eq_take, h.length]
  exact h.take _
theorem Reps.eraseIdx : ∀ {vs : List V} {ds : List D} (i : Nat), Reps K Z vs ds → Reps K Z (vs.eraseIdx i) (ds.eraseIdx i)
  | _, _, _, .nil => .nil
  | _, _, 0, .cons _ t => t
  | _, _, i + 1, .cons q t => .cons q (Reps.eraseIdx i t)
theorem Reps.rep {vs : List V} {ds : List D} (h : Reps K Z vs ds) : ∀ n : Nat, Reps K Z (List.replicate n vs).flatten (List.replicate n ds).flatten
  | 0 => .nil
  | n + 1 => by
    rw [List.replicate_succ, List.replicate_succ, List.flatten_cons, List.flatten_cons]
    exact h.append (Reps.rep h n)
theorem Reps.ints : ∀ {vs : List V} {ns : List Int}, Reps K Z vs (ns.map PyData.int) → vs = ns.map V.int
  | _, [], h => by cases h; rfl
  | _, n :: ns, h => by
    cases h with
    | cons r t =>
      cases r
      rw [Reps.ints t]; rfl
theorem Reps.bls : ∀ {vs : List V} {ns : List Bool}, Reps K Z vs (ns.map PyData.bool) → vs = ns.map V.bl
  | _, [], h => by cases h; rfl
  | _, n :: ns, h => by
    cases h with
    | cons r t =>
      cases r
      rw [Reps.bls t]; rfl
theorem Reps.strs : ∀ {vs : List V} {ns : List Str}, Reps K Z vs (ns.map PyData.str) → vs = ns.map V.str
  | _, [], h => by cases h; rfl
  | _, n :: ns, h => by
    cases h with
    | cons r t =>
      cases r
      rw [Reps.strs t]; rfl
theorem Reps.ofInts : ∀ (ns : List Int), Reps K Z (ns.map V.int) (ns.map PyData.int)
  | [] => .nil
  | n :: ns => .cons (.int n) (Reps.ofInts ns)
end

/-! ## growth: Z what is held still (a part of H), fresh things may come to it -/
structure Gr (Z H Z' H' : Hp) : Prop where
  zz : Same Z Z'
  zh : Same Z' H'
  hh : Same H H'
  fr : ∀ a o, Z' a = some o → Z a = some o ∨ H a = none ∨ ∃ xs, o = .tup xs
theorem Gr.refl {Z H : Hp} (h : Same Z H) : Gr Z H Z H := ⟨Same.refl _, h, Same.refl _, fun _ _ e => .inl e⟩
theorem Gr.trans {Z H Z1 H1 Z2 H2 : Hp} (a : Gr Z H Z1 H1) (b : Gr Z1 H1 Z2 H2) : Gr Z H Z2 H2 :=
  ⟨a.zz.trans b.zz, b.zh, a.hh.trans b.hh, fun x o e => by
    rcases b.fr x o e with h | h | h
    · exact a.fr x o h
    · exact .inr (.inl (a.hh.free h))
    · exact .inr (.inr h)⟩
/-- what is no tuple and was not held still isn't so behind -/
theorem Gr.out {Z H Z' H' : Hp} (g : Gr Z H Z' H') {a : Addr} {o : HO} (n : Z a = none) (h : H a = some o) (ht : ∀ xs, o ≠ .tup xs) : Z' a = none := by
  cases q : Z' a with
  | none => rfl
  | some u =>
    rcases g.fr a u q with z | z | ⟨xs, z⟩
    · rw [n] at z; cases z
    · rw [h] at z; cases z
    · have h1 := g.hh _ _ h
      rw [g.zh _ _ q] at h1
      cases h1
      exact absurd z (ht xs)
theorem same_upd {H : Hp} {p : Addr} {o : HO} (h : H p = none) : Same H (upd H p o) := fun b x e => by
  rw [upd_ne (ne_of_none e h)]; exact e
theorem same_upd2 {Z H : Hp} {p : Addr} {o : HO} (h : Same Z H) (hz : Z p = none) : Same Z (upd H p o) := fun b x e => by
  rw [upd_ne (ne_of_none e hz)]; exact h b x e
theorem same_both {Z H : Hp} {p : Addr} {o : HO} (h : Same Z H) : Same (upd Z p o) (upd H p o) := fun b x e => by
  by_cases hb : b = p
  · subst hb; rw [upd_same] at e ⊢; exact e
  · rw [upd_ne hb] at e ⊢; exact h b x e
theorem Gr.zh0 {Z H Z' H' : Hp} (h : Gr Z H Z' H') {a : Addr} (n : H' a = none) : Z' a = none := h.zh.free n
/-- a fresh thing, held still -/
theorem Gr.new {Z H : Hp} {p : Addr} {o : HO} (h : Same Z H) (n : H p = none) : Gr Z H (upd Z p o) (upd H p o) :=
  ⟨same_upd (h.free n), same_both h, same_upd n, fun a u e => by
    by_cases ha : a = p
    · subst ha; exact .inr (.inl n)
    · rw [upd_ne ha] at e; exact .inl e⟩
/-- a fresh thing of one's own -/
theorem Gr.own {Z H : Hp} {p : Addr} {o : HO} (h : Same Z H) (n : H p = none) : Gr Z H Z (upd H p o) :=
  ⟨Same.refl _, same_upd2 h (h.free n), same_upd n, fun _ _ e => .inl e⟩
/-- own things become still -/
theorem Gr.keep {Z H Z' H' : Hp} {p : Addr} {o : HO} (g : Gr Z H Z' H') (n : H p = none) (h : H' p = some o) : Gr Z H (upd Z' p o) H' :=
  ⟨fun b x e => by
      by_cases hb : b = p
      · subst hb
        have := g.zh _ _ (g.zz _ _ e)
        rw [h] at this
        rw [upd_same]; exact this
      · rw [upd_ne hb]; exact g.zz b x e,
    fun b x e => by
      by_cases hb : b = p
      · subst hb; rw [upd_same] at e; cases e; exact h
      · rw [upd_ne hb] at e; exact g.zh b x e,
    g.hh, fun a u e => by
      by_cases ha : a = p
      · subst ha; exact .inr (.inl n)
      · rw [upd_ne ha] at e; exact g.fr a u e⟩

/-! ## environments -/
abbrev Env := List (Option D)
abbrev PF := Env → R D
/-- the slots outside us hold still data -/
structure EnvU (K : PySem.W.Frag) (us : List Nat) (Z H : Hp) (σ : L2.St) (env : Env) : Prop where
  len : σ.length = env.length
  slot : ∀ i d, us.contains i = false → env[i]? = some (some d) → ∃ v, σ[i]? = some (some v) ∧ Rep K Z v d
  vis : ∀ (i : Nat) d, env[i]? = some (some d) → ∃ v, σ[i]? = some (some v) ∧ Rep K H v d
theorem EnvU.mono {K : PySem.W.Frag} {us : List Nat} {Z Z' H H' : Hp} {σ : L2.St} {env : Env} (h : EnvU K us Z H σ env) (g : Gr Z H Z' H') : EnvU K us Z' H' σ env := ⟨h.len, fun i d hu he => by
  obtain ⟨v, h1, h2⟩ := h.slot i d hu he
  exact ⟨v, h1, h2.mono g.zz⟩, fun i d he => by
  obtain ⟨v, h1, h2⟩ := h.vis i d he
  exact ⟨v, h1, h2.mono g.hh⟩⟩
/-- all that is seen -/
theorem EnvU.all {K : PySem.W.Frag} {us : List Nat} {Z H : Hp} {σ : L2.St} {env : Env} (h : EnvU K us Z H σ env) : EnvU K [] H H σ env := ⟨h.len, fun i d _ he => h.vis i d he, h.vis⟩
/-! ## pure expressions -/
def PSem (K : PySem.W.Frag) (us : List Nat) (t : TE) (f : PF) : Prop :=
  ∀ (σ : L2.St) (H Z : Hp) (env : Env) (d : D) (Q : VK), Same Z H → EnvU K us Z H σ env → f env = .ok d → (∀ v Z' H', Gr Z H Z' H' → Rep K Z' v d → Q v H') → t σ H Q
structure DP (X : Cx) (us : List Nat) (e : Expr) (f : PF) : Prop where
  ex : ∃ t, PE X e t ∧ PSem X.K us t f
/-- a pure expression that makes a list of its own -/
def OSem (K : PySem.W.Frag) (us : List Nat) (t : TE) (f : Env → R (List D)) : Prop :=
  ∀ (σ : L2.St) (H Z : Hp) (env : Env) (ds : List D) (Q : VK), Same Z H → EnvU K us Z H σ env → f env = .ok ds →
    (∀ p vs Z' H', Gr Z H Z' H' → H p = none → Z' p = none → H' p = some (.lst vs) → Reps K Z' vs ds → Q (.ref p) H') → t σ H Q
structure DO (X : Cx) (us : List Nat) (e : Expr) (f : Env → R (List D)) : Prop where
  ex : ∃ t, PE X e t ∧ OSem X.K us t f
def cList (f : Env → R (List D)) : PF := fun env => (f env).bind fun ds => .ok (.list ds)
theorem Reps.keepZ {K : PySem.W.Frag} {Z Z' : Hp} {vs : List V} {ds : List D} (e : Same Z Z') (r : Reps K Z vs ds) : Reps K Z' vs ds := r.mono e
theorem DO.p {X : Cx} {us : List Nat} {e : Expr} {f : Env → R (List D)} (h : DO X us e f) : DP X us e (cList f) := by
  obtain ⟨t, he, hs⟩ := h.ex
  refine ⟨t, he, fun σ H Z env d Q hz he2 hf hq => ?_⟩
  obtain ⟨ds, h1, h2⟩ := R.of_bind hf
  cases h2
  refine hs σ H Z env ds Q hz he2 h1 fun p vs Z' H' g n nz hp r => ?_
  exact hq _ _ _ (g.keep n hp) (.lst upd_same (r.mono (same_upd nz)))
/-- tests -/
def TSem (K : PySem.W.Frag) (us : List Nat) (t : TT) (f : Env → R Bool) : Prop :=
  ∀ (σ : L2.St) (H Z : Hp) (env : Env) (c : Bool) (Q : Bool → Hp → Prop), Same Z H → EnvU K us Z H σ env → f env = .ok c → (∀ Z' H', Gr Z H Z' H' → Q c H') → t σ H Q
structure DT (X : Cx) (us : List Nat) (e : Expr) (f : Env → R Bool) : Prop where
  ex : ∃ t, PT X e t ∧ TSem X.K us t f
structure DW (X : Cx) (us : List Nat) (e : Expr) (f : Env → R Bool) : Prop where
  ex : ∃ t, PW X e t ∧ TSem X.K us t f
/-- argument lists -/
abbrev AF := Env → R (List D)
def ASem (K : PySem.W.Frag) (us : List Nat) (t : TA) (f : AF) : Prop :=
  ∀ (σ : L2.St) (H Z : Hp) (env : Env) (ds : List D) (Q : List V → Hp → Prop), Same Z H → EnvU K us Z H σ env → f env = .ok ds → (∀ vs Z' H', Gr Z H Z' H' → Reps K Z' vs ds → Q vs H') → t σ H Q
structure DA (X : Cx) (us : List Nat) (es : List Expr) (f : AF) : Prop where
  ex : ∃ t, PA X es t ∧ ASem X.K us t f

/-! the readings themselves -/
def semP (K : PySem.W.Frag) (us : List Nat) (f : PF) : TE := fun σ H Q => ∃ Z env d, Same Z H ∧ EnvU K us Z H σ env ∧ f env = .ok d ∧ ∀ v Z' H', Gr Z H Z' H' → Rep K Z' v d → Q v H'
def semT (K : PySem.W.Frag) (us : List Nat) (f : Env → R Bool) : TT := fun σ H Q => ∃ Z env c, Same Z H ∧ EnvU K us Z H σ env ∧ f env = .ok c ∧ ∀ Z' H', Gr Z H Z' H' → Q c H'
theorem DP.can {X : Cx} {us : List Nat} {e : Expr} {f : PF} (h : DP X us e f) : PE X e (semP X.K us f) := by
  obtain ⟨t, h1, h2⟩ := h.ex
  refine ⟨fun pins s σ H Q I hw => ?_⟩
  obtain ⟨Z, env, d, a, b, c, q⟩ := hw
  exact h1.run pins s σ H Q I (h2 σ H Z env d Q a b c q)
theorem DT.can {X : Cx} {us : List Nat} {e : Expr} {f : Env → R Bool} (h : DT X us e f) : PT X e (semT X.K us f) := by
  obtain ⟨t, h1, h2⟩ := h.ex
  refine ⟨fun pins s σ H Q I hw => ?_⟩
  obtain ⟨Z, env, d, a, b, c, q⟩ := hw
  exact h1.run pins s σ H Q I (h2 σ H Z env d Q a b c q)
/-! ### names, constants -/
def cV (i : Nat) : PF := fun env => match env[i]? with
  | some (some d) => .ok d
  | _ => .no
def cC (d : D) : PF := fun _ => .ok d
section
variable {X : Cx} {us : List Nat}
theorem of_cV {i : Nat} {env : Env} {d : D} (h : cV i env = .ok d) : env[i]? = some (some d) := by
  unfold cV at h
  split at h
  · cases h; assumption
  · cases h
theorem psem_var {K : PySem.W.Frag} {i : Nat} (hu : us.contains i = false) : PSem K us (tVar i) (cV i) := fun σ H Z env d Q hz he hf hq => by
  obtain ⟨v, h1, h2⟩ := he.slot i d hu (of_cV hf)
  exact ⟨v, h1, hq _ _ _ (Gr.refl hz) h2⟩
theorem dp_var {i : Nat} {x : Str} {pos : Pos} (hN : X.N[i]? = some x) (hv : Vis X.env.scope x) (hu : us.contains i = false := by rfl) (hd : (x == ("__debug__" : Str)) = false := by decide) (hcd : (x == ("__classdict__" : Str)) = false := by decide) : DP X us (.Name x pos) (cV i) :=
  ⟨tVar i, pe_var hN hv hd hcd, psem_var hu⟩
theorem dp_int {i j pos} : DP X us (.Constant (.int i) j pos) (cC (.int i)) := ⟨_, pe_int, fun σ H Z env d Q hz he hf hq => by cases hf; exact hq _ _ _ (Gr.refl hz) (.int i)⟩
theorem dp_bl {b j pos} : DP X us (.Constant (.bool b) j pos) (cC (.bool b)) := ⟨_, pe_bl, fun σ H Z env d Q hz he hf hq => by cases hf; exact hq _ _ _ (Gr.refl hz) (.bl b)⟩
theorem dp_non {j pos} : DP X us (.Constant .none j pos) (cC .none) := ⟨_, pe_non, fun σ H Z env d Q hz he hf hq => by cases hf; exact hq _ _ _ (Gr.refl hz) .non⟩
theorem dp_str {x j pos} : DP X us (.Constant (.str x) j pos) (cC (.str x)) := ⟨_, pe_str, fun σ H Z env d Q hz he hf hq => by cases hf; exact hq _ _ _ (Gr.refl hz) (.str x)⟩
end

/-! ### operators by values -/
def Op2 (K : PySem.W.Frag) (r : R2) (g : D → D → R D) : Prop :=
  ∀ (x y : V) (H Z : Hp) (a b c : D) (Q : VK), Same Z H → Rep K Z x a → Rep K Z y b → g a b = .ok c → (∀ v Z' H', Gr Z H Z' H' → Rep K Z' v c → Q v H') → r x y H Q
def Op1 (K : PySem.W.Frag) (r : V → Hp → VK → Prop) (g : D → R D) : Prop :=
  ∀ (x : V) (H Z : Hp) (a c : D) (Q : VK), Same Z H → Rep K Z x a → g a = .ok c → (∀ v Z' H', Gr Z H Z' H' → Rep K Z' v c → Q v H') → r x H Q
def OpN (K : PySem.W.Frag) (r : List V → Hp → VK → Prop) (g : List D → R D) : Prop :=
  ∀ (xs : List V) (H Z : Hp) (as : List D) (c : D) (Q : VK), Same Z H → Reps K Z xs as → g as = .ok c → (∀ v Z' H', Gr Z H Z' H' → Rep K Z' v c → Q v H') → r xs H Q
theorem Op2.or {K : PySem.W.Frag} {r r' : R2} {g g' : D → D → R D} (h : Op2 K r g) (h' : Op2 K r' g') (p : D → D → Bool) : Op2 K (fun x y H Q => r x y H Q ∨ r' x y H Q) (fun a b => if p a b = true then g a b else g' a b) := fun x y H Z a b c Q hz r1 r2 hg hq => by
  dsimp only at hg
  split at hg
  · exact .inl (h x y H Z a b c Q hz r1 r2 hg hq)
  · exact .inr (h' x y H Z a b c Q hz r1 r2 hg hq)
def cBin (g : D → D → R D) (fa fb : PF) : PF := fun env => (fa env).bind fun a => (fb env).bind fun b => g a b
def cUn (g : D → R D) (fa : PF) : PF := fun env => (fa env).bind g
section
variable {X : Cx} {us : List Nat} {a b : Expr} {fa fb : PF} {pos : Pos}
theorem psem_op {K : PySem.W.Frag} {r : R2} {g : D → D → R D} {ta tb : TE} (hv : Op2 K r g) (ha : PSem K us ta fa) (hb : PSem K us tb fb) : PSem K us (tOp r ta tb) (cBin g fa fb) := fun σ H Z env d Q hz he hf hq => by
  obtain ⟨x, h1, h2⟩ := R.of_bind hf
  obtain ⟨y, h3, h4⟩ := R.of_bind h2
  refine ha σ H Z env x _ hz he h1 fun v Z1 H1 g1 r1 => ?_
  refine hb σ H1 Z1 env y _ g1.zh (he.mono g1) h3 fun u Z2 H2 g2 r2 => ?_
  exact hv v u H2 Z2 x y d Q g2.zh (r1.mono g2.zz) r2 h4 fun w Z3 H3 g3 r3 => hq w Z3 H3 ((g1.trans g2).trans g3) r3
theorem dp_op {op : Operator} {r : R2} {g : D → D → R D} (ho : OpR X (binaryOp op) r) (hv : Op2 X.K r g) (ha : DP X us a fa) (hb : DP X us b fb) : DP X us (.BinOp a op b pos) (cBin g fa fb) := by
  obtain ⟨ta, h1, h2⟩ := ha.ex
  obtain ⟨tb, h3, h4⟩ := hb.ex
  exact ⟨_, pe_op ho h1 h3, psem_op hv h2 h4⟩
theorem dp_cmp {op : CmpOp} {r : R2} {g : D → D → R D} (ho : OpR X (compareOp op) r) (hv : Op2 X.K r g) (ha : DP X us a fa) (hb : DP X us b fb) (hm : behindInMarks op b = false) : DP X us (.Compare a [op] [b] pos) (cBin g fa fb) := by
  obtain ⟨ta, h1, h2⟩ := ha.ex
  obtain ⟨tb, h3, h4⟩ := hb.ex
  exact ⟨_, pe_cmpR ho h1 h3 hm, psem_op hv h2 h4⟩
def toB : D → R Bool
  | .bool b => .ok b
  | _ => .no
theorem of_toB {d : D} {c : Bool} (h : toB d = .ok c) : d = .bool c := by
  unfold toB at h
  split at h
  · cases h; rfl
  · cases h
def cTst (f : PF) : Env → R Bool := fun env => (f env).bind toB
theorem tsem_test {K : PySem.W.Frag} {t : TE} {f : PF} (h : PSem K us t f) : TSem K us (tTest t) (cTst f) := fun σ H Z env c Q hz he hf hq => by
  obtain ⟨d, h1, h2⟩ := R.of_bind hf
  have e := of_toB h2
  subst e
  refine h σ H Z env _ _ hz he h1 fun v Z' H' g r => ?_
  cases r
  exact ⟨c, rfl, hq _ _ g⟩
theorem dt_cmp {op : CmpOp} {r : R2} {g : D → D → R D} (ho : OpR X (compareOp op) r) (hv : Op2 X.K r g) (ha : DP X us a fa) (hb : DP X us b fb) (hm : behindInMarks op b = false) : DT X us (.Compare a [op] [b] pos) (cTst (cBin g fa fb)) := by
  obtain ⟨ta, h1, h2⟩ := ha.ex
  obtain ⟨tb, h3, h4⟩ := hb.ex
  exact ⟨_, pt_cmpR ho h1 h3 hm, tsem_test (psem_op hv h2 h4)⟩
/-- an expression that gives a bool, as a test (no BoolOp, no Compare, no Not) -/
theorem dt_val {f : PF} (h : DP X us a f) (he : ∀ whole, isTrue a X.env whole = (do let v ← whole; standAt a.pos; holding [v] (truthy v)) := by intro _; rfl) : DT X us a (cTst f) := by
  obtain ⟨t, h1, h2⟩ := h.ex
  exact ⟨_, pt_val h1 he, tsem_test h2⟩
def cAnd (f g : Env → R Bool) : Env → R Bool := fun env => (f env).bind fun c => if c = true then g env else .ok false
def cOr (f g : Env → R Bool) : Env → R Bool := fun env => (f env).bind fun c => if c = true then .ok true else g env
def cNot (f : Env → R Bool) : Env → R Bool := fun env => (f env).bind fun c => .ok (!c)
def cBl (f : Env → R Bool) : PF := fun env => (f env).bind fun c => .ok (.bool c)
variable {fA fB : Env → R Bool} {rest : List Expr}
theorem tsem_and {K : PySem.W.Frag} {t u : TT} (h1 : TSem K us t fA) (h2 : TSem K us u fB) : TSem K us (tAnd t u) (cAnd fA fB) := fun σ H Z env c Q hz he hf hq => by
  obtain ⟨k, e1, e2⟩ := R.of_bind hf
  refine h1 σ H Z env k _ hz he e1 fun Z1 H1 g1 => ?_
  cases k with
  | true => exact h2 σ H1 Z1 env c Q g1.zh (he.mono g1) e2 fun Z2 H2 g2 => hq Z2 H2 (g1.trans g2)
  | false => cases e2; exact hq Z1 H1 g1
theorem tsem_or {K : PySem.W.Frag} {t u : TT} (h1 : TSem K us t fA) (h2 : TSem K us u fB) : TSem K us (tOr t u) (cOr fA fB) := fun σ H Z env c Q hz he hf hq => by
  obtain ⟨k, e1, e2⟩ := R.of_bind hf
  refine h1 σ H Z env k _ hz he e1 fun Z1 H1 g1 => ?_
  cases k with
  | false => exact h2 σ H1 Z1 env c Q g1.zh (he.mono g1) e2 fun Z2 H2 g2 => hq Z2 H2 (g1.trans g2)
  | true => cases e2; exact hq Z1 H1 g1
theorem DW.t (h : DW X us a fA) : DT X us a fA := by
  obtain ⟨t, h1, h2⟩ := h.ex
  exact ⟨t, h1.pt, h2⟩
theorem dw_and1 (h : DT X us a fA) : DW X us (.BoolOp .And [a] pos) fA := by
  obtain ⟨t, h1, h2⟩ := h.ex
  exact ⟨t, pw_and1 h1, h2⟩
theorem dw_or1 (h : DT X us a fA) : DW X us (.BoolOp .Or [a] pos) fA := by
  obtain ⟨t, h1, h2⟩ := h.ex
  exact ⟨t, pw_or1 h1, h2⟩
theorem dw_and (h : DT X us a fA) (h' : DW X us (.BoolOp .And (b :: rest) pos) fB) : DW X us (.BoolOp .And (a :: b :: rest) pos) (cAnd fA fB) := by
  obtain ⟨t, h1, h2⟩ := h.ex
  obtain ⟨u, h3, h4⟩ := h'.ex
  exact ⟨_, pw_and h1 h3, tsem_and h2 h4⟩
theorem dw_or (h : DT X us a fA) (h' : DW X us (.BoolOp .Or (b :: rest) pos) fB) : DW X us (.BoolOp .Or (a :: b :: rest) pos) (cOr fA fB) := by
  obtain ⟨t, h1, h2⟩ := h.ex
  obtain ⟨u, h3, h4⟩ := h'.ex
  exact ⟨_, pw_or h1 h3, tsem_or h2 h4⟩
theorem dt_not (h : DT X us a fA) : DT X us (.UnaryOp .Not a pos) (cNot fA) := by
  obtain ⟨t, h1, h2⟩ := h.ex
  refine ⟨_, pt_not h1, fun σ H Z env c Q hz he hf hq => ?_⟩
  obtain ⟨k, e1, e2⟩ := R.of_bind hf
  cases e2
  exact h2 σ H Z env k _ hz he e1 fun Z1 H1 g1 => hq Z1 H1 g1
/-! .. as values -/
theorem dp_one {op} {f : PF} (h : DP X us a f) : DP X us (.BoolOp op [a] pos) f := by
  obtain ⟨t, h1, h2⟩ := h.ex
  exact ⟨t, pe_one h1, h2⟩
/-- a and b, values: a a bool -/
def cAndV (f g : PF) : PF := fun env => (cTst f env).bind fun c => if c = true then g env else .ok (.bool false)
def cOrV (f g : PF) : PF := fun env => (cTst f env).bind fun c => if c = true then .ok (.bool true) else g env
theorem dp_and (h : DP X us a fa) (h' : DP X us (.BoolOp .And (b :: rest) pos) fb) : DP X us (.BoolOp .And (a :: b :: rest) pos) (cAndV fa fb) := by
  obtain ⟨t, h1, h2⟩ := h.ex
  obtain ⟨u, h3, h4⟩ := h'.ex
  refine ⟨_, pe_and h1 h3, fun σ H Z env d Q hz he hf hq => ?_⟩
  obtain ⟨k, e1, e2⟩ := R.of_bind hf
  obtain ⟨d0, e3, e4⟩ := R.of_bind e1
  obtain rfl := of_toB e4
  refine h2 σ H Z env _ _ hz he e3 fun v0 Z1 H1 g1 r0 => ?_
  cases r0
  refine ⟨k, rfl, ?_⟩
  cases k with
  | true => exact h4 σ H1 Z1 env d Q g1.zh (he.mono g1) e2 fun v Z2 H2 g2 r => hq v Z2 H2 (g1.trans g2) r
  | false => cases e2; exact hq _ Z1 H1 g1 (.bl false)
theorem dp_or (h : DP X us a fa) (h' : DP X us (.BoolOp .Or (b :: rest) pos) fb) : DP X us (.BoolOp .Or (a :: b :: rest) pos) (cOrV fa fb) := by
  obtain ⟨t, h1, h2⟩ := h.ex
  obtain ⟨u, h3, h4⟩ := h'.ex
  refine ⟨_, pe_or h1 h3, fun σ H Z env d Q hz he hf hq => ?_⟩
  obtain ⟨k, e1, e2⟩ := R.of_bind hf
  obtain ⟨d0, e3, e4⟩ := R.of_bind e1
  obtain rfl := of_toB e4
  refine h2 σ H Z env _ _ hz he e3 fun v0 Z1 H1 g1 r0 => ?_
  cases r0
  refine ⟨k, rfl, ?_⟩
  cases k with
  | false => exact h4 σ H1 Z1 env d Q g1.zh (he.mono g1) e2 fun v Z2 H2 g2 r => hq v Z2 H2 (g1.trans g2) r
  | true => cases e2; exact hq _ Z1 H1 g1 (.bl true)
def cNotV (f : PF) : PF := fun env => (cTst f env).bind fun c => .ok (.bool (!c))
theorem dp_not (h : DP X us a fa) : DP X us (.UnaryOp .Not a pos) (cNotV fa) := by
  obtain ⟨t, h1, h2⟩ := h.ex
  refine ⟨_, pe_not h1, fun σ H Z env d Q hz he hf hq => ?_⟩
  obtain ⟨k, e1, e2⟩ := R.of_bind hf
  cases e2
  obtain ⟨d0, e3, e4⟩ := R.of_bind e1
  obtain rfl := of_toB e4
  refine h2 σ H Z env _ _ hz he e3 fun v0 Z1 H1 g1 r0 => ?_
  cases r0
  exact ⟨k, rfl, hq _ Z1 H1 g1 (.bl _)⟩
def cIf (c : Env → R Bool) (f g : PF) : PF := fun env => (c env).bind fun k => if k = true then f env else g env
theorem dp_if {c : Expr} (hc : DT X us c fA) (ha : DP X us a fa) (hb : DP X us b fb) : DP X us (.IfExp c a b pos) (cIf fA fa fb) := by
  obtain ⟨t, h1, h2⟩ := hc.ex
  obtain ⟨u, h3, h4⟩ := ha.ex
  obtain ⟨w, h5, h6⟩ := hb.ex
  refine ⟨_, pe_ifExp h1 h3 h5, fun σ H Z env d Q hz he hf hq => ?_⟩
  obtain ⟨k, e1, e2⟩ := R.of_bind hf
  refine h2 σ H Z env k _ hz he e1 fun Z1 H1 g1 => ?_
  cases k with
  | true => exact h4 σ H1 Z1 env d Q g1.zh (he.mono g1) e2 fun v Z2 H2 g2 r => hq v Z2 H2 (g1.trans g2) r
  | false => exact h6 σ H1 Z1 env d Q g1.zh (he.mono g1) e2 fun v Z2 H2 g2 r => hq v Z2 H2 (g1.trans g2) r
end
/-! ### argument lists, displays -/
def aNil : AF := fun _ => .ok []
def aCons (f : PF) (g : AF) : AF := fun env => (f env).bind fun d => (g env).bind fun ds => .ok (d :: ds)
section
variable {X : Cx} {us : List Nat} {e : Expr} {es : List Expr} {f : PF} {g : AF} {pos : Pos}
theorem da_nil : DA X us [] aNil := ⟨_, pa_nil, fun σ H Z env ds Q hz he hf hq => by cases hf; exact hq _ _ _ (Gr.refl hz) .nil⟩
theorem da_cons (h : DP X us e f) (h' : DA X us es g) (hs : starEach (e :: es) X.env = (false, eval e X.env) :: starEach es X.env := by rfl) : DA X us (e :: es) (aCons f g) := by
  obtain ⟨t, h1, h2⟩ := h.ex
  obtain ⟨u, h3, h4⟩ := h'.ex
  refine ⟨_, pa_cons h1 h3 hs, fun σ H Z env ds Q hz he hf hq => ?_⟩
  obtain ⟨d, e1, e2⟩ := R.of_bind hf
  obtain ⟨ds', e3, e4⟩ := R.of_bind e2
  cases e4
  refine h2 σ H Z env d _ hz he e1 fun v Z1 H1 g1 r1 => ?_
  exact h4 σ H1 Z1 env ds' _ g1.zh (he.mono g1) e3 fun vs Z2 H2 g2 r2 => hq _ Z2 H2 (g1.trans g2) (.cons (r1.mono g2.zz) r2)
def cTup (f : AF) : PF := fun env => (f env).bind fun ds => R.when (decide (ds.length ≤ sizeLine)) (.ok (.tuple ds))
theorem dp_tup {x1} (h : DA X us es g) : DP X us (.Tuple es x1 pos) (cTup g) := by
  obtain ⟨u, h3, h4⟩ := h.ex
  refine ⟨_, pe_tup h3, fun σ H Z env d Q hz he hf hq => ?_⟩
  obtain ⟨ds, e1, e2⟩ := R.of_bind hf
  obtain ⟨e3, e4⟩ := R.of_when e2
  cases e4
  refine h4 σ H Z env ds _ hz he e1 fun vs Z1 H1 g1 r1 => ⟨by rw [r1.length]; exact of_decide_eq_true e3, fun p np => ?_⟩
  exact hq _ _ _ (g1.trans (Gr.new g1.zh np)) (.tup (.inl upd_same) (r1.mono (same_upd (g1.zh.free np))))
def cLst (f : AF) : Env → R (List D) := fun env => (f env).bind fun ds => R.when (decide (ds.length ≤ sizeLine)) (.ok ds)
theorem do_lst (h : DA X us es g) : DO X us (.List es pos) (cLst g) := by
  obtain ⟨u, h3, h4⟩ := h.ex
  refine ⟨_, pe_lst h3, fun σ H Z env d Q hz he hf hq => ?_⟩
  obtain ⟨ds, e1, e2⟩ := R.of_bind hf
  obtain ⟨e3, e4⟩ := R.of_when e2
  cases e4
  refine h4 σ H Z env d _ hz he e1 fun vs Z1 H1 g1 r1 => ⟨by rw [r1.length]; exact of_decide_eq_true e3, fun p np => ?_⟩
  exact hq p vs Z1 _ (g1.trans (Gr.own g1.zh np)) (g1.hh.free np) (g1.zh.free np) upd_same r1
end
end Dz

set_option maxRecDepth 100000
set_option maxHeartbeats 2000000
namespace Dz
open PySem PySem.Spec PyProof.Rows L2
/-! ## operators by values -/
section
variable {K : PySem.W.Frag} {Z H : Hp}
mutual
theorem Rep.dp (e : Same Z H) : ∀ {v : V} {d : D}, Rep K Z v d → d.canLay0 = true → Dp K H v d
  | _, _, .non, _ => .non
  | _, _, .bl b, _ => .bl b
  | _, _, .int i, _ => .int i
  | _, _, .str x, _ => .str x
  | _, _, .tup h r, c => .tup (same_seqT e h) (Reps.dp e r (by simpa only [PyData.canLay0] using c))
  | _, _, .lst h r, c => .lst (.inl (.inl (e _ _ h))) (Reps.dp e r (by simpa only [PyData.canLay0] using c))
  | _, _, .dK _ _, c => by simp only [PyData.canLay0] at c; cases c
  | _, _, .dT _ _ _, c => by simp only [PyData.canLay0] at c; cases c
theorem Reps.dp (e : Same Z H) : ∀ {vs : List V} {ds : List D}, Reps K Z vs ds → PyData.canLayAll0 ds = true → DpAll K H vs ds
  | _, _, .nil, _ => .nil
  | _, _, .cons h r, c => by
    have c' := Bool.and_eq_true_iff.mp (by simpa only [PyData.canLayAll0] using c)
    exact .cons (Rep.dp e h c'.1) (Reps.dp e r c'.2)
end
end
/-! ### ints -/
def gAdd : D → D → R D
  | .int i, .int j => .ok (.int (i + j))
  | .str x, .str y => R.when (decide (x.length + y.length ≤ sizeLine)) (.ok (.str (x ++ y)))
  | .tuple xs, .tuple ys => R.when (decide (xs.length + ys.length ≤ sizeLine)) (.ok (.tuple (xs ++ ys)))
  | .list xs, .list ys => R.when (decide (xs.length + ys.length ≤ sizeLine)) (.ok (.list (xs ++ ys)))
  | _, _ => .no
def gSub : D → D → R D
  | .int i, .int j => .ok (.int (i - j))
  | _, _ => .no
def gMulI : D → D → R D
  | .int i, .int j => R.when (decide ((-(2 ^ 64) < i ∧ i < 2 ^ 64) ∨ (-(2 ^ 64) < j ∧ j < 2 ^ 64))) (.ok (.int (i * j)))
  | _, _ => .no
def gDiv : D → D → R D
  | .int i, .int j => R.when (decide (0 < j ∧ j < 1073741824)) (.ok (.int (i / j)))
  | _, _ => .no
def gMod : D → D → R D
  | .int i, .int j => R.when (decide (0 < j)) (.ok (.int (i % j)))
  | _, _ => .no
def gPow : D → D → R D
  | .int i, .int j => R.when (decide (0 ≤ j ∧ j ≤ 1000000 ∧ i.natAbs < 2 ^ 64)) (.ok (.int (i ^ j.toNat)))
  | _, _ => .no
def gShl : D → D → R D
  | .int i, .int j => R.when (decide (0 ≤ j ∧ j ≤ 1000000 ∧ i.natAbs < 2 ^ 64)) (.ok (.int (i * 2 ^ j.toNat)))
  | _, _ => .no
def gShr : D → D → R D
  | .int i, .int j => R.when (decide (0 ≤ j)) (.ok (.int (i / 2 ^ j.toNat)))
  | _, _ => .no
def gNeg : D → R D
  | .int i => .ok (.int (-i))
  | _ => .no
def gLtI : D → D → R D
  | .int i, .int j => .ok (.bool (decide (i < j)))
  | _, _ => .no
def gLeI : D → D → R D
  | .int i, .int j => .ok (.bool (decide (i ≤ j)))
  | _, _ => .no
def gGtI : D → D → R D
  | .int i, .int j => .ok (.bool (decide (j < i)))
  | _, _ => .no
def gGeI : D → D → R D
  | .int i, .int j => .ok (.bool (decide (j ≤ i)))
  | _, _ => .no
def gEq (a b : D) : R D := match a, b with
  | .int i, .int j => .ok (.bool (decide (i = j)))
  | .str x, .str y => .ok (.bool (decide (x = y)))
  | a, b => R.when (SeqAt.shaped a && SeqAt.shaped b) (.ok (.bool (PyData.eqv a b)))
def gNe (a b : D) : R D := match a, b with
  | .int i, .int j => .ok (.bool (!decide (i = j)))
  | .str x, .str y => .ok (.bool (!decide (x = y)))
  | a, b => R.when (SeqAt.shaped a && SeqAt.shaped b) (.ok (.bool (!PyData.eqv a b)))
def isNone : D → Bool
  | .none => true
  | _ => false
def gIsN : D → D → R D
  | a, .none => .ok (.bool (isNone a))
  | _, _ => .no
def gNotN : D → D → R D
  | a, .none => .ok (.bool (!isNone a))
  | _, _ => .no
section
variable {K : PySem.W.Frag}
theorem rep_isNone {Z : Hp} {v : V} {d : D} (r : Rep K Z v d) : decide (v = .non) = isNone d := by
  cases r <;> rfl
theorem op2_I {C : Int → Int → Prop} {g : Int → Int → D} {gv : Int → Int → V} {G : D → D → R D} (hG : ∀ a b c, G a b = .ok c → ∃ i j, a = .int i ∧ b = .int j ∧ C i j ∧ c = g i j) (hr : ∀ Z i j, Rep K Z (gv i j) (g i j)) : Op2 K (rI C gv) G := fun x y H Z a b c Q hz r1 r2 h hq => by
  obtain ⟨i, j, rfl, rfl, hc, rfl⟩ := hG a b c h
  cases r1
  cases r2
  exact ⟨i, j, rfl, rfl, hc, hq _ _ _ (Gr.refl hz) (hr Z i j)⟩
theorem op2_I0 {g : Int → Int → D} {gv : Int → Int → V} {G : D → D → R D} (hG : ∀ a b c, G a b = .ok c → ∃ i j, a = .int i ∧ b = .int j ∧ c = g i j) (hr : ∀ Z i j, Rep K Z (gv i j) (g i j)) : Op2 K (rI0 gv) G := fun x y H Z a b c Q hz r1 r2 h hq => by
  obtain ⟨i, j, rfl, rfl, rfl⟩ := hG a b c h
  cases r1
  cases r2
  exact ⟨i, j, rfl, rfl, hq _ _ _ (Gr.refl hz) (hr Z i j)⟩
theorem v_sub : Op2 K (rI0 fun i j => .int (i - j)) gSub := op2_I0 (g := fun i j => .int (i - j)) (fun a b c h => by
  unfold gSub at h; split at h <;> cases h; exact ⟨_, _, rfl, rfl, rfl⟩) fun _ _ _ => .int _
theorem v_lt : Op2 K (rI0 fun i j => .bl (decide (i < j))) gLtI := op2_I0 (g := fun i j => .bool (decide (i < j))) (fun a b c h => by
  unfold gLtI at h; split at h <;> cases h; exact ⟨_, _, rfl, rfl, rfl⟩) fun _ _ _ => .bl _
theorem v_le : Op2 K (rI0 fun i j => .bl (decide (i ≤ j))) gLeI := op2_I0 (g := fun i j => .bool (decide (i ≤ j))) (fun a b c h => by
  unfold gLeI at h; split at h <;> cases h; exact ⟨_, _, rfl, rfl, rfl⟩) fun _ _ _ => .bl _
theorem v_gt : Op2 K (rI0 fun i j => .bl (decide (j < i))) gGtI := op2_I0 (g := fun i j => .bool (decide (j < i))) (fun a b c h => by
  unfold gGtI at h; split at h <;> cases h; exact ⟨_, _, rfl, rfl, rfl⟩) fun _ _ _ => .bl _
theorem v_ge : Op2 K (rI0 fun i j => .bl (decide (j ≤ i))) gGeI := op2_I0 (g := fun i j => .bool (decide (j ≤ i))) (fun a b c h => by
  unfold gGeI at h; split at h <;> cases h; exact ⟨_, _, rfl, rfl, rfl⟩) fun _ _ _ => .bl _
theorem v_mulI : Op2 K (rI CMul fun i j => .int (i * j)) gMulI := op2_I (C := CMul) (g := fun i j => .int (i * j)) (fun a b c h => by
  unfold gMulI at h; split at h
  · obtain ⟨h1, h2⟩ := R.of_when h; cases h2; have h3 := of_decide_eq_true h1; exact ⟨_, _, rfl, rfl, h3, rfl⟩
  · cases h) fun _ _ _ => .int _
theorem v_div : Op2 K (rI CDiv fun i j => .int (i / j)) gDiv := op2_I (C := CDiv) (g := fun i j => .int (i / j)) (fun a b c h => by
  unfold gDiv at h; split at h
  · obtain ⟨h1, h2⟩ := R.of_when h; cases h2; have h3 := of_decide_eq_true h1; exact ⟨_, _, rfl, rfl, h3, rfl⟩
  · cases h) fun _ _ _ => .int _
theorem v_mod : Op2 K (rI (fun _ j => 0 < j) fun i j => .int (i % j)) gMod := op2_I (C := fun _ j => 0 < j) (g := fun i j => .int (i % j)) (fun a b c h => by
  unfold gMod at h; split at h
  · obtain ⟨h1, h2⟩ := R.of_when h; cases h2; have h3 := of_decide_eq_true h1; exact ⟨_, _, rfl, rfl, h3, rfl⟩
  · cases h) fun _ _ _ => .int _
theorem v_pow : Op2 K (rI CPow fun i j => .int (i ^ j.toNat)) gPow := op2_I (C := CPow) (g := fun i j => .int (i ^ j.toNat)) (fun a b c h => by
  unfold gPow at h; split at h
  · obtain ⟨h1, h2⟩ := R.of_when h; cases h2; have h3 := of_decide_eq_true h1; exact ⟨_, _, rfl, rfl, h3, rfl⟩
  · cases h) fun _ _ _ => .int _
theorem v_shl : Op2 K (rI CPow fun i j => .int (i * 2 ^ j.toNat)) gShl := op2_I (C := CPow) (g := fun i j => .int (i * 2 ^ j.toNat)) (fun a b c h => by
  unfold gShl at h; split at h
  · obtain ⟨h1, h2⟩ := R.of_when h; cases h2; have h3 := of_decide_eq_true h1; exact ⟨_, _, rfl, rfl, h3, rfl⟩
  · cases h) fun _ _ _ => .int _
theorem v_shr : Op2 K (rI (fun _ j => 0 ≤ j) fun i j => .int (i / 2 ^ j.toNat)) gShr := op2_I (C := fun _ j => 0 ≤ j) (g := fun i j => .int (i / 2 ^ j.toNat)) (fun a b c h => by
  unfold gShr at h; split at h
  · obtain ⟨h1, h2⟩ := R.of_when h; cases h2; have h3 := of_decide_eq_true h1; exact ⟨_, _, rfl, rfl, h3, rfl⟩
  · cases h) fun _ _ _ => .int _
theorem v_neg : Op1 K (rU fun i => .int (-i)) gNeg := fun x H Z a c Q hz r h hq => by
  unfold gNeg at h; split at h <;> cases h
  cases r
  exact ⟨_, rfl, hq _ _ _ (Gr.refl hz) (.int _)⟩
def rEqX (K : PySem.W.Frag) : R2 := fun x y H Q => rEq x y H Q ∨ rEqD K x y H Q
def rNeX (K : PySem.W.Frag) : R2 := fun x y H Q => rNe x y H Q ∨ rNeD K x y H Q
theorem op_eqX {X : Cx} (hu : X.A.units + 64 < cLine) : OpR X (compareOp .Eq) (rEqX X.K) := op_eq.or (op_eqD hu)
theorem op_neX {X : Cx} (hu : X.A.units + 64 < cLine) : OpR X (compareOp .NotEq) (rNeX X.K) := op_ne.or (op_neD hu)
theorem v_eq : Op2 K (rEqX K) gEq := fun x y H Z a b c Q hz r1 r2 h hq => by
  unfold gEq at h
  split at h
  · cases h
    cases r1
    cases r2
    rename_i i j
    refine .inl ⟨rfl, ?_⟩
    have e : decide (V.int i = V.int j) = decide (i = j) := by simp
    rw [e]
    exact hq _ _ _ (Gr.refl hz) (.bl _)
  · cases h
    cases r1
    cases r2
    rename_i i j
    refine .inl ⟨rfl, ?_⟩
    have e : decide (V.str i = V.str j) = decide (i = j) := by simp
    rw [e]
    exact hq _ _ _ (Gr.refl hz) (.bl _)
  · obtain ⟨h1, h2⟩ := R.of_when h
    cases h2
    obtain ⟨e1, e2⟩ := Bool.and_eq_true_iff.mp h1
    exact .inr ⟨_, _, r1.dp hz (SeqAt.canLay_of_shaped e1), r2.dp hz (SeqAt.canLay_of_shaped e2), e1, e2, hq _ _ _ (Gr.refl hz) (.bl _)⟩
theorem v_ne : Op2 K (rNeX K) gNe := fun x y H Z a b c Q hz r1 r2 h hq => by
  unfold gNe at h
  split at h
  · cases h
    cases r1
    cases r2
    rename_i i j
    refine .inl ⟨rfl, ?_⟩
    have e : (!decide (V.int i = V.int j)) = !decide (i = j) := by simp
    rw [e]
    exact hq _ _ _ (Gr.refl hz) (.bl _)
  · cases h
    cases r1
    cases r2
    rename_i i j
    refine .inl ⟨rfl, ?_⟩
    have e : (!decide (V.str i = V.str j)) = !decide (i = j) := by simp
    rw [e]
    exact hq _ _ _ (Gr.refl hz) (.bl _)
  · obtain ⟨h1, h2⟩ := R.of_when h
    cases h2
    obtain ⟨e1, e2⟩ := Bool.and_eq_true_iff.mp h1
    exact .inr ⟨_, _, r1.dp hz (SeqAt.canLay_of_shaped e1), r2.dp hz (SeqAt.canLay_of_shaped e2), e1, e2, hq _ _ _ (Gr.refl hz) (.bl _)⟩
theorem v_isN : Op2 K (fun x y H Q => y = .non ∧ Q (.bl (decide (x = .non))) H) gIsN := fun x y H Z a b c Q hz r1 r2 h hq => by
  unfold gIsN at h; split at h <;> cases h
  cases r2
  refine ⟨rfl, ?_⟩
  rw [rep_isNone r1]
  exact hq _ _ _ (Gr.refl hz) (.bl _)
theorem v_notN : Op2 K (fun x y H Q => y = .non ∧ Q (.bl (!decide (x = .non))) H) gNotN := fun x y H Z a b c Q hz r1 r2 h hq => by
  unfold gNotN at h; split at h <;> cases h
  cases r2
  refine ⟨rfl, ?_⟩
  rw [rep_isNone r1]
  exact hq _ _ _ (Gr.refl hz) (.bl _)
/-! ### plus -/
def rAddD (K : PySem.W.Frag) : R2 := fun x y H Q => rI0 (fun i j => .int (i + j)) x y H Q ∨ ((∃ i j, x = .str i ∧ y = .str j ∧ i.length + j.length ≤ sizeLine ∧ Q (.str (i ++ j)) H) ∨ (rCatA K x y H Q ∨ rCat x y H Q))
theorem op_addD {X : Cx} : OpR X (binaryOp .Add) (rAddD X.K) := op_add.or (op_add_str.or (op_catA.or op_cat))
theorem v_add : Op2 K (rAddD K) gAdd := fun x y H Z a b c Q hz r1 r2 h hq => by
  unfold gAdd at h
  split at h
  · cases h; cases r1; cases r2
    exact .inl ⟨_, _, rfl, rfl, hq _ _ _ (Gr.refl hz) (.int _)⟩
  · obtain ⟨h1, h2⟩ := R.of_when h
    cases h2; cases r1; cases r2
    exact .inr (.inl ⟨_, _, rfl, rfl, of_decide_eq_true h1, hq _ _ _ (Gr.refl hz) (.str _)⟩)
  · obtain ⟨h1, h2⟩ := R.of_when h
    cases h2
    cases r1 with
    | tup t1 q1 =>
      cases r2 with
      | tup t2 q2 =>
        refine .inr (.inr (.inl ⟨_, _, _, _, rfl, rfl, same_seqT hz t1, same_seqT hz t2, by rw [q1.length, q2.length]; exact of_decide_eq_true h1, fun e => ?_, fun e e2 => ?_, fun e e2 p np => ?_⟩))
        · subst e
          cases q1
          exact hq _ _ _ (Gr.refl hz) (.tup t2 q2)
        · subst e2
          cases q2
          rw [List.append_nil] at hq
          exact hq _ _ _ (Gr.refl hz) (.tup t1 q1)
        · exact hq _ _ _ (Gr.new hz np) (.tup (.inl upd_same) ((q1.append q2).mono (same_upd (hz.free np))))
  · obtain ⟨h1, h2⟩ := R.of_when h
    cases h2
    cases r1 with
    | lst t1 q1 =>
      cases r2 with
      | lst t2 q2 =>
        refine .inr (.inr (.inr ⟨_, _, _, _, rfl, rfl, hz _ _ t1, hz _ _ t2, by rw [q1.length, q2.length]; exact of_decide_eq_true h1, fun p np => ?_⟩))
        exact hq _ _ _ (Gr.new hz np) (.lst upd_same ((q1.append q2).mono (same_upd (hz.free np))))
  · cases h
/-! ### items, slices -/
def gIx : D → D → R D
  | .tuple xs, .int i => match atI xs i with
    | some d => .ok d
    | none => .no
  | .list xs, .int i => match atI xs i with
    | some d => .ok d
    | none => .no
  | .str z, .int i => R.when (decide (z.length ≤ sizeLine)) (match atI z.cps.toList i with
    | some c => .ok (.str ⟨#[c]⟩)
    | none => .no)
  | _, _ => .no
theorem atI_reps {Z : Hp} {vs : List V} {ds : List D} {i : Int} {d : D} (r : Reps K Z vs ds) (h : atI ds i = some d) : ∃ v, atI vs i = some v ∧ Rep K Z v d := by
  unfold atI at h ⊢
  rw [r.length]
  cases e : ixN ds.length i with
  | none => rw [e] at h; cases h
  | some j =>
    rw [e] at h
    obtain ⟨v, h1, h2⟩ := r.get (show ds[j]? = some d from h)
    exact ⟨v, h1, h2⟩
theorem v_ix : Op2 K (rIx K) gIx := fun x y H Z a b c Q hz r1 r2 h hq => by
  unfold gIx at h
  split at h
  · split at h
    · rename_i he
      cases h
      cases r1 with
      | tup t q =>
        cases r2
        obtain ⟨v, h1, h2⟩ := atI_reps q he
        exact .inr (.inl ⟨_, _, _, v, rfl, rfl, same_seqT hz t, h1, hq _ _ _ (Gr.refl hz) h2⟩)
    · cases h
  · split at h
    · rename_i he
      cases h
      cases r1 with
      | lst t q =>
        cases r2
        obtain ⟨v, h1, h2⟩ := atI_reps q he
        exact .inl ⟨_, _, _, v, rfl, rfl, .inl (.inl (hz _ _ t)), h1, hq _ _ _ (Gr.refl hz) h2⟩
    · cases h
  · obtain ⟨h1, h2⟩ := R.of_when h
    split at h2
    · rename_i he
      cases h2
      cases r1
      cases r2
      exact .inr (.inr ⟨_, _, _, rfl, rfl, of_decide_eq_true h1, he, hq _ _ _ (Gr.refl hz) (.str _)⟩)
    · cases h2
  · cases h
/-- the part from lo to hi -/
def cutD {a : Type} (xs : List a) (lo hi : Option Int) : List a := (xs.drop (HT.sIx xs.length 0 lo)).take (HT.sIx xs.length xs.length hi - HT.sIx xs.length 0 lo)
theorem cutD_reps {Z : Hp} {vs : List V} {ds : List D} (r : Reps K Z vs ds) (lo hi : Option Int) : Reps K Z (cutV vs lo hi) (cutD ds lo hi) := by
  unfold cutV cutD
  rw [r.length]
  exact (r.drop _).take _
theorem cutD_whole {a : Type} {xs : List a} {lo hi : Option Int} (h : HT.sIx xs.length 0 lo = 0 ∧ HT.sIx xs.length xs.length hi = xs.length) : cutD xs lo hi = xs := by
  unfold cutD
  rw [h.1, h.2]
  simp
end
/-- a slice's end -/
def OF : Type := Env → R (Option Int)
def cNoPart : OF := fun _ => .ok none
def toI : D → R (Option Int)
  | .int i => .ok (some i)
  | _ => .no
def cPart (f : PF) : OF := fun env => (f env).bind toI
def PartSem (K : PySem.W.Frag) (us : List Nat) (t : TO) (f : OF) : Prop :=
  ∀ (σ : L2.St) (H Z : Hp) (env : Env) (o : Option Int) (Q : Option Int → Hp → Prop), Same Z H → EnvU K us Z H σ env → f env = .ok o → (∀ Z' H', Gr Z H Z' H' → Q o H') → t σ H Q
structure DPart (X : Cx) (us : List Nat) (e : Option Expr) (f : OF) : Prop where
  ex : ∃ t, PO X e t ∧ PartSem X.K us t f
section
variable {X : Cx} {us : List Nat} {e : Expr} {f : PF} {lo hi : Option Expr} {fl fh : OF} {pos p2 : Pos}
theorem dpart_none : DPart X us none cNoPart := ⟨_, po_none, fun σ H Z env o Q hz he hf hq => by cases hf; exact hq _ _ (Gr.refl hz)⟩
theorem dpart_some (h : DP X us e f) : DPart X us (some e) (cPart f) := by
  obtain ⟨t, h1, h2⟩ := h.ex
  refine ⟨_, po_some h1, fun σ H Z env o Q hz he hf hq => ?_⟩
  obtain ⟨d, e1, e2⟩ := R.of_bind hf
  refine h2 σ H Z env d _ hz he e1 fun v Z1 H1 g r => ?_
  unfold toI at e2; split at e2 <;> cases e2
  cases r
  exact ⟨_, rfl, hq _ _ g⟩
def gSl (d : D) (lo hi : Option Int) : R D := match d with
  | .tuple xs => .ok (.tuple (cutD xs lo hi))
  | .list xs => .ok (.list (cutD xs lo hi))
  | _ => .no
def cSl (f : PF) (fl fh : OF) : PF := fun env => (f env).bind fun d => (fl env).bind fun l => (fh env).bind fun h => gSl d l h
theorem dp_sl (h : DP X us e f) (hl : DPart X us lo fl) (hh : DPart X us hi fh) : DP X us (.Subscript e (.Slice lo hi none p2) pos) (cSl f fl fh) := by
  obtain ⟨t, h1, h2⟩ := h.ex
  obtain ⟨tl, h3, h4⟩ := hl.ex
  obtain ⟨th, h5, h6⟩ := hh.ex
  refine ⟨_, pe_slice (sl_tupA.or sl_list) h1 h3 h5, fun σ H Z env d Q hz he hf hq => ?_⟩
  obtain ⟨d0, e1, e2⟩ := R.of_bind hf
  obtain ⟨l, e3, e4⟩ := R.of_bind e2
  obtain ⟨hh', e5, e6⟩ := R.of_bind e4
  refine h2 σ H Z env d0 _ hz he e1 fun v Z1 H1 g1 r1 => ?_
  refine h4 σ H1 Z1 env l _ g1.zh (he.mono g1) e3 fun Z2 H2 g2 => ?_
  have he2 := (he.mono g1).mono g2
  refine h6 σ H2 Z2 env hh' _ g2.zh he2 e5 fun Z3 H3 g3 => ?_
  have g := (g1.trans g2).trans g3
  have r := (r1.mono g2.zz).mono g3.zz
  unfold gSl at e6
  split at e6
  · cases e6
    cases r with
    | tup tt q =>
      refine .inl ⟨_, _, rfl, same_seqT g.zh tt, fun w => ?_, fun w p np => ?_⟩
      · rw [q.length] at w
        rw [cutD_whole w] at hq
        exact hq _ _ _ g (.tup tt q)
      · exact hq _ _ _ (g.trans (Gr.new g.zh np)) (.tup (.inl upd_same) ((cutD_reps q _ _).mono (same_upd (g.zh.free np))))
  · cases e6
    cases r with
    | lst tt q =>
      refine .inr ⟨_, _, rfl, .inl (.inl (g.zh _ _ tt)), fun p np => ?_⟩
      exact hq _ _ _ (g.trans (Gr.new g.zh np)) (.lst upd_same ((cutD_reps q _ _).mono (same_upd (g.zh.free np))))
  · cases e6
end
section
variable {X : Cx} {us : List Nat} {a b : Expr} {fa fb : PF} {pos : Pos}
theorem dp_add (ha : DP X us a fa) (hb : DP X us b fb) : DP X us (.BinOp a .Add b pos) (cBin gAdd fa fb) := dp_op op_addD v_add ha hb
theorem dp_sub (ha : DP X us a fa) (hb : DP X us b fb) : DP X us (.BinOp a .Sub b pos) (cBin gSub fa fb) := dp_op op_sub v_sub ha hb
theorem dp_mulI (ha : DP X us a fa) (hb : DP X us b fb) : DP X us (.BinOp a .Mult b pos) (cBin gMulI fa fb) := dp_op op_mul v_mulI ha hb
theorem dp_fdiv (ha : DP X us a fa) (hb : DP X us b fb) : DP X us (.BinOp a .FloorDiv b pos) (cBin gDiv fa fb) := dp_op op_fdiv v_div ha hb
theorem dp_mod (ha : DP X us a fa) (hb : DP X us b fb) : DP X us (.BinOp a .Mod b pos) (cBin gMod fa fb) := dp_op op_mod v_mod ha hb
theorem dp_pow (ha : DP X us a fa) (hb : DP X us b fb) : DP X us (.BinOp a .Pow b pos) (cBin gPow fa fb) := dp_op op_pow v_pow ha hb
theorem dp_shl (ha : DP X us a fa) (hb : DP X us b fb) : DP X us (.BinOp a .LShift b pos) (cBin gShl fa fb) := dp_op op_shl v_shl ha hb
theorem dp_shr (ha : DP X us a fa) (hb : DP X us b fb) : DP X us (.BinOp a .RShift b pos) (cBin gShr fa fb) := dp_op op_shr v_shr ha hb
theorem dp_neg (ha : DP X us a fa) : DP X us (.UnaryOp .USub a pos) (cUn gNeg fa) := by
  obtain ⟨t, h1, h2⟩ := ha.ex
  refine ⟨_, pe_un un_neg h1, fun σ H Z env d Q hz he hf hq => ?_⟩
  obtain ⟨x, e1, e2⟩ := R.of_bind hf
  refine h2 σ H Z env x _ hz he e1 fun v Z1 H1 g r => ?_
  exact v_neg v H1 Z1 x d Q g.zh r e2 fun w Z2 H2 g2 r2 => hq w Z2 H2 (g.trans g2) r2
theorem dp_ix (ha : DP X us a fa) (hb : DP X us b fb) (hs : PlainIx b := by exact fun _ _ => rfl) : DP X us (.Subscript a b pos) (cBin gIx fa fb) := by
  obtain ⟨ta, h1, h2⟩ := ha.ex
  obtain ⟨tb, h3, h4⟩ := hb.ex
  exact ⟨_, pe_ix ix_seq h1 h3 hs, psem_op v_ix h2 h4⟩
end
end Dz

set_option maxRecDepth 100000
set_option maxHeartbeats 2000000
namespace Dz
open PySem PySem.Spec PyProof.Rows L2
/-! ## targets -/
abbrev GF := D → Env → R Env
def GSem (K : PySem.W.Frag) (t : TG) (sl : List Nat) (g : GF) : Prop :=
  ∀ (v : V) (d : D) (σ : L2.St) (H Z : Hp) (env env' : Env) (Q : L2.St → Hp → Prop), Same Z H → Rep K Z v d → σ.length = env.length → g d env = .ok env' →
    (∀ σ' : L2.St, σ'.length = σ.length → env'.length = env.length → (∀ j, sl.contains j = false → σ'[j]? = σ[j]? ∧ env'[j]? = env[j]?) →
      (∀ (j : Nat) d', sl.contains j = true → env'[j]? = some (some d') → ∃ v', σ'[j]? = some (some v') ∧ Rep K Z v' d') → Q σ' H) → t v σ H Q
def semG (K : PySem.W.Frag) (sl : List Nat) (g : GF) : TG := fun v σ H Q => ∃ d Z env env', Same Z H ∧ Rep K Z v d ∧ σ.length = env.length ∧ g d env = .ok env' ∧
    ∀ σ' : L2.St, σ'.length = σ.length → env'.length = env.length → (∀ j, sl.contains j = false → σ'[j]? = σ[j]? ∧ env'[j]? = env[j]?) →
      (∀ (j : Nat) d', sl.contains j = true → env'[j]? = some (some d') → ∃ v', σ'[j]? = some (some v') ∧ Rep K Z v' d') → Q σ' H
structure DG (X : Cx) (tg : Expr) (sl : List Nat) (g : GF) : Prop where
  ex : ∃ t, PG X tg t ∧ GSem X.K t sl g
def setE (i : Nat) : GF := fun d env => .ok (env.set i (some d))
section
variable {X : Cx} {pos : Pos}
theorem DG.can {tg : Expr} {sl : List Nat} {g : GF} (h : DG X tg sl g) : PG X tg (semG X.K sl g) := by
  obtain ⟨t, h1, h2⟩ := h.ex
  refine ⟨fun pins s σ H v u Q I r hw => ?_⟩
  obtain ⟨d, Z, env, env', a, b, c, e, q⟩ := hw
  exact h1.run pins s σ H v u Q I r (h2 v d σ H Z env env' Q a b c e q)
theorem dg_name {i : Nat} {x : Str} (hN : X.N.Nodup) (hi : X.N[i]? = some x) (hx : Loc X.env.scope x) (hf : X.fn x = true ∨ X.env.scope.names.lookup x = some .local := by first | exact .inl rfl | exact .inr rfl | assumption) : DG X (.Name x pos) [i] (setE i) := by
  refine ⟨_, pg_name hN hi hx hf, fun v d σ H Z env env' Q hz r hl he hq => ?_⟩
  cases he
  refine hq _ (by simp) (by simp) (fun j hj => ?_) fun j d' hj e => ?_
  · have hne : i ≠ j := fun e => by subst e; simp at hj
    rw [List.getElem?_set_ne hne, List.getElem?_set_ne hne]
    exact ⟨rfl, rfl⟩
  · have hji : j = i := by simpa using hj
    subst hji
    have hlt : j < env.length := by
      rcases Nat.lt_or_ge j env.length with h | h
      · exact h
      · rw [List.getElem?_eq_none (by simpa using h)] at e; cases e
    rw [List.getElem?_set_self hlt] at e
    cases e
    exact ⟨v, by rw [List.getElem?_set_self (by rw [hl]; exact hlt)], r⟩
/-- a tuple of targets -/
def GsSem (K : PySem.W.Frag) (t : TGs) (sl : List Nat) (g : List D → Env → R Env) : Prop :=
  ∀ (vs : List V) (ds : List D) (σ : L2.St) (H Z : Hp) (env env' : Env) (Q : L2.St → Hp → Prop), Same Z H → Reps K Z vs ds → σ.length = env.length → g ds env = .ok env' →
    (∀ σ' : L2.St, σ'.length = σ.length → env'.length = env.length → (∀ j, sl.contains j = false → σ'[j]? = σ[j]? ∧ env'[j]? = env[j]?) →
      (∀ (j : Nat) d', sl.contains j = true → env'[j]? = some (some d') → ∃ v', σ'[j]? = some (some v') ∧ Rep K Z v' d') → Q σ' H) → t vs σ H Q
structure DGs (X : Cx) (ts : List Expr) (sl : List Nat) (g : List D → Env → R Env) : Prop where
  ex : ∃ t, PGs X ts t ∧ GsSem X.K t sl g
def setNil : List D → Env → R Env
  | [], env => .ok env
  | _ :: _, _ => .no
def setCons (g : GF) (gs : List D → Env → R Env) : List D → Env → R Env
  | [], _ => .no
  | d :: ds, env => (g d env).bind (gs ds)
theorem dgs_nil : DGs X [] [] setNil := by
  refine ⟨_, pgs_nil, fun vs ds σ H Z env env' Q hz r hl he hq => ?_⟩
  cases r with
  | nil =>
    cases he
    exact ⟨rfl, hq σ rfl rfl (fun _ _ => ⟨rfl, rfl⟩) fun _ _ h => by simp at h⟩
  | cons _ _ => cases he
theorem dgs_cons {e : Expr} {es : List Expr} {sl sl' : List Nat} {g : GF} {gs : List D → Env → R Env} (h1 : DG X e sl g) (h2 : DGs X es sl' gs) (hs : (assignEach (e :: es) X.env).map (·.2) = assign e X.env :: (assignEach es X.env).map (·.2) := by rfl) : DGs X (e :: es) (sl ++ sl') (setCons g gs) := by
  obtain ⟨t, a1, a2⟩ := h1.ex
  obtain ⟨u, b1, b2⟩ := h2.ex
  refine ⟨_, pgs_cons a1 b1 hs, fun vs ds σ H Z env env' Q hz r hl he hq => ?_⟩
  cases r with
  | nil => cases he
  | cons r rr =>
    obtain ⟨env1, e1, e2⟩ := R.of_bind he
    refine ⟨_, _, rfl, a2 _ _ σ H Z env env1 _ hz r hl e1 fun σ1 l1 m1 off1 on1 => ?_⟩
    refine b2 _ _ σ1 H Z env1 env' _ hz rr (by rw [l1, m1, hl]) e2 fun σ2 l2 m2 off2 on2 => ?_
    refine hq σ2 (l2.trans l1) (m2.trans m1) (fun j hj => ?_) fun j d' hj e => ?_
    · have hj' : sl.contains j = false ∧ sl'.contains j = false := by
        simpa using hj
      exact ⟨(off2 j hj'.2).1.trans (off1 j hj'.1).1, (off2 j hj'.2).2.trans (off1 j hj'.1).2⟩
    · cases hc : sl'.contains j with
      | true => exact on2 j d' hc e
      | false =>
        have hj1 : sl.contains j = true := by
          have : j ∈ sl ∨ j ∈ sl' := by simpa using hj
          have h' : j ∉ sl' := by simpa using hc
          simpa [h'] using this
        rw [(off2 j hc).2] at e
        rw [(off2 j hc).1]
        exact on1 j d' hj1 e
def setTup (n : Nat) (gs : List D → Env → R Env) : GF := fun d env => match d with
  | .tuple ds => R.when (decide (ds.length = n)) (gs ds env)
  | _ => .no
theorem dg_tup {es : List Expr} {k n : Nat} {sl : List Nat} {gs : List D → Env → R Env} (hc : X.calm = true) (h : DGs X es sl gs) (hn : (assignEach es X.env).length = n := by rfl) (hst : (assignEach es X.env).findIdx? (·.1) = none := by rfl) : DG X (.Tuple es k pos) sl (setTup n gs) := by
  obtain ⟨u, b1, b2⟩ := h.ex
  refine ⟨_, pg_tup hc b1 hn hst, fun v d σ H Z env env' Q hz r hl he hq => ?_⟩
  unfold setTup at he
  split at he
  · obtain ⟨h1, h2⟩ := R.of_when he
    cases r with
    | tup t q => exact ⟨_, _, rfl, same_seqT hz t, by rw [q.length]; exact of_decide_eq_true h1, b2 _ _ σ H Z env env' Q hz q hl h2 hq⟩
  · cases he
end
/-! ## what is walked -/
structure ItOk (K : PySem.W.Frag) (J : It) (Z : Hp) (ds : List D) : Prop where
  go : ∀ i H, i < ds.length → Same Z H → J.go i H
  stop : ∀ H, Same Z H → J.stop ds.length H
  yld : ∀ i H x H' Z1, i < ds.length → Same Z Z1 → Same Z1 H → J.yld i H x H' → ∃ Z2 d, Gr Z1 H Z2 H' ∧ ds[i]? = some d ∧ Rep K Z2 x d
abbrev IF := Env → R (List D)
def ISem (K : PySem.W.Frag) (us : List Nat) (w : TI) (f : IF) : Prop :=
  ∀ (σ : L2.St) (H Z : Hp) (env : Env) (ds : List D) (Q : It → Hp → Prop), Same Z H → EnvU K us Z H σ env → f env = .ok ds → (∀ J Z' H', Gr Z H Z' H' → ItOk K J Z' ds → Q J H') → w σ H Q
structure DI (X : Cx) (us : List Nat) (tg e : Expr) (f : IF) : Prop where
  ex : ∃ w, PI X tg e w ∧ ISem X.K us w f
def itemsOf : D → R (List D)
  | .list xs => .ok xs
  | .tuple xs => .ok xs
  | _ => .no
def cItL (f : PF) : IF := fun env => (f env).bind fun d => match d with
  | .list xs => .ok xs
  | _ => .no
def cItT (f : PF) : IF := fun env => (f env).bind fun d => match d with
  | .tuple xs => .ok xs
  | _ => .no
def rgD (lo : Int) (n : Nat) : List D := (List.range n).map fun (i : Nat) => .int (lo + (i : Int))
def cRng1 (f : PF) : IF := fun env => (f env).bind fun d => match d with
  | .int j => R.when (decide (-(2 ^ 62) ≤ j ∧ j < 2 ^ 62)) (.ok (rgD 0 j.toNat))
  | _ => .no
def cRng2 (f g : PF) : IF := fun env => (f env).bind fun d => (g env).bind fun d' => match d, d' with
  | .int i, .int j => R.when (decide (-(2 ^ 62) ≤ i ∧ i < 2 ^ 62 ∧ -(2 ^ 62) ≤ j ∧ j < 2 ^ 62)) (.ok (rgD i (j - i).toNat))
  | _, _ => .no
theorem itok_list {K : PySem.W.Frag} {Z : Hp} {a : Addr} {vs : List V} {ds : List D} (t : Z a = some (.lst vs)) (q : Reps K Z vs ds) : ItOk K (Itl K a) Z ds where
  go := fun i H hi e => ⟨vs, vs[i]'(by rw [q.length]; exact hi), .inl (.inl (e _ _ t)), by simp [q.length, hi]⟩
  stop := fun H e => ⟨vs, .inl (.inl (e _ _ t)), by rw [q.length]; exact Nat.le_refl _⟩
  yld := fun i H x H' Z1 hi e e' y => by
    obtain ⟨rfl, y⟩ := y
    obtain ⟨d, h1, h2⟩ := q.getV (y vs (.inl (.inl (e' _ _ (e _ _ t)))))
    exact ⟨Z1, d, Gr.refl e', h1, h2.mono e⟩
theorem itok_tup {K : PySem.W.Frag} {Z : Hp} {a : Addr} {vs : List V} {ds : List D} (t : TpAt K Z a vs) (q : Reps K Z vs ds) : ItOk K (Itt K a) Z ds where
  go := fun i H hi e => ⟨vs, vs[i]'(by rw [q.length]; exact hi), same_seqT e t, by simp [q.length, hi]⟩
  stop := fun H e => ⟨vs, same_seqT e t, by rw [q.length]; exact Nat.le_refl _⟩
  yld := fun i H x H' Z1 hi e e' y => by
    obtain ⟨rfl, y⟩ := y
    obtain ⟨d, h1, h2⟩ := q.getV (y vs (same_seqT (e.trans e') t))
    exact ⟨Z1, d, Gr.refl e', h1, h2.mono e⟩
theorem itok_rng {K : PySem.W.Frag} {Z : Hp} {lo : Int} {n : Nat} : ItOk K (Itr lo n) Z (rgD lo n) where
  go := fun i H hi e => by show i < n; simpa [rgD] using hi
  stop := fun H e => by show n ≤ (rgD lo n).length; simp [rgD]
  yld := fun i H x H' Z1 hi e e' y => by
    obtain ⟨rfl, rfl⟩ := y
    exact ⟨Z1, _, Gr.refl e', by
      have hi' : i < n := by simpa [rgD] using hi
      unfold rgD
      rw [List.getElem?_map, List.getElem?_range hi']
      rfl, .int _⟩
section
variable {X : Cx} {us : List Nat} {tg e e2 : Expr} {f g : PF} {p pos : Pos}
theorem di_list (h : DP X us e f) : DI X us tg e (cItL f) := by
  obtain ⟨t, h1, h2⟩ := h.ex
  refine ⟨_, pi_list h1, fun σ H Z env ds Q hz he hf hq => ?_⟩
  obtain ⟨d, e1, e2⟩ := R.of_bind hf
  refine h2 σ H Z env d _ hz he e1 fun v Z1 H1 g r => ?_
  split at e2
  · cases e2
    cases r with
    | lst t q => exact ⟨_, rfl, ⟨_, .inl (.inl (g.zh _ _ t))⟩, hq _ Z1 H1 g (itok_list t q)⟩
  · cases e2
theorem di_tup (h : DP X us e f) : DI X us tg e (cItT f) := by
  obtain ⟨t, h1, h2⟩ := h.ex
  refine ⟨_, pi_tup h1, fun σ H Z env ds Q hz he hf hq => ?_⟩
  obtain ⟨d, e1, e2⟩ := R.of_bind hf
  refine h2 σ H Z env d _ hz he e1 fun v Z1 H1 g r => ?_
  split at e2
  · cases e2
    cases r with
    | tup t q => exact ⟨_, rfl, ⟨_, same_seqT g.zh t⟩, hq _ Z1 H1 g (itok_tup t q)⟩
  · cases e2
theorem di_rng1 (hg : Gl X "range") (hm : X.mg "range" = none) (h : DP X us e f) (hs : starEach [e] X.env = [(false, eval e X.env)] := by rfl) : DI X us tg (.Call (.Name "range" p) [e] [] pos) (cRng1 f) := by
  obtain ⟨u, h1, h2⟩ := (da_cons h da_nil hs).ex
  refine ⟨_, pi_range1 hg hm h1 hs, fun σ H Z env ds Q hz he hf hq => ?_⟩
  obtain ⟨d, e1, e2⟩ := R.of_bind hf
  refine h2 σ H Z env [d] _ hz he (by simp [aCons, aNil, e1]) fun vs Z1 H1 g r => ?_
  split at e2
  · obtain ⟨e3, e4⟩ := R.of_when e2
    cases e4
    cases r with
    | cons r rr =>
      cases rr
      cases r
      have hb := of_decide_eq_true e3
      exact ⟨_, rfl, hb.1, hb.2, hq _ Z1 H1 g itok_rng⟩
  · cases e2
theorem di_rng2 (hg : Gl X "range") (hm : X.mg "range" = none) (h : DP X us e f) (h' : DP X us e2 g) (hs : starEach [e, e2] X.env = [(false, eval e X.env), (false, eval e2 X.env)] := by rfl) (hs2 : starEach [e2] X.env = [(false, eval e2 X.env)] := by rfl) :
    DI X us tg (.Call (.Name "range" p) [e, e2] [] pos) (cRng2 f g) := by
  obtain ⟨u, h1, h2⟩ := (da_cons h (da_cons h' da_nil hs2) (by rw [hs, hs2])).ex
  refine ⟨_, pi_range2 hg hm h1 hs hs2, fun σ H Z env ds Q hz he hf hq => ?_⟩
  obtain ⟨d, e1, e3⟩ := R.of_bind hf
  obtain ⟨d', e4, e5⟩ := R.of_bind e3
  refine h2 σ H Z env [d, d'] _ hz he (by simp [aCons, aNil, e1, e4]) fun vs Z1 H1 g r => ?_
  split at e5
  · obtain ⟨e6, e7⟩ := R.of_when e5
    cases e7
    cases r with
    | cons r rr =>
      cases rr with
      | cons r' rr =>
        cases rr
        cases r
        cases r'
        exact ⟨_, _, rfl, of_decide_eq_true e6, hq _ Z1 H1 g itok_rng⟩
  · cases e5
end
/-! ## comprehensions -/
def wipeE (env : Env) : List Nat → Env
  | [] => env
  | v :: vs => (wipeE env vs).set v none
theorem wipeE_length (env : Env) : ∀ vs, (wipeE env vs).length = env.length
  | [] => rfl
  | v :: vs => by unfold wipeE; rw [List.length_set, wipeE_length env vs]
theorem wipeE_some {env : Env} {i : Nat} {x : D} : ∀ {vs : List Nat}, (wipeE env vs)[i]? = some (some x) → env[i]? = some (some x) ∧ i ∉ vs
  | [], h => ⟨h, by simp⟩
  | v :: vs, h => by
    unfold wipeE at h
    by_cases hi : v = i
    · subst hi
      by_cases hv : v < (wipeE env vs).length
      · rw [List.getElem?_set_self hv] at h; cases h
      · rw [List.getElem?_eq_none (by simpa using hv)] at h; cases h
    · rw [List.getElem?_set_ne hi] at h
      obtain ⟨h1, h2⟩ := wipeE_some h
      exact ⟨h1, by simp only [List.mem_cons, not_or]; exact ⟨fun e => hi e.symm, h2⟩⟩
theorem wipe_off {σ : L2.St} {i : Nat} : ∀ {vs : List Nat}, i ∉ vs → (wipe σ vs)[i]? = σ[i]?
  | [], _ => rfl
  | v :: vs, h => by
    unfold wipe
    rw [List.getElem?_set_ne (fun e => h (by simp [e]))]
    exact wipe_off fun q => h (List.mem_cons_of_mem _ q)
theorem wipe_on {σ : L2.St} {i : Nat} : ∀ {vs : List Nat}, i ∈ vs → i < σ.length → (wipe σ vs)[i]? = some none
  | v :: vs, h, hl => by
    unfold wipe
    by_cases e : v = i
    · subst e
      rw [List.getElem?_set_self (by rw [wipe_length]; exact hl)]
    · rw [List.getElem?_set_ne e]
      exact wipe_on ((List.mem_cons.mp h).resolve_left fun q => e q.symm) hl
theorem wipe_same {σ σ' : L2.St} {vs : List Nat} (hl : σ'.length = σ.length) (h : ∀ j, j ∉ vs → σ'[j]? = σ[j]?) : wipe σ' vs = wipe σ vs := by
  apply List.ext_getElem?
  intro j
  by_cases hj : j ∈ vs
  · by_cases hlt : j < σ.length
    · rw [wipe_on hj hlt, wipe_on hj (by rw [hl]; exact hlt)]
    · rw [List.getElem?_eq_none (by rw [wipe_length, hl]; omega), List.getElem?_eq_none (by rw [wipe_length]; omega)]
  · rw [wipe_off hj, wipe_off hj, h j hj]
theorem EnvU.wipe {K : PySem.W.Frag} {us : List Nat} {Z H : Hp} {σ : L2.St} {env : Env} (h : EnvU K us Z H σ env) (vs : List Nat) : EnvU K us Z H (L2.wipe σ vs) (wipeE env vs) := ⟨by rw [wipe_length, wipeE_length, h.len], fun i d hu he => by
  obtain ⟨h1, h2⟩ := wipeE_some he
  rw [wipe_off h2]
  exact h.slot i d hu h1, fun i d he => by
  obtain ⟨h1, h2⟩ := wipeE_some he
  rw [wipe_off h2]
  exact h.vis i d h1⟩
/-- behind a target's storing -/
theorem EnvU.set {K : PySem.W.Frag} {us sl : List Nat} {Z H : Hp} {σ σ' : L2.St} {env env' : Env} (h : EnvU K us Z H σ env) (zh : Same Z H) (l1 : σ'.length = σ.length) (l2 : env'.length = env.length) (off : ∀ j, sl.contains j = false → σ'[j]? = σ[j]? ∧ env'[j]? = env[j]?)
    (on : ∀ (j : Nat) d', sl.contains j = true → env'[j]? = some (some d') → ∃ v', σ'[j]? = some (some v') ∧ Rep K Z v' d') : EnvU K us Z H σ' env' := ⟨by rw [l1, l2, h.len], fun i d hu he => by
  cases hc : sl.contains i with
  | true => exact on i d hc he
  | false =>
    rw [(off i hc).1]
    rw [(off i hc).2] at he
    exact h.slot i d hu he, fun i d he => by
  cases hc : sl.contains i with
  | true =>
    obtain ⟨v, h1, h2⟩ := on i d hc he
    exact ⟨v, h1, h2.mono zh⟩
  | false =>
    rw [(off i hc).1]
    rw [(off i hc).2] at he
    exact h.vis i d he⟩
def lcGo (tgt : GF) (ff : Env → R Bool) (fe : PF) (env : Env) : List D → R (List D)
  | [] => .ok []
  | d :: ds => (tgt d env).bind fun env1 => (ff env1).bind fun c => if c = true then (fe env1).bind fun y => (lcGo tgt ff fe env ds).bind fun r => .ok (y :: r) else lcGo tgt ff fe env ds
def cLc (fi : IF) (vs : List Nat) (tgt : GF) (ff : Env → R Bool) (fe : PF) : Env → R (List D) := fun env => (fi env).bind fun ds => (lcGo tgt ff fe (wipeE env vs) ds).bind fun r => R.when (decide (r.length ≤ sizeLine)) (.ok r)
def cYes : Env → R Bool := fun _ => .ok true
structure DTs (X : Cx) (us : List Nat) (es : List Expr) (f : Env → R Bool) : Prop where
  run : PTs X es (semT X.K us f)
section
variable {X : Cx} {us : List Nat}
theorem dts_nil : DTs X us [] cYes := ⟨⟨fun pins s σ H Q I h => by
  obtain ⟨Z, env, c, a, b, e, q⟩ := h
  cases e
  exact wpAny_tests_nil ⟨H, I, q _ _ (Gr.refl a)⟩⟩⟩
theorem dts_one {e : Expr} {f : Env → R Bool} (h : DT X us e f) : DTs X us [e] f := ⟨pts_one h.can⟩
theorem lc_sem {K : PySem.W.Frag} {us : List Nat} {wi : TI} {fi : IF} {sl vs : List Nat} {tgt : GF} {ff : Env → R Bool} {fe : PF} (hi : ISem K us wi fi) (hsl : ∀ j, sl.contains j = true → j ∈ vs) :
    OSem K us (tLc wi (semG K sl tgt) (semT K us ff) (semP K us fe) vs) (cLc fi vs tgt ff fe) := by
  intro σ H Z env rs Q hz he hf hq
  obtain ⟨ds, h1, h2⟩ := R.of_bind hf
  obtain ⟨rs', h3, h4⟩ := R.of_bind h2
  obtain ⟨h5, h6⟩ := R.of_when h4
  obtain rfl : rs' = rs := by cases h6; rfl
  have hlen := of_decide_eq_true h5
  refine hi σ H Z env ds _ hz he h1 fun J Z1 H1 g1 ok p np => ?_
  have hew := (he.mono g1).wipe vs
  refine ⟨fun i m H2 => m = ds.length - i ∧ i ≤ ds.length ∧ ∃ Z2 acc done rest, Gr Z1 H1 Z2 H2 ∧ Z2 p = none ∧ H2 p = some (.lst acc) ∧ Reps K Z2 acc done ∧ lcGo tgt ff fe (wipeE env vs) (ds.drop i) = .ok rest ∧ rs' = done ++ rest,
    ⟨_, rfl, Nat.zero_le _, Z1, [], [], rs', Gr.own g1.zh np, g1.zh.free np, upd_same, .nil, h3, rfl⟩, fun i m H2 hW => ?_⟩
  obtain ⟨rfl, hile, Z2, acc, done, rest, g2, n2, e2, r2, hrest, hrs⟩ := hW
  by_cases hlt : i < ds.length
  · refine .inr ⟨ok.go i H2 hlt (g2.zz.trans g2.zh), fun H' => ∃ Z2 acc done rest, Gr Z1 H1 Z2 H' ∧ Z2 p = none ∧ H' p = some (.lst acc) ∧ Reps K Z2 acc done ∧ lcGo tgt ff fe (wipeE env vs) (ds.drop (i + 1)) = .ok rest ∧ rs' = done ++ rest,
      fun H' hN => ⟨ds.length - (i + 1), by omega, rfl, hlt, hN⟩, fun x H3 y => ?_⟩
    obtain ⟨Z3, d, g3, hd, r3⟩ := ok.yld i H2 x H3 Z2 hlt g2.zz g2.zh y
    have hdrop : ds.drop i = d :: ds.drop (i + 1) := by
      rw [List.drop_eq_getElem_cons hlt]
      rw [List.getElem?_eq_getElem hlt] at hd
      cases hd; rfl
    rw [hdrop] at hrest
    obtain ⟨env1, a1, a2⟩ := R.of_bind hrest
    obtain ⟨c, a3, a4⟩ := R.of_bind a2
    have hw3 := (hew.mono g2).mono g3
    refine ⟨d, Z3, wipeE env vs, env1, g3.zh, r3, hw3.len, a1, fun σ' l1 l2 off on => ?_⟩
    have nt : ∀ (l : List V) (xs : List V), HO.lst l ≠ .tup xs := fun _ _ z => by cases z
    have n3 : Z3 p = none := g3.out n2 e2 (nt _)
    have hws : wipe σ' vs = wipe σ vs := by
      have := wipe_same (σ := wipe σ vs) (σ' := σ') (vs := vs) l1 fun j hj => (off j (by
        cases q : sl.contains j with
        | false => rfl
        | true => exact absurd (hsl j q) hj)).1
      rw [this]
      exact wipe_same (wipe_length _ _) fun j hj => wipe_off hj
    refine ⟨hws, ?_⟩
    have hE := hw3.set g3.zh l1 l2 off on
    refine ⟨Z3, env1, c, g3.zh, hE, a3, fun Z4 H4 g4 => ?_⟩
    have n4 : Z4 p = none := g4.out n3 (g3.hh _ _ e2) (nt _)
    have g24 := g3.trans g4
    cases c with
    | false =>
      rw [if_neg Bool.false_ne_true] at a4
      refine iteF ?_
      exact ⟨Z4, acc, done, rest, g2.trans g24, n4, g24.hh _ _ e2, r2.mono g24.zz, a4, hrs⟩
    | true =>
      rw [if_pos rfl] at a4
      refine iteT ?_
      obtain ⟨yv, a5, a6⟩ := R.of_bind a4
      obtain ⟨rest', a7, a8⟩ := R.of_bind a6
      cases a8
      refine ⟨Z4, env1, yv, g4.zh, hE.mono g4, a5, fun u Z5 H5 g5 r5 => ?_⟩
      have g25 := g24.trans g5
      have n5 : Z5 p = none := g25.out n2 e2 (nt _)
      have hd5 : H5 p = some (.lst acc) := g25.hh _ _ e2
      have hlen2 : acc.length < sizeLine := by
        rw [r2.length]
        rw [hrs] at hlen
        simp at hlen
        omega
      refine ⟨acc, hd5, hlen2, Z5, acc ++ [u], done ++ [yv], rest', ?_, n5, upd_same, (r2.mono g25.zz).append (.cons r5 .nil), a7, by rw [hrs]; simp⟩
      have g := g2.trans g25
      exact ⟨g.zz, same_upd2 g.zh n5, fun b o e => by
        rw [upd_ne (ne_of_none e np)]
        exact g.hh b o e, g.fr⟩
  · have e : i = ds.length := by omega
    subst e
    rw [List.drop_length] at hrest
    cases hrest
    rw [List.append_nil] at hrs
    refine .inl ⟨ok.stop H2 (g2.zz.trans g2.zh), ?_⟩
    exact hq p acc Z2 H2 (g1.trans g2) (g1.hh.free np) n2 e2 (by rw [hrs]; exact r2)
theorem sl_of {sl vs : List Nat} (h : sl.all (fun j => vs.contains j) = true) : ∀ j, sl.contains j = true → j ∈ vs := fun j hj => by
  have := List.all_eq_true.mp h j (by simpa using hj)
  simpa using this
theorem do_lc {elt tg iter : Expr} {ifs : List Expr} {scope : Scope} {own : List (Str × Nat)} {pos : Pos} {sl : List Nat} {fi : IF} {tgt : GF} {ff : Env → R Bool} {fe : PF} (hc : X.calm = true) (hN : X.N.Nodup) (hi : DI X us tg iter fi) (ok : BlkOk X.N X.env.scope scope own) (hsl : sl.all (fun j => (own.map (·.2)).contains j) = true)
    (hg : ∀ (s : Shared) (H : Hp) (C : Addr) (cl : List (Str × Addr)) (fp : List Addr), DG (X.blk s H scope (compEnvC scope cl C X.env) fp) tg sl tgt) (ht : ∀ (s : Shared) (H : Hp) (C : Addr) (cl : List (Str × Addr)) (fp : List Addr), DTs (X.blk s H scope (compEnvC scope cl C X.env) fp) us ifs ff)
    (he : ∀ (s : Shared) (H : Hp) (C : Addr) (cl : List (Str × Addr)) (fp : List Addr), DP (X.blk s H scope (compEnvC scope cl C X.env) fp) us elt fe) (hs : ∀ x, foldedSetIterable iter X.env x = pure x := by intro _; rfl) :
    DO X us (.ListComp elt [⟨tg, iter, ifs, 0⟩] scope pos) (cLc fi (own.map (·.2)) tgt ff fe) := by
  obtain ⟨w, h1, h2⟩ := hi.ex
  exact ⟨_, pe_lc hc hN h1 ok (fun s H C cl fp => (hg s H C cl fp).can) (fun s H C cl fp => (ht s H C cl fp).run) (fun s H C cl fp => (he s H C cl fp).can) hs, lc_sem h2 (sl_of hsl)⟩
end
end Dz

set_option maxRecDepth 100000
set_option maxHeartbeats 2000000
namespace Dz
open PySem PySem.Spec PyProof.Rows L2
/-! ## calls of built-ins, by values -/
def cCall (g : List D → R D) (fa : AF) : PF := fun env => (fa env).bind g
section
variable {X : Cx} {us : List Nat} {e : Expr} {es : List Expr} {fa : AF} {g : List D → R D} {r : List V → Hp → VK → Prop} {x : Str} {p pos : Pos} {id T : String}
theorem psem_call {K : PySem.W.Frag} {t : TA} (hv : OpN K r g) (ha : ASem K us t fa) : PSem K us (tCB r t) (cCall g fa) := fun σ H Z env d Q hz he hf hq => by
  obtain ⟨ds, h1, h2⟩ := R.of_bind hf
  refine ha σ H Z env ds _ hz he h1 fun vs Z1 H1 g1 r1 => ?_
  exact hv vs H1 Z1 ds d Q g1.zh r1 h2 fun v Z2 H2 g2 r2 => hq v Z2 H2 (g1.trans g2) r2
theorem dp_callB (hc : CallR X (.builtin id) r) (hv : OpN X.K r g) (hg : Gl X x) (hm : X.mg x = none) (hb : bootBuiltins x = some (.builtin id)) (ha : DA X us (e :: es) fa) (hn : x ≠ "__name__" := by decide) (hdb : (x == ("__debug__" : Str)) = false := by decide)
    (he : starEach (e :: es) X.env = (false, eval e X.env) :: starEach es X.env := by rfl) (hpl : (backTo pos (starEach es X.env)).any (·.1) = false := by rfl) : DP X us (.Call (.Name x p) (e :: es) [] pos) (cCall g fa) := by
  obtain ⟨t, h1, h2⟩ := ha.ex
  exact ⟨_, pe_callB hc hg hm hb h1 hn hdb he hpl, psem_call hv h2⟩
theorem dp_callTy (hc : CallR X (.type T) r) (hv : OpN X.K r g) (hg : Gl X x) (hm : X.mg x = none) (hb : bootBuiltins x = some (.type T)) (ha : DA X us (e :: es) fa) (hn : x ≠ "__name__" := by decide) (hdb : (x == ("__debug__" : Str)) = false := by decide)
    (he : starEach (e :: es) X.env = (false, eval e X.env) :: starEach es X.env := by rfl) (hpl : (backTo pos (starEach es X.env)).any (·.1) = false := by rfl) : DP X us (.Call (.Name x p) (e :: es) [] pos) (cCall g fa) := by
  obtain ⟨t, h1, h2⟩ := ha.ex
  exact ⟨_, pe_callTy hc hg hm hb h1 hn hdb he hpl, psem_call hv h2⟩
end
/-! ### what they tell -/
def gLen : List D → R D
  | [.list xs] => .ok (.int xs.length)
  | [.tuple xs] => .ok (.int xs.length)
  | [.str z] => R.when (decide (z.length ≤ sizeLine)) (.ok (.int z.length))
  | [.dict kvs] => .ok (.int kvs.length)
  | _ => .no
def asInt : D → Option Int
  | .int i => some i
  | _ => none
def asBl : D → Option Bool
  | .bool i => some i
  | _ => none
def intsOf : List D → Option (List Int)
  | [] => some []
  | .int i :: ds => (intsOf ds).map (i :: ·)
  | _ :: _ => none
def blsOf : List D → Option (List Bool)
  | [] => some []
  | .bool i :: ds => (blsOf ds).map (i :: ·)
  | _ :: _ => none
theorem intsOf_some : ∀ {ds : List D} {ns : List Int}, intsOf ds = some ns → ds = ns.map PyData.int
  | [], ns, h => by cases h; rfl
  | d :: ds, ns, h => by
    unfold intsOf at h
    split at h
    · rename_i he; cases he
    · rename_i he
      cases he
      cases q : intsOf ds with
      | none => rw [q] at h; cases h
      | some ms =>
        rw [q] at h
        cases h
        rw [intsOf_some q]; rfl
    · cases h
@[simp] theorem intsOf_map (ns : List Int) : intsOf (ns.map PyData.int) = some ns := by
  induction ns with
  | nil => rfl
  | cons n ns ih => simp [intsOf, ih]
theorem blsOf_some : ∀ {ds : List D} {ns : List Bool}, blsOf ds = some ns → ds = ns.map PyData.bool
  | [], ns, h => by cases h; rfl
  | d :: ds, ns, h => by
    unfold blsOf at h
    split at h
    · rename_i he; cases he
    · rename_i he
      cases he
      cases q : blsOf ds with
      | none => rw [q] at h; cases h
      | some ms =>
        rw [q] at h
        cases h
        rw [blsOf_some q]; rfl
    · cases h
@[simp] theorem blsOf_map (ns : List Bool) : blsOf (ns.map PyData.bool) = some ns := by
  induction ns with
  | nil => rfl
  | cons n ns ih => simp [blsOf, ih]
def gSum : List D → R D
  | [.list ds] => match intsOf ds with
    | some ns => .ok (.int ns.sum)
    | none => .no
  | _ => .no
def maxI : List Int → Int
  | [] => 0
  | [a] => a
  | a :: l => max a (maxI l)
def minI : List Int → Int
  | [] => 0
  | [a] => a
  | a :: l => min a (minI l)
theorem maxI_mem : ∀ {l : List Int}, l ≠ [] → maxI l ∈ l ∧ ∀ y ∈ l, y ≤ maxI l
  | [], h => absurd rfl h
  | [a], _ => by simp [maxI]
  | a :: b :: l, _ => by
    obtain ⟨h1, h2⟩ := maxI_mem (l := b :: l) (by simp)
    have e : maxI (a :: b :: l) = max a (maxI (b :: l)) := rfl
    rw [e]
    constructor
    · rcases Int.le_total a (maxI (b :: l)) with h | h
      · rw [Int.max_eq_right h]; exact List.mem_cons_of_mem _ h1
      · rw [Int.max_eq_left h]; exact List.mem_cons_self
    · intro y hy
      rcases List.mem_cons.mp hy with rfl | hy
      · exact Int.le_max_left _ _
      · exact Int.le_trans (h2 y hy) (Int.le_max_right _ _)
theorem minI_mem : ∀ {l : List Int}, l ≠ [] → minI l ∈ l ∧ ∀ y ∈ l, minI l ≤ y
  | [], h => absurd rfl h
  | [a], _ => by simp [minI]
  | a :: b :: l, _ => by
    obtain ⟨h1, h2⟩ := minI_mem (l := b :: l) (by simp)
    have e : minI (a :: b :: l) = min a (minI (b :: l)) := rfl
    rw [e]
    constructor
    · rcases Int.le_total a (minI (b :: l)) with h | h
      · rw [Int.min_eq_left h]; exact List.mem_cons_self
      · rw [Int.min_eq_right h]; exact List.mem_cons_of_mem _ h1
    · intro y hy
      rcases List.mem_cons.mp hy with rfl | hy
      · exact Int.min_le_left _ _
      · exact Int.le_trans (Int.min_le_right _ _) (h2 y hy)
def gMaxL : List D → R D
  | [.list ds] => match intsOf ds with
    | some ns => R.when (decide (ns ≠ [])) (.ok (.int (maxI ns)))
    | none => .no
  | _ => .no
def gMinL : List D → R D
  | [.list ds] => match intsOf ds with
    | some ns => R.when (decide (ns ≠ [])) (.ok (.int (minI ns)))
    | none => .no
  | _ => .no
def gMax2 : List D → R D
  | [.int i, .int j] => .ok (.int (max i j))
  | _ => .no
def gMin2 : List D → R D
  | [.int i, .int j] => .ok (.int (min i j))
  | _ => .no
def gAll : List D → R D
  | [.list ds] => match blsOf ds with
    | some ns => .ok (.bool (ns.all id))
    | none => .no
  | _ => .no
def gAny : List D → R D
  | [.list ds] => match blsOf ds with
    | some ns => .ok (.bool (ns.any id))
    | none => .no
  | _ => .no
def gAbs : List D → R D
  | [.int i] => .ok (.int (if i < 0 then -i else i))
  | _ => .no
def gInt1 : List D → R D
  | [.int i] => .ok (.int i)
  | [.bool b] => .ok (.int (if b = true then 1 else 0))
  | _ => .no
def gTuple1 : List D → R D
  | [.list ds] => .ok (.tuple ds)
  | [.tuple ds] => .ok (.tuple ds)
  | _ => .no
def gList1 : List D → R D
  | [.list ds] => .ok (.list ds)
  | [.tuple ds] => .ok (.list ds)
  | _ => .no
section
variable {K : PySem.W.Frag}
def rLenX (K : PySem.W.Frag) : List V → Hp → VK → Prop := fun xs H Q => (∃ x n, xs = [x] ∧ LenV K x H n ∧ Q (.int n) H) ∨ ((∃ a kvs, xs = [V.ref a] ∧ H a = some (.dK kvs) ∧ Q (.int kvs.length) H) ∨ rLenT xs H Q)
theorem call_lenX {X : Cx} : CallR X (.builtin "len") (rLenX X.K) := call_len.or (call_lenD.or call_len_dT)
theorem RepK.length {Z : Hp} : ∀ {kvs : List (Key × V)} {ds : List (D × D)}, RepK K Z kvs ds → kvs.length = ds.length
  | _, _, .nil => rfl
  | _, _, .cons _ t => congrArg Nat.succ (RepK.length t)
theorem RepT.length {Z : Hp} : ∀ {kvs : List (List Key × V)} {ds : List (D × D)}, RepT K Z kvs ds → kvs.length = ds.length
  | _, _, .nil => rfl
  | _, _, .cons _ t => congrArg Nat.succ (RepT.length t)
theorem v_sum : OpN K (rSum K) gSum := fun xs H Z as c Q hz r h hq => by
  unfold gSum at h
  split at h
  · split at h
    · rename_i ns he
      cases h
      have := intsOf_some he
      subst this
      cases r with
      | cons r t =>
        cases t
        cases r with
        | lst tt q =>
          obtain rfl := q.ints
          exact ⟨_, ns, rfl, .inl (.inl (hz _ _ tt)), hq _ _ _ (Gr.refl hz) (.int _)⟩
    · cases h
  · cases h
theorem v_maxL : OpN K (rMax K) gMaxL := fun xs H Z as c Q hz r h hq => by
  unfold gMaxL at h
  split at h
  · split at h
    · rename_i ns he
      obtain ⟨h1, h2⟩ := R.of_when h
      cases h2
      have := intsOf_some he
      subst this
      cases r with
      | cons r t =>
        cases t
        cases r with
        | lst tt q =>
          obtain rfl := q.ints
          have hne := of_decide_eq_true h1
          obtain ⟨m1, m2⟩ := maxI_mem hne
          refine ⟨_, ns, rfl, .inl (.inl (hz _ _ tt)), List.length_pos_iff.mpr hne, fun m h1 h2 => ?_⟩
          have : m = maxI ns := Int.le_antisymm (m2 m h1) (h2 _ m1)
          subst this
          exact hq _ _ _ (Gr.refl hz) (.int _)
    · cases h
  · cases h
theorem v_minL : OpN K (rMin K) gMinL := fun xs H Z as c Q hz r h hq => by
  unfold gMinL at h
  split at h
  · split at h
    · rename_i ns he
      obtain ⟨h1, h2⟩ := R.of_when h
      cases h2
      have := intsOf_some he
      subst this
      cases r with
      | cons r t =>
        cases t
        cases r with
        | lst tt q =>
          obtain rfl := q.ints
          have hne := of_decide_eq_true h1
          obtain ⟨m1, m2⟩ := minI_mem hne
          refine ⟨_, ns, rfl, .inl (.inl (hz _ _ tt)), List.length_pos_iff.mpr hne, fun m h1 h2 => ?_⟩
          have : m = minI ns := Int.le_antisymm (h2 _ m1) (m2 m h1)
          subst this
          exact hq _ _ _ (Gr.refl hz) (.int _)
    · cases h
  · cases h
theorem v_all : OpN K (rAll K) gAll := fun xs H Z as c Q hz r h hq => by
  unfold gAll at h
  split at h
  · split at h
    · rename_i ns he
      cases h
      have := blsOf_some he
      subst this
      cases r with
      | cons r t =>
        cases t
        cases r with
        | lst tt q =>
          obtain rfl := q.bls
          exact ⟨_, ns, rfl, .inl (.inl (hz _ _ tt)), hq _ _ _ (Gr.refl hz) (.bl _)⟩
    · cases h
  · cases h
theorem v_any : OpN K (rAny K) gAny := fun xs H Z as c Q hz r h hq => by
  unfold gAny at h
  split at h
  · split at h
    · rename_i ns he
      cases h
      have := blsOf_some he
      subst this
      cases r with
      | cons r t =>
        cases t
        cases r with
        | lst tt q =>
          obtain rfl := q.bls
          exact ⟨_, ns, rfl, .inl (.inl (hz _ _ tt)), hq _ _ _ (Gr.refl hz) (.bl _)⟩
    · cases h
  · cases h
theorem v_len : OpN K (rLenX K) gLen := fun xs H Z as c Q hz r h hq => by
  unfold gLen at h
  split at h
  · cases h
    cases r with
    | cons r t =>
      cases t
      cases r with
      | lst tt q => exact .inl ⟨_, _, rfl, .inl ⟨_, .inl (.inl (hz _ _ tt)), q.length.symm⟩, hq _ _ _ (Gr.refl hz) (.int _)⟩
  · cases h
    cases r with
    | cons r t =>
      cases t
      cases r with
      | tup tt q => exact .inl ⟨_, _, rfl, .inr ⟨_, same_seqT hz tt, q.length.symm⟩, hq _ _ _ (Gr.refl hz) (.int _)⟩
  · obtain ⟨h1, h2⟩ := R.of_when h
    cases h2
    cases r with
    | cons r t =>
      cases t
      cases r
      exact .inl ⟨_, _, rfl, ⟨of_decide_eq_true h1, rfl⟩, hq _ _ _ (Gr.refl hz) (.int _)⟩
  · rename_i kvs
    cases r with
    | cons r t =>
      cases t
      cases r with
      | dK tt q =>
        cases h
        rw [← q.length] at hq
        exact .inr (.inl ⟨_, _, rfl, hz _ _ tt, hq _ _ _ (Gr.refl hz) (.int _)⟩)
      | dT tt _ q =>
        cases h
        rw [← q.length] at hq
        exact .inr (.inr ⟨_, _, rfl, hz _ _ tt, hq _ _ _ (Gr.refl hz) (.int _)⟩)
  · cases h
theorem v_abs : OpN K (fun xs H Q => ∃ i, xs = [.int i] ∧ Q (.int (if i < 0 then -i else i)) H) gAbs := fun xs H Z as c Q hz r h hq => by
  unfold gAbs at h
  split at h
  · cases h
    cases r with
    | cons r t =>
      cases t
      cases r
      exact ⟨_, rfl, hq _ _ _ (Gr.refl hz) (.int _)⟩
  · cases h
theorem v_int1 : OpN K (fun xs H Q => (∃ i, xs = [.int i] ∧ Q (.int i) H) ∨ ∃ k, xs = [.bl k] ∧ Q (.int (if k then 1 else 0)) H) gInt1 := fun xs H Z as c Q hz r h hq => by
  unfold gInt1 at h
  split at h
  · cases h
    cases r with
    | cons r t =>
      cases t
      cases r
      exact .inl ⟨_, rfl, hq _ _ _ (Gr.refl hz) (.int _)⟩
  · cases h
    cases r with
    | cons r t =>
      cases t
      cases r
      exact .inr ⟨_, rfl, hq _ _ _ (Gr.refl hz) (.int _)⟩
  · cases h
theorem v_max2 : OpN K (fun xs H Q => ∃ i j, xs = [.int i, .int j] ∧ Q (.int (if j > i then j else i)) H) gMax2 := fun xs H Z as c Q hz r h hq => by
  unfold gMax2 at h
  split at h
  · rename_i i j
    cases h
    cases r with
    | cons r t =>
      cases t with
      | cons r' t =>
        cases t
        cases r
        cases r'
        have e : (if j > i then j else i) = max i j := by
          split <;> omega
        exact ⟨_, _, rfl, by rw [e]; exact hq _ _ _ (Gr.refl hz) (.int _)⟩
  · cases h
theorem v_min2 : OpN K (fun xs H Q => ∃ i j, xs = [.int i, .int j] ∧ Q (.int (if j < i then j else i)) H) gMin2 := fun xs H Z as c Q hz r h hq => by
  unfold gMin2 at h
  split at h
  · rename_i i j
    cases h
    cases r with
    | cons r t =>
      cases t with
      | cons r' t =>
        cases t
        cases r
        cases r'
        have e : (if j < i then j else i) = min i j := by
          split <;> omega
        exact ⟨_, _, rfl, by rw [e]; exact hq _ _ _ (Gr.refl hz) (.int _)⟩
  · cases h
theorem v_tuple1 : OpN K (fun xs H Q => ∃ p ys, xs = [.ref p] ∧ ((SqL K H p ys ∧ ∀ l, H l = none → Q (.ref l) (upd H l (.tup ys))) ∨ (SqT K H p ys ∧ Q (.ref p) H))) gTuple1 := fun xs H Z as c Q hz r h hq => by
  unfold gTuple1 at h
  split at h
  · cases h
    cases r with
    | cons r t =>
      cases t
      cases r with
      | lst tt q => exact ⟨_, _, rfl, .inl ⟨.inl (.inl (hz _ _ tt)), fun l nl => hq _ _ _ (Gr.new hz nl) (.tup (.inl upd_same) (q.mono (same_upd (hz.free nl))))⟩⟩
  · cases h
    cases r with
    | cons r t =>
      cases t
      cases r with
      | tup tt q => exact ⟨_, _, rfl, .inr ⟨same_seqT hz tt, hq _ _ _ (Gr.refl hz) (.tup tt q)⟩⟩
  · cases h
theorem v_list1 : OpN K (fun xs H Q => ∃ p ys, xs = [.ref p] ∧ (SqL K H p ys ∨ SqT K H p ys) ∧ ∀ l, H l = none → Q (.ref l) (upd H l (.lst ys))) gList1 := fun xs H Z as c Q hz r h hq => by
  unfold gList1 at h
  split at h
  · cases h
    cases r with
    | cons r t =>
      cases t
      cases r with
      | lst tt q => exact ⟨_, _, rfl, .inl (.inl (.inl (hz _ _ tt))), fun l nl => hq _ _ _ (Gr.new hz nl) (.lst upd_same (q.mono (same_upd (hz.free nl))))⟩
  · cases h
    cases r with
    | cons r t =>
      cases t
      cases r with
      | tup tt q => exact ⟨_, _, rfl, .inr (same_seqT hz tt), fun l nl => hq _ _ _ (Gr.new hz nl) (.lst upd_same (q.mono (same_upd (hz.free nl))))⟩
  · cases h
end
/-! ## pure defs -/
/-- a def that changes nothing that stands: F tells its value -/
def spP (K : PySem.W.Frag) (n : Nat) (F : List D → R D) : Sp := fun vs H Q _ => vs.length = n ∧ ∃ Z ds d, Same Z H ∧ Reps K Z vs ds ∧ F ds = .ok d ∧ ∀ v Z' H', Gr Z H Z' H' → Rep K Z' v d → Q v H'
section
variable {X : Cx} {us : List Nat} {e : Expr} {es : List Expr} {fa : AF} {x : Str} {p pos : Pos} {k n : Nat} {f : Addr} {fd : FuncData} {ps : List Str} {F : List D → R D}
def cFn (n : Nat) (F : List D → R D) (fa : AF) : PF := fun env => (fa env).bind fun ds => R.when (decide (ds.length = n)) (F ds)
theorem dp_call (G : FnG X.prog X.w X.K X.mg X.base CX0 k f fd ps (spP X.K n F)) (hr : RmG k X.A) (hg : Gl X x) (hm : X.mg x = some (.ref f)) (hk : PySem.W.keepIn X.K (.ref f) = true) (hb : Binds X.K fd ps []) (ha : DA X us (e :: es) fa)
    (hdb : (x == ("__debug__" : Str)) = false := by decide) (he : starEach (e :: es) X.env = (false, eval e X.env) :: starEach es X.env := by rfl) (hpl : (backTo pos (starEach es X.env)).any (·.1) = false := by rfl) :
    DP X us (.Call (.Name x p) (e :: es) [] pos) (cFn n F fa) := by
  obtain ⟨t, h1, h2⟩ := ha.ex
  refine ⟨_, pe_callG G hr hg hm hk hb .nil pass0 h1 hdb he hpl, fun σ H Z env d Q hz he hf hq => ?_⟩
  obtain ⟨ds, e1, e2⟩ := R.of_bind hf
  obtain ⟨e3, e4⟩ := R.of_when e2
  refine h2 σ H Z env ds _ hz he e1 fun vs Z1 H1 g1 r1 => ?_
  rw [List.append_nil]
  exact ⟨by rw [r1.length]; exact of_decide_eq_true e3, Z1, ds, d, g1.zh, r1, e4, fun v Z2 H2 g2 r2 => hq v Z2 H2 (g1.trans g2) r2⟩
end
/-! ## what a def owns -/
/-- how a slot's value is held: by the def alone (the addresses), or still -/
structure Mode where
  own : PySem.W.Frag → Hp → Hp → V → D → List Addr → Prop
  frame : ∀ {K Z H Z' H' v d fp}, own K Z H v d fp → Same Z Z' → (∀ a ∈ fp, ∀ o, H a = some o → H' a = some o) → own K Z' H' v d fp
  vis : ∀ {K Z H v d fp}, own K Z H v d fp → Same Z H → Rep K H v d
  live : ∀ {K Z H v d fp}, own K Z H v d fp → ∀ a ∈ fp, ∃ o, H a = some o ∧ ∀ xs, o ≠ .tup xs
  still : ∀ {K Z H v d fp}, own K Z H v d fp → ∀ Z', Same Z Z' → (∀ a ∈ fp, ∀ o, H a = some o → Z' a = some o) → Rep K Z' v d
/-- held still -/
def mF : Mode where
  own := fun K Z _ v d fp => fp = [] ∧ Rep K Z v d
  frame := fun h e _ => ⟨h.1, h.2.mono e⟩
  vis := fun h e => h.2.mono e
  live := fun h a ha => by rw [h.1] at ha; cases ha
  still := fun h Z' e _ => h.2.mono e
/-- a list of one's own, of still things -/
def mL : Mode where
  own := fun K Z H v d fp => ∃ p vs ds, v = .ref p ∧ d = .list ds ∧ fp = [p] ∧ H p = some (.lst vs) ∧ Reps K Z vs ds
  frame := fun ⟨p, vs, ds, e1, e2, e3, h, r⟩ e k => ⟨p, vs, ds, e1, e2, e3, k p (by rw [e3]; simp) _ h, r.mono e⟩
  vis := fun ⟨p, vs, ds, e1, e2, e3, h, r⟩ e => by subst e1 e2; exact .lst h (r.mono e)
  live := fun ⟨p, vs, ds, e1, e2, e3, h, r⟩ a ha => by
    rw [e3] at ha
    obtain rfl : a = p := by simpa using ha
    exact ⟨_, h, fun _ z => by cases z⟩
  still := fun ⟨p, vs, ds, e1, e2, e3, h, r⟩ Z' e k => by subst e1 e2; exact .lst (k p (by rw [e3]; simp) _ h) (r.mono e)
/-- what a def's walk carries: which slots it owns and how, which slots must stay (parameters whose things are changed), how its value is held, the wish about errors -/
structure Cf where
  ms : List (Nat × Mode)
  pins : List (Nat × V)
  rm : Mode
  W : WX
  xi : Str → D → Value → Option Addr → Hp → Hp → Prop
abbrev Cf.us (C : Cf) : List Nat := C.ms.map (·.1)
structure EnvOk (K : PySem.W.Frag) (C : Cf) (Z0 B Z H : Hp) (σ : L2.St) (env : Env) (fps : Nat → List Addr) : Prop where
  gr : Gr Z0 B Z H
  len : σ.length = env.length
  frz : ∀ i d, C.us.contains i = false → env[i]? = some (some d) → ∃ v, σ[i]? = some (some v) ∧ Rep K Z v d
  own : ∀ i m, C.ms.lookup i = some m → ∀ d, env[i]? = some (some d) → ∃ v, σ[i]? = some (some v) ∧ m.own K Z H v d (fps i)
  fp : ∀ i a, a ∈ fps i → B a = none ∧ Z a = none ∧ ∃ o, H a = some o ∧ ∀ xs, o ≠ .tup xs
  dj : ∀ i j a, a ∈ fps i → a ∈ fps j → i = j
  pin : ∀ i v, C.pins.lookup i = some v → σ[i]? = some (some v)
theorem lookup_none_of {α : Type} {l : List (Nat × α)} {i : Nat} (h : (l.map (·.1)).contains i = false) : l.lookup i = none := by
  induction l with
  | nil => rfl
  | cons p l ih =>
    obtain ⟨k, a⟩ := p
    simp only [List.map_cons, List.contains_cons, Bool.or_eq_false_iff] at h
    rw [List.lookup_cons, h.1]
    exact ih h.2
theorem contains_of_lookup {α : Type} {l : List (Nat × α)} {i : Nat} {a : α} (h : l.lookup i = some a) : (l.map (·.1)).contains i = true := by
  cases q : (l.map (·.1)).contains i with
  | true => rfl
  | false => rw [lookup_none_of q] at h; cases h
theorem lookup_of_contains {α : Type} {l : List (Nat × α)} {i : Nat} (h : (l.map (·.1)).contains i = true) : ∃ a, l.lookup i = some a := by
  induction l with
  | nil => simp at h
  | cons p l ih =>
    obtain ⟨k, a⟩ := p
    rw [List.lookup_cons]
    cases q : i == k with
    | true => exact ⟨a, rfl⟩
    | false =>
      simp only [List.map_cons, List.contains_cons, q, Bool.false_or] at h
      exact ih h
section
variable {K : PySem.W.Frag} {C : Cf} {Z0 B Z H Z' H' : Hp} {σ σ' : L2.St} {env env' : Env} {fps : Nat → List Addr}
theorem EnvOk.zh (I : EnvOk K C Z0 B Z H σ env fps) : Same Z H := I.gr.zh
theorem EnvOk.seenAt (I : EnvOk K C Z0 B Z H σ env fps) : ∀ (i : Nat) d, env[i]? = some (some d) → ∃ v, σ[i]? = some (some v) ∧ Rep K H v d := fun i d he => by
  cases q : C.us.contains i with
  | false =>
    obtain ⟨v, h1, h2⟩ := I.frz i d q he
    exact ⟨v, h1, h2.mono I.zh⟩
  | true =>
    obtain ⟨m, hm⟩ := lookup_of_contains q
    obtain ⟨v, h1, h2⟩ := I.own i m hm d he
    exact ⟨v, h1, m.vis h2 I.zh⟩
theorem EnvOk.fz (I : EnvOk K C Z0 B Z H σ env fps) : EnvU K C.us Z H σ env := ⟨I.len, I.frz, I.seenAt⟩
theorem EnvOk.vis (I : EnvOk K C Z0 B Z H σ env fps) : EnvU K [] H H σ env := I.fz.all
/-- behind a pure step -/
theorem EnvOk.grow (I : EnvOk K C Z0 B Z H σ env fps) (g : Gr Z H Z' H') : EnvOk K C Z0 B Z' H' σ env fps where
  gr := I.gr.trans g
  len := I.len
  frz := fun i d h1 h2 => by
    obtain ⟨v, a, b⟩ := I.frz i d h1 h2
    exact ⟨v, a, b.mono g.zz⟩
  own := fun i m hm d he => by
    obtain ⟨v, a, b⟩ := I.own i m hm d he
    exact ⟨v, a, m.frame b g.zz fun x _ o e => g.hh x o e⟩
  fp := fun i a ha => by
    obtain ⟨h1, h2, o, h3, h4⟩ := I.fp i a ha
    exact ⟨h1, g.out h2 h3 h4, o, g.hh _ _ h3, h4⟩
  dj := I.dj
  pin := I.pin
/-- a step over all that is seen: still things alone come to Z by themselves (tuples), so Z may stay -/
theorem Gr.drop (h : Same Z H) (g : Gr H H Z' H') : Gr Z H Z H' := ⟨Same.refl _, h.trans g.hh, g.hh, fun _ _ e => .inl e⟩
theorem EnvOk.seen (I : EnvOk K C Z0 B Z H σ env fps) (g : Gr H H Z' H') : EnvOk K C Z0 B Z H' σ env fps := I.grow (Gr.drop I.zh g)
/-- a slot takes a still thing -/
theorem EnvOk.setF {i : Nat} {v : V} {d : D} (I : EnvOk K C Z0 B Z H σ env fps) (hi : C.us.contains i = false) (hp : C.pins.lookup i = none) (r : Rep K Z v d) : EnvOk K C Z0 B Z H (σ.set i (some v)) (env.set i (some d)) fps where
  gr := I.gr
  len := by rw [List.length_set, List.length_set, I.len]
  frz := fun j d' h1 h2 => by
    by_cases e : i = j
    · subst e
      have hlt : i < env.length := by
        rcases Nat.lt_or_ge i env.length with h | h
        · exact h
        · rw [List.getElem?_eq_none (by simpa using h)] at h2; cases h2
      rw [List.getElem?_set_self hlt] at h2
      cases h2
      exact ⟨v, by rw [List.getElem?_set_self (by rw [I.len]; exact hlt)], r⟩
    · rw [List.getElem?_set_ne e] at h2 ⊢
      exact I.frz j d' h1 h2
  own := fun j m hm d' h2 => by
    have e : i ≠ j := fun e => by
      subst e
      rw [contains_of_lookup hm] at hi; cases hi
    rw [List.getElem?_set_ne e] at h2 ⊢
    exact I.own j m hm d' h2
  fp := I.fp
  dj := I.dj
  pin := fun j w hw => by
    have e : i ≠ j := fun e => by subst e; rw [hp] at hw; cases hw
    rw [List.getElem?_set_ne e]
    exact I.pin j w hw
def setFp (fps : Nat → List Addr) (i : Nat) (fp : List Addr) : Nat → List Addr := fun j => if j = i then fp else fps j
/-- a slot of one's own takes a thing of one's own -/
theorem EnvOk.setO {i : Nat} {m : Mode} {v : V} {d : D} {fp : List Addr} (I : EnvOk K C Z0 B Z H σ env fps) (hm : C.ms.lookup i = some m) (hp : C.pins.lookup i = none) (r : m.own K Z H v d fp) (hf : ∀ a ∈ fp, B a = none ∧ Z a = none) (hd : ∀ j a, j ≠ i → a ∈ fp → a ∉ fps j) :
    EnvOk K C Z0 B Z H (σ.set i (some v)) (env.set i (some d)) (setFp fps i fp) where
  gr := I.gr
  len := by rw [List.length_set, List.length_set, I.len]
  frz := fun j d' h1 h2 => by
    have e : i ≠ j := fun e => by
      subst e
      rw [contains_of_lookup hm] at h1; cases h1
    rw [List.getElem?_set_ne e] at h2 ⊢
    exact I.frz j d' h1 h2
  own := fun j m' hm' d' h2 => by
    by_cases e : i = j
    · subst e
      rw [hm] at hm'; cases hm'
      have hlt : i < env.length := by
        rcases Nat.lt_or_ge i env.length with h | h
        · exact h
        · rw [List.getElem?_eq_none (by simpa using h)] at h2; cases h2
      rw [List.getElem?_set_self hlt] at h2
      cases h2
      refine ⟨v, by rw [List.getElem?_set_self (by rw [I.len]; exact hlt)], ?_⟩
      unfold setFp
      rw [if_pos rfl]
      exact r
    · rw [List.getElem?_set_ne e] at h2 ⊢
      obtain ⟨w, a, b⟩ := I.own j m' hm' d' h2
      refine ⟨w, a, ?_⟩
      unfold setFp
      rw [if_neg (Ne.symm e)]
      exact b
  fp := fun j a ha => by
    unfold setFp at ha
    split at ha
    · obtain ⟨h1, h2⟩ := hf a ha
      exact ⟨h1, h2, m.live r a ha⟩
    · exact I.fp j a ha
  dj := fun j j' a h1 h2 => by
    unfold setFp at h1 h2
    split at h1
    · rename_i e1
      split at h2
      · rename_i e2; rw [e1, e2]
      · rename_i e2; exact absurd h2 (hd j' a e2 h1)
    · rename_i e1
      split at h2
      · exact absurd h1 (hd j a e1 h2)
      · exact I.dj j j' a h1 h2
  pin := fun j w hw => by
    have e : i ≠ j := fun e => by subst e; rw [hp] at hw; cases hw
    rw [List.getElem?_set_ne e]
    exact I.pin j w hw
/-- the thing at p, the slot's own, is changed -/
theorem EnvOk.mut {i : Nat} {m : Mode} {d' : D} {v : V} {p : Addr} {o' : HO} {fp' : List Addr} (I : EnvOk K C Z0 B Z H σ env fps) (hm : C.ms.lookup i = some m) (hv : σ[i]? = some (some v)) (hpf : p ∈ fps i) (r : m.own K Z (upd H p o') v d' fp') (hfp : ∀ a, a ∈ fp' → a ∈ fps i) :
    EnvOk K C Z0 B Z (upd H p o') σ (env.set i (some d')) (setFp fps i fp') where
  gr := by
    obtain ⟨h1, h2, _⟩ := I.fp i p hpf
    exact ⟨I.gr.zz, same_upd2 I.gr.zh h2, fun b x e => by rw [upd_ne (ne_of_none e h1)]; exact I.gr.hh b x e, I.gr.fr⟩
  len := by rw [List.length_set, I.len]
  frz := fun j d1 h1 h2 => by
    have e : i ≠ j := fun e => by
      subst e
      rw [contains_of_lookup hm] at h1; cases h1
    rw [List.getElem?_set_ne e] at h2
    exact I.frz j d1 h1 h2
  own := fun j m' hm' d1 h2 => by
    by_cases e : i = j
    · subst e
      rw [hm] at hm'; cases hm'
      have hlt : i < env.length := by
        rcases Nat.lt_or_ge i env.length with h | h
        · exact h
        · rw [List.getElem?_eq_none (by simpa using h)] at h2; cases h2
      rw [List.getElem?_set_self hlt] at h2
      cases h2
      refine ⟨v, hv, ?_⟩
      unfold setFp
      rw [if_pos rfl]
      exact r
    · rw [List.getElem?_set_ne e] at h2
      obtain ⟨w, a, b⟩ := I.own j m' hm' d1 h2
      refine ⟨w, a, ?_⟩
      unfold setFp
      rw [if_neg (Ne.symm e)]
      refine m'.frame b (Same.refl _) fun x hx o ho => ?_
      have hne : x ≠ p := fun z => by
        subst z
        exact e (I.dj i j x hpf hx)
      rw [upd_ne hne]; exact ho
  fp := fun j a ha => by
    have base : ∀ j, a ∈ fps j → B a = none ∧ Z a = none := fun j h => let ⟨h1, h2, _⟩ := I.fp j a h; ⟨h1, h2⟩
    unfold setFp at ha
    split at ha
    · obtain ⟨h1, h2⟩ := base i (hfp a ha)
      exact ⟨h1, h2, m.live r a ha⟩
    · rename_i e
      obtain ⟨h1, h2, o, h3, h4⟩ := I.fp j a ha
      have hne : a ≠ p := fun z => by
        subst z
        exact e (I.dj j i a ha hpf)
      exact ⟨h1, h2, o, by rw [upd_ne hne]; exact h3, h4⟩
  dj := fun j j' a h1 h2 => by
    unfold setFp at h1 h2
    split at h1
    · rename_i e1
      split at h2
      · rename_i e2; rw [e1, e2]
      · rw [e1]; exact I.dj i j' a (hfp a h1) h2
    · split at h2
      · rename_i e2; rw [e2]; exact I.dj j i a h1 (hfp a h2)
      · exact I.dj j j' a h1 h2
  pin := I.pin
end
end Dz

set_option maxRecDepth 100000
set_option maxHeartbeats 2000000
namespace Dz
open PySem PySem.Spec PyProof.Rows L2
/-! ## statements -/
inductive Flo where
  | nx
  | rt (d : D)
  | bk
  | ct
abbrev SF := Env → R (Flo × Env)
/-- what is to be shown behind a statement that tells r -/
def Post (K : PySem.W.Frag) (C : Cf) (Z0 B : Hp) (E : Ends) : R (Flo × Env) → Prop
  | .ok (.nx, env) => ∀ σ Z H fps, EnvOk K C Z0 B Z H σ env fps → E.nx σ H
  | .ok (.bk, env) => ∀ σ Z H fps, EnvOk K C Z0 B Z H σ env fps → E.bk σ H
  | .ok (.ct, env) => ∀ σ Z H fps, EnvOk K C Z0 B Z H σ env fps → E.ct σ H
  | .ok (.rt d, env) => ∀ v σ Z H fps fp, EnvOk K C Z0 B Z H σ env fps → C.rm.own K Z H v d fp → (∀ a ∈ fp, B a = none ∧ Z a = none) → (∀ j a, a ∈ fp → a ∉ fps j) → E.rt v H
  | .err c p => ∀ cls dx σ Z H, C.xi c p cls dx Z H → Gr Z0 B Z H → C.W cls dx σ H
  | .no => False
def SSem (K : PySem.W.Frag) (C : Cf) (t : TS) (g : SF) : Prop :=
  ∀ (σ : L2.St) (Z0 B Z H : Hp) (env : Env) (fps : Nat → List Addr) (E : Ends), EnvOk K C Z0 B Z H σ env fps → Post K C Z0 B E (g env) → t E σ H
structure DS (X : Cx) (C : Cf) (st : Stmt) (g : SF) : Prop where
  ex : ∃ t, PS X st t ∧ SSem X.K C t g
structure DSs (X : Cx) (C : Cf) (st : List Stmt) (g : SF) : Prop where
  ex : ∃ t, PSs X st t ∧ SSem X.K C t g
def sNil : SF := fun env => .ok (.nx, env)
def sSeq (g1 g2 : SF) : SF := fun env => (g1 env).bind fun r => match r with
  | (.nx, env') => g2 env'
  | r => .ok r
/-- a pure value is asked for -/
theorem post_bindP {K : PySem.W.Frag} {C : Cf} {Z0 B : Hp} {E : Ends} {a : Type} {r : R a} {k : a → R (Flo × Env)} (h : Post K C Z0 B E (r.bindP k)) : ∃ x, r = .ok x ∧ Post K C Z0 B E (k x) := by
  cases r with
  | ok x => exact ⟨x, rfl, h⟩
  | err c p => exact h.elim
  | no => exact h.elim
theorem post_when {K : PySem.W.Frag} {C : Cf} {Z0 B : Hp} {E : Ends} {c : Bool} {r : R (Flo × Env)} (h : Post K C Z0 B E (R.when c r)) : c = true ∧ Post K C Z0 B E r := by
  cases c with
  | true => exact ⟨rfl, h⟩
  | false => exact h.elim
section
variable {X : Cx} {C : Cf} {st : Stmt} {rest : List Stmt} {g g' : SF} {pos : Pos}
theorem dss_nil : DSs X C [] sNil := ⟨_, pss_nil, fun σ Z0 B Z H env fps E I h => h σ Z H fps I⟩
theorem ssem_seq {K : PySem.W.Frag} {t u : TS} (h1 : SSem K C t g) (h2 : SSem K C u g') : SSem K C (tSeq t u) (sSeq g g') := fun σ Z0 B Z H env fps E I h => by
  refine h1 σ Z0 B Z H env fps _ I ?_
  unfold sSeq at h
  cases e : g env with
  | ok r =>
    obtain ⟨fl, env'⟩ := r
    rw [e, R.bind_ok] at h
    cases fl with
    | nx => exact fun σ1 Z1 H1 fps1 I1 => h2 σ1 Z0 B Z1 H1 env' fps1 E I1 h
    | rt d => exact h
    | bk => exact h
    | ct => exact h
  | err c p => rw [e] at h; exact h
  | no => rw [e] at h; exact h
theorem dss_cons (h1 : DS X C st g) (h2 : DSs X C rest g') : DSs X C (st :: rest) (sSeq g g') := by
  obtain ⟨t, a, b⟩ := h1.ex
  obtain ⟨u, c, d⟩ := h2.ex
  exact ⟨_, pss_cons a c, ssem_seq b d⟩
theorem dss_one (h1 : DS X C st g) : DSs X C [st] g := by
  obtain ⟨t, a, b⟩ := h1.ex
  exact ⟨_, pss_one a, b⟩
def sPass : SF := fun env => .ok (.nx, env)
def sBreak : SF := fun env => .ok (.bk, env)
def sCont : SF := fun env => .ok (.ct, env)
def sNever : SF := fun _ => .no
theorem ds_pass : DS X C (.Pass pos) sPass := ⟨_, ps_pass, fun σ Z0 B Z H env fps E I h => h σ Z H fps I⟩
theorem ds_break : DS X C (.Break pos) sBreak := ⟨_, ps_break, fun σ Z0 B Z H env fps E I h => h σ Z H fps I⟩
theorem ds_continue : DS X C (.Continue pos) sCont := ⟨_, ps_continue, fun σ Z0 B Z H env fps E I h => h σ Z H fps I⟩
theorem ds_doc {x j pos pos'} : DS X C (.Expr (.Constant (.str x) j pos) pos') sPass := ⟨_, ps_doc, fun σ Z0 B Z H env fps E I h => h σ Z H fps I⟩
theorem ds_never : DS X C st sNever := ⟨_, ps_never, fun σ Z0 B Z H env fps E I h => h.elim⟩
variable {e : Expr} {f : PF} {fo : Env → R (List D)} {i : Nat} {x : Str} {p' : Pos}
/-! ### x = e -/
def sSet (i : Nat) (f : PF) : SF := fun env => (f env).bindP fun d => .ok (.nx, env.set i (some d))
theorem ssem_set {K : PySem.W.Frag} {te : TE} (hs : PSem K C.us te f) (hu : C.us.contains i = false) (hp : C.pins.lookup i = none) : SSem K C (tAsg te (gName i)) (sSet i f) := fun σ Z0 B Z H env fps E I h => by
  obtain ⟨d, e, h⟩ := post_bindP h
  refine hs σ H Z env d _ I.zh I.fz e fun v Z1 H1 g1 r1 => ?_
  exact h _ Z1 H1 fps ((I.grow g1).setF hu hp r1)
theorem ds_set (hN : X.N.Nodup) (hi : X.N[i]? = some x) (hx : Loc X.env.scope x) (h : DP X C.us e f) (hu : C.us.contains i = false := by rfl) (hp : C.pins.lookup i = none := by rfl) (hs : swapsWith e (some (.Name x p')) pos.line X.env = pure false := by rfl)
    (hf : X.fn x = true ∨ X.env.scope.names.lookup x = some .local := by first | exact .inl rfl | exact .inr rfl | assumption) : DS X C (.Assign [.Name x p'] e pos) (sSet i f) := by
  obtain ⟨t, a, b⟩ := h.ex
  exact ⟨_, ps_set hN hi hx a hs hf, ssem_set b hu hp⟩
/-- a list of one's own -/
def sSetL (i : Nat) (f : Env → R (List D)) : SF := fun env => (f env).bindP fun ds => .ok (.nx, env.set i (some (.list ds)))
theorem ssem_setL {K : PySem.W.Frag} {te : TE} (hs : OSem K C.us te fo) (hu : C.ms.lookup i = some mL) (hp : C.pins.lookup i = none) : SSem K C (tAsg te (gName i)) (sSetL i fo) := fun σ Z0 B Z H env fps E I h => by
  obtain ⟨ds, e, h⟩ := post_bindP h
  refine hs σ H Z env ds _ I.zh I.fz e fun p vs Z1 H1 g1 np nz hp1 r1 => ?_
  have I1 := I.grow g1
  refine h _ Z1 H1 _ (I1.setO (fp := [p]) hu hp ⟨p, vs, ds, rfl, rfl, rfl, hp1, r1⟩ (fun a ha => ?_) fun j a hj ha hm => ?_)
  · obtain rfl : a = p := by simpa using ha
    exact ⟨I.gr.hh.free np, nz⟩
  · obtain rfl : a = p := by simpa using ha
    obtain ⟨_, _, o, ho, _⟩ := I.fp j a hm
    rw [np] at ho; cases ho
theorem ds_setL (hN : X.N.Nodup) (hi : X.N[i]? = some x) (hx : Loc X.env.scope x) (h : DO X C.us e fo) (hu : C.ms.lookup i = some mL := by rfl) (hp : C.pins.lookup i = none := by rfl) (hs : swapsWith e (some (.Name x p')) pos.line X.env = pure false := by rfl)
    (hf : X.fn x = true ∨ X.env.scope.names.lookup x = some .local := by first | exact .inl rfl | exact .inr rfl | assumption) : DS X C (.Assign [.Name x p'] e pos) (sSetL i fo) := by
  obtain ⟨t, a, b⟩ := h.ex
  exact ⟨_, ps_set hN hi hx a hs hf, ssem_setL b hu hp⟩
/-- x = [..] by a comprehension, x a plain local -/
theorem ps_lcName {y : Str} {py : Pos} {elt tg iter : Expr} {ifs : List Expr} {scope : Scope} {own : List (Str × Nat)} {pos spos : Pos} {sl : List Nat} {fi : IF} {tgt : GF} {ff : Env → R Bool} {fe : PF} {us : List Nat} (hc : X.calm = true) (hN : X.N.Nodup) (hy : X.N[i]? = some y) (hyl : X.env.scope.names.lookup y = some .local)
    (hsw : swapsWith (.ListComp elt [⟨tg, iter, ifs, 0⟩] scope pos) (some (.Name y py)) spos.line X.env = pure true) (hi : DI X us tg iter fi) (ok : BlkOk X.N X.env.scope scope own) (hsl : sl.all (fun j => (own.map (·.2)).contains j) = true)
    (hg : ∀ (s : Shared) (H : Hp) (C : Addr) (cl : List (Str × Addr)) (fp : List Addr), DG (X.blk s H scope (compEnvC scope cl C X.env) fp) tg sl tgt) (ht : ∀ (s : Shared) (H : Hp) (C : Addr) (cl : List (Str × Addr)) (fp : List Addr), DTs (X.blk s H scope (compEnvC scope cl C X.env) fp) us ifs ff)
    (he : ∀ (s : Shared) (H : Hp) (C : Addr) (cl : List (Str × Addr)) (fp : List Addr), DP (X.blk s H scope (compEnvC scope cl C X.env) fp) us elt fe) (hs : ∀ x, foldedSetIterable iter X.env x = pure x) :
    ∃ te, PS X (.Assign [.Name y py] (.ListComp elt [⟨tg, iter, ifs, 0⟩] scope pos) spos) (tAsg te (gName i)) ∧ OSem X.K us te (cLc fi (own.map (·.2)) tgt ff fe) := by
  obtain ⟨w, h1, h2⟩ := hi.ex
  exact ⟨_, ps_setLc hc hN hy hyl hsw h1 ok (fun s H C cl fp => (hg s H C cl fp).can) (fun s H C cl fp => (ht s H C cl fp).run) (fun s H C cl fp => (he s H C cl fp).can) hs, lc_sem h2 (sl_of hsl)⟩
theorem OSem.p {K : PySem.W.Frag} {us : List Nat} {t : TE} (hs : OSem K us t fo) : PSem K us t (cList fo) := fun σ H Z env d Q hz he2 hf hq => by
  obtain ⟨ds, h1, h2⟩ := R.of_bind hf
  cases h2
  refine hs σ H Z env ds Q hz he2 h1 fun p vs Z' H' g n nz hp r => ?_
  exact hq _ _ _ (g.keep n hp) (.lst upd_same (r.mono (same_upd nz)))
theorem ds_lcL {y : Str} {py : Pos} {elt tg iter : Expr} {ifs : List Expr} {scope : Scope} {own : List (Str × Nat)} {pos spos : Pos} {sl : List Nat} {fi : IF} {tgt : GF} {ff : Env → R Bool} {fe : PF} (hc : X.calm = true) (hN : X.N.Nodup) (hy : X.N[i]? = some y) (hyl : X.env.scope.names.lookup y = some .local)
    (hsw : swapsWith (.ListComp elt [⟨tg, iter, ifs, 0⟩] scope pos) (some (.Name y py)) spos.line X.env = pure true) (hi : DI X C.us tg iter fi) (ok : BlkOk X.N X.env.scope scope own) (hsl : sl.all (fun j => (own.map (·.2)).contains j) = true)
    (hg : ∀ (s : Shared) (H : Hp) (A : Addr) (cl : List (Str × Addr)) (fp : List Addr), DG (X.blk s H scope (compEnvC scope cl A X.env) fp) tg sl tgt) (ht : ∀ (s : Shared) (H : Hp) (A : Addr) (cl : List (Str × Addr)) (fp : List Addr), DTs (X.blk s H scope (compEnvC scope cl A X.env) fp) C.us ifs ff)
    (he : ∀ (s : Shared) (H : Hp) (A : Addr) (cl : List (Str × Addr)) (fp : List Addr), DP (X.blk s H scope (compEnvC scope cl A X.env) fp) C.us elt fe) (hu : C.ms.lookup i = some mL := by rfl) (hp : C.pins.lookup i = none := by rfl) (hs : ∀ x, foldedSetIterable iter X.env x = pure x := by intro _; rfl) :
    DS X C (.Assign [.Name y py] (.ListComp elt [⟨tg, iter, ifs, 0⟩] scope pos) spos) (sSetL i (cLc fi (own.map (·.2)) tgt ff fe)) := by
  obtain ⟨te, h1, h2⟩ := ps_lcName hc hN hy hyl hsw hi ok hsl hg ht he hs
  exact ⟨_, h1, ssem_setL h2 hu hp⟩
theorem ds_lcF {y : Str} {py : Pos} {elt tg iter : Expr} {ifs : List Expr} {scope : Scope} {own : List (Str × Nat)} {pos spos : Pos} {sl : List Nat} {fi : IF} {tgt : GF} {ff : Env → R Bool} {fe : PF} (hc : X.calm = true) (hN : X.N.Nodup) (hy : X.N[i]? = some y) (hyl : X.env.scope.names.lookup y = some .local)
    (hsw : swapsWith (.ListComp elt [⟨tg, iter, ifs, 0⟩] scope pos) (some (.Name y py)) spos.line X.env = pure true) (hi : DI X C.us tg iter fi) (ok : BlkOk X.N X.env.scope scope own) (hsl : sl.all (fun j => (own.map (·.2)).contains j) = true)
    (hg : ∀ (s : Shared) (H : Hp) (A : Addr) (cl : List (Str × Addr)) (fp : List Addr), DG (X.blk s H scope (compEnvC scope cl A X.env) fp) tg sl tgt) (ht : ∀ (s : Shared) (H : Hp) (A : Addr) (cl : List (Str × Addr)) (fp : List Addr), DTs (X.blk s H scope (compEnvC scope cl A X.env) fp) C.us ifs ff)
    (he : ∀ (s : Shared) (H : Hp) (A : Addr) (cl : List (Str × Addr)) (fp : List Addr), DP (X.blk s H scope (compEnvC scope cl A X.env) fp) C.us elt fe) (hu : C.us.contains i = false := by rfl) (hp : C.pins.lookup i = none := by rfl) (hs : ∀ x, foldedSetIterable iter X.env x = pure x := by intro _; rfl) :
    DS X C (.Assign [.Name y py] (.ListComp elt [⟨tg, iter, ifs, 0⟩] scope pos) spos) (sSet i (cList (cLc fi (own.map (·.2)) tgt ff fe))) := by
  obtain ⟨te, h1, h2⟩ := ps_lcName hc hN hy hyl hsw hi ok hsl hg ht he hs
  exact ⟨_, h1, ssem_set h2.p hu hp⟩
/-! ### a target -/
def sTgt (g : GF) (f : PF) : SF := fun env => (f env).bindP fun d => (g d env).bindP fun env' => .ok (.nx, env')
/-- behind a store of still things -/
theorem EnvOk.setG {K : PySem.W.Frag} {Z0 B Z H : Hp} {σ σ' : L2.St} {env env' : Env} {fps : Nat → List Addr} {sl : List Nat} (I : EnvOk K C Z0 B Z H σ env fps) (hsl : sl.all (fun j => !(C.us.contains j) && (C.pins.lookup j).isNone) = true)
    (l1 : σ'.length = σ.length) (l2 : env'.length = env.length) (off : ∀ j, sl.contains j = false → σ'[j]? = σ[j]? ∧ env'[j]? = env[j]?)
    (on : ∀ (j : Nat) d', sl.contains j = true → env'[j]? = some (some d') → ∃ v', σ'[j]? = some (some v') ∧ Rep K Z v' d') : EnvOk K C Z0 B Z H σ' env' fps where
  gr := I.gr
  len := by rw [l1, l2, I.len]
  frz := fun j d h1 h2 => by
    cases hc : sl.contains j with
    | true => exact on j d hc h2
    | false =>
      rw [(off j hc).2] at h2
      rw [(off j hc).1]
      exact I.frz j d h1 h2
  own := fun j m hm d h2 => by
    have hc : sl.contains j = false := by
      cases hc : sl.contains j with
      | false => rfl
      | true =>
        have := List.all_eq_true.mp hsl j (by simpa using hc)
        rw [contains_of_lookup hm] at this
        simp at this
    rw [(off j hc).2] at h2
    rw [(off j hc).1]
    exact I.own j m hm d h2
  fp := I.fp
  dj := I.dj
  pin := fun j v hv => by
    have hc : sl.contains j = false := by
      cases hc : sl.contains j with
      | false => rfl
      | true =>
        have := List.all_eq_true.mp hsl j (by simpa using hc)
        rw [hv] at this
        simp at this
    rw [(off j hc).1]
    exact I.pin j v hv
theorem ds_tgt {tg : Expr} {sl : List Nat} {gt : GF} (h : DP X C.us e f) (hg : DG X tg sl gt) (hsl : sl.all (fun j => !(C.us.contains j) && (C.pins.lookup j).isNone) = true := by rfl) (hs : swapsWithSole [tg] e pos.line X.env = pure false := by rfl) (hw : swappedStores [tg] e X.env = pure none := by rfl)
    (h1 : (assignEach [tg] X.env).map (·.2) = [assign tg X.env] := by rfl) : DS X C (.Assign [tg] e pos) (sTgt gt f) := by
  obtain ⟨t, a, b⟩ := h.ex
  obtain ⟨u, c, d⟩ := hg.ex
  refine ⟨_, ps_asg a c hs hw h1, fun σ Z0 B Z H env fps E I h => ?_⟩
  obtain ⟨x, e1, h⟩ := post_bindP h
  obtain ⟨env', e2, h⟩ := post_bindP h
  refine b σ H Z env x _ I.zh I.fz e1 fun v Z1 H1 g1 r1 => ?_
  have I1 := I.grow g1
  exact d v x σ H1 Z1 env env' _ I1.zh r1 I1.len e2 fun σ' l1 l2 off on => h σ' Z1 H1 fps (I1.setG hsl l1 l2 off on)
/-- a, b = e1, e2 with plain local names: stored from the right -/
def sPar (i j : Nat) (f g : PF) : SF := fun env => (f env).bindP fun d => (g env).bindP fun d' => .ok (.nx, (env.set i (some d)).set j (some d'))
theorem ds_par {i j : Nat} {x y : Str} {a b : Expr} {fa fb : PF} {px py pt : Pos} {kt k2 pt2} (hc : X.calm = true) (hN : X.N.Nodup) (hi : X.N[i]? = some x) (hj : X.N[j]? = some y) (hij : i ≠ j)
    (hx : X.env.scope.names.lookup x = some .local) (hy : X.env.scope.names.lookup y = some .local) (ha : DP X C.us a fa) (hb : DP X C.us b fb)
    (hw : swappedStores [.Tuple [.Name x px, .Name y py] kt pt] (.Tuple [a, b] k2 pt2) X.env = pure (some [x, y]))
    (hu : C.us.contains i = false := by rfl) (hp : C.pins.lookup i = none := by rfl) (hu2 : C.us.contains j = false := by rfl) (hp2 : C.pins.lookup j = none := by rfl)
    (hs : swapsWithSole [.Tuple [.Name x px, .Name y py] kt pt] (.Tuple [a, b] k2 pt2) pos.line X.env = pure false := by rfl)
    (he : starEach [a, b] X.env = (false, eval a X.env) :: starEach [b] X.env := by rfl) (he2 : starEach [b] X.env = (false, eval b X.env) :: starEach [] X.env := by rfl) :
    DS X C (.Assign [.Tuple [.Name x px, .Name y py] kt pt] (.Tuple [a, b] k2 pt2) pos) (sPar i j fa fb) := by
  obtain ⟨t, a1, a2⟩ := (da_cons ha (da_cons hb da_nil he2) he).ex
  refine ⟨_, ps_par hc hN hi hj hij hx hy a1 hw hs, fun σ Z0 B Z H env fps E I h => ?_⟩
  obtain ⟨d, e1, h⟩ := post_bindP h
  obtain ⟨d', e2, h⟩ := post_bindP h
  refine a2 σ H Z env [d, d'] _ I.zh I.fz (by simp [aCons, aNil, e1, e2]) fun vs Z1 H1 g1 r1 => ?_
  cases r1 with
  | cons r rr =>
    cases rr with
    | cons r' rr =>
      cases rr
      exact ⟨_, _, rfl, h _ Z1 H1 fps (((I.grow g1).setF hu hp r).setF hu2 hp2 r')⟩
/-! ### values dropped, returned -/
def sExpr (f : PF) : SF := fun env => (f env).bindP fun _ => .ok (.nx, env)
theorem ds_expr (h : DP X [] e f) (hs : swapsWith e none pos.line X.env = pure false := by rfl) : DS X C (.Expr e pos) (sExpr f) := by
  obtain ⟨t, a, b⟩ := h.ex
  refine ⟨_, ps_expr a hs, fun σ Z0 B Z H env fps E I h => ?_⟩
  obtain ⟨d, e1, h⟩ := post_bindP h
  exact b σ H H env d _ (Same.refl _) I.vis e1 fun v Z1 H1 g1 r1 => h σ Z H1 fps (I.seen g1)
def sRet (f : PF) : SF := fun env => (f env).bindP fun d => .ok (.rt d, env)
theorem ds_ret (h : DP X C.us e f) (hm : C.rm = mF := by rfl) : DS X C (.Return (some e) pos) (sRet f) := by
  obtain ⟨t, a, b⟩ := h.ex
  refine ⟨_, ps_ret a, fun σ Z0 B Z H env fps E I h => ?_⟩
  obtain ⟨d, e1, h⟩ := post_bindP h
  exact b σ H Z env d _ I.zh I.fz e1 fun v Z1 H1 g1 r1 => h v σ Z1 H1 fps [] (I.grow g1) (by rw [hm]; exact ⟨rfl, r1⟩) (fun _ z => by cases z) fun _ _ z => by cases z
def sRetN : SF := fun env => .ok (.rt .none, env)
theorem ds_retN (hm : C.rm = mF := by rfl) : DS X C (.Return none pos) sRetN := ⟨_, ps_retN, fun σ Z0 B Z H env fps E I h =>
  h .non σ Z H fps [] I (by rw [hm]; exact ⟨rfl, .non⟩) (fun _ z => by cases z) fun _ _ z => by cases z⟩
/-! ### if, while, for -/
def sIf (c : Env → R Bool) (g g' : SF) : SF := fun env => (c env).bindP fun b => if b = true then g env else g' env
theorem ds_if {c : Expr} {a b : List Stmt} {fc : Env → R Bool} (hc : DT X [] c fc) (ha : DSs X C a g) (hb : DSs X C b g') : DS X C (.If c a b pos) (sIf fc g g') := by
  obtain ⟨t, a1, a2⟩ := hc.ex
  obtain ⟨u, b1, b2⟩ := ha.ex
  obtain ⟨w, c1, c2⟩ := hb.ex
  refine ⟨_, ps_if a1 b1 c1, fun σ Z0 B Z H env fps E I h => ?_⟩
  obtain ⟨k, e1, h⟩ := post_bindP h
  refine a2 σ H H env k _ (Same.refl _) I.vis e1 fun Z1 H1 g1 => ?_
  have I1 := I.seen g1
  cases k with
  | true => exact b2 σ Z0 B Z H1 env fps E I1 h
  | false => exact c2 σ Z0 B Z H1 env fps E I1 h
def whileL (fc : Env → R Bool) (g : SF) : Nat → SF
  | 0, _ => .no
  | n + 1, env => (fc env).bindP fun b => if b = true then (g env).bind fun r => match r with
      | (.nx, env') => whileL fc g n env'
      | (.ct, env') => whileL fc g n env'
      | (.bk, env') => .ok (.nx, env')
      | (.rt d, env') => .ok (.rt d, env')
    else .ok (.nx, env)
def sWhile (n : Nat) (fc : Env → R Bool) (g : SF) : SF := whileL fc g n
theorem ssem_while {K : PySem.W.Frag} {tc : TT} {tb : TS} {fc : Env → R Bool} (n : Nat) (hc : TSem K [] tc fc) (hb : SSem K C tb g) : SSem K C (tWhile tc tb) (sWhile n fc g) := fun σ Z0 B Z H env fps E I h => by
  refine ⟨fun m σ H => ∃ Z env fps, EnvOk K C Z0 B Z H σ env fps ∧ Post K C Z0 B E (whileL fc g m env), ⟨n, Z, env, fps, I, h⟩, fun m σ1 H1 hW => ?_⟩
  obtain ⟨Z1, env1, fps1, I1, h1⟩ := hW
  cases m with
  | zero => exact h1.elim
  | succ m =>
    unfold whileL at h1
    obtain ⟨b, e1, h1⟩ := post_bindP h1
    refine hc σ1 H1 H1 env1 b _ (Same.refl _) I1.vis e1 fun Z2 H2 g2 => ?_
    have I2 := I1.seen g2
    cases b with
    | false =>
      refine iteF ?_
      exact h1 σ1 Z1 H2 fps1 I2
    | true =>
      refine iteT ?_
      rw [if_pos rfl] at h1
      refine ⟨fun σ H => ∃ Z env fps, EnvOk K C Z0 B Z H σ env fps ∧ Post K C Z0 B E (whileL fc g m env), fun σ' H' hN => ⟨m, Nat.lt_succ_self _, hN⟩, ?_⟩
      refine hb σ1 Z0 B Z1 H2 env1 fps1 _ I2 ?_
      cases e : g env1 with
      | ok r =>
        obtain ⟨fl, env'⟩ := r
        rw [e, R.bind_ok] at h1
        cases fl with
        | nx => exact fun σ3 Z3 H3 fps3 I3 => ⟨Z3, env', fps3, I3, h1⟩
        | ct => exact fun σ3 Z3 H3 fps3 I3 => ⟨Z3, env', fps3, I3, h1⟩
        | bk => exact h1
        | rt d => exact h1
      | err c p => rw [e] at h1; exact h1
      | no => rw [e] at h1; exact h1
theorem ds_while {c : Expr} {body : List Stmt} {fc : Env → R Bool} (n : Nat) (hp : PassesOwn (model X.prog X.w) X.A X.env X.xe) (hc : DT X [] c fc) (hb : DSs X C body g) : DS X C (.While c body [] pos) (sWhile n fc g) := by
  obtain ⟨t, a1, a2⟩ := hc.ex
  obtain ⟨u, b1, b2⟩ := hb.ex
  exact ⟨_, ps_while hp a1 b1, ssem_while n a2 b2⟩
def forL (gt : GF) (g : SF) : List D → SF
  | [], env => .ok (.nx, env)
  | d :: ds, env => (gt d env).bindP fun env1 => (g env1).bind fun r => match r with
    | (.nx, env') => forL gt g ds env'
    | (.ct, env') => forL gt g ds env'
    | (.bk, env') => .ok (.nx, env')
    | (.rt d, env') => .ok (.rt d, env')
def sFor (fi : IF) (gt : GF) (g : SF) : SF := fun env => (fi env).bindP fun ds => forL gt g ds env
theorem ssem_for {K : PySem.W.Frag} {wi : TI} {tg : TG} {tb : TS} {fi : IF} {gt : GF} {sl : List Nat} (hi : ISem K C.us wi fi) (hg : GSem K tg sl gt) (hsl : sl.all (fun j => !(C.us.contains j) && (C.pins.lookup j).isNone) = true) (hb : SSem K C tb g) : SSem K C (tFor wi tg tb) (sFor fi gt g) := fun σ Z0 B Z H env fps E I h => by
  obtain ⟨ds, e1, h⟩ := post_bindP h
  refine hi σ H Z env ds _ I.zh I.fz e1 fun J Zk H1 g1 ok => ?_
  have I1 := I.grow g1
  refine ⟨fun i m σ H => m = ds.length - i ∧ i ≤ ds.length ∧ ∃ Z env fps, EnvOk K C Z0 B Z H σ env fps ∧ Same Zk Z ∧ Post K C Z0 B E (forL gt g (ds.drop i) env), ⟨_, rfl, Nat.zero_le _, Zk, env, fps, I1, Same.refl _, h⟩, fun i m σ2 H2 hW => ?_⟩
  obtain ⟨rfl, hile, Z2, env2, fps2, I2, sk, h2⟩ := hW
  by_cases hlt : i < ds.length
  · refine .inr ⟨ok.go i H2 hlt (sk.trans I2.zh), fun σ H => ∃ Z env fps, EnvOk K C Z0 B Z H σ env fps ∧ Same Zk Z ∧ Post K C Z0 B E (forL gt g (ds.drop (i + 1)) env), fun σ' H' ⟨Z', env', fps', a, b, c⟩ => ⟨ds.length - (i + 1), by omega, rfl, hlt, Z', env', fps', a, b, c⟩, fun x H3 y => ?_⟩
    obtain ⟨Z3, d, g3, hd, r3⟩ := ok.yld i H2 x H3 Z2 hlt sk I2.zh y
    have hdrop : ds.drop i = d :: ds.drop (i + 1) := by
      rw [List.drop_eq_getElem_cons hlt]
      rw [List.getElem?_eq_getElem hlt] at hd
      cases hd; rfl
    rw [hdrop] at h2
    unfold forL at h2
    obtain ⟨env3, e3, h2⟩ := post_bindP h2
    have I3 := I2.grow g3
    refine hg x d σ2 H3 Z3 env2 env3 _ I3.zh r3 I3.len e3 fun σ' l1 l2 off on => ?_
    have I4 := I3.setG hsl l1 l2 off on
    -- the body: what is walked stays
    refine hb σ' Z3 B Z3 H3 env3 fps2 _ ⟨⟨Same.refl _, I4.zh, I4.gr.hh, fun _ _ e => .inl e⟩, I4.len, I4.frz, I4.own, I4.fp, I4.dj, I4.pin⟩ ?_
    have back : ∀ {σ5 : L2.St} {Z5 H5 : Hp} {env5 : Env} {fps5 : Nat → List Addr}, EnvOk K C Z3 B Z5 H5 σ5 env5 fps5 → EnvOk K C Z0 B Z5 H5 σ5 env5 fps5 ∧ Same Zk Z5 := fun {σ5 Z5 H5 env5 fps5} J =>
      ⟨⟨⟨I4.gr.zz.trans J.gr.zz, J.gr.zh, J.gr.hh, fun a o e => by
        rcases J.gr.fr a o e with z | z | z
        · exact I4.gr.fr a o z
        · exact .inr (.inl z)
        · exact .inr (.inr z)⟩, J.len, J.frz, J.own, J.fp, J.dj, J.pin⟩, (sk.trans g3.zz).trans J.gr.zz⟩
    cases e : g env3 with
    | ok r =>
      obtain ⟨fl, env'⟩ := r
      rw [e, R.bind_ok] at h2
      cases fl with
      | nx => exact fun σ5 Z5 H5 fps5 I5 => let ⟨J, s5⟩ := back I5; ⟨Z5, env', fps5, J, s5, h2⟩
      | ct => exact fun σ5 Z5 H5 fps5 I5 => let ⟨J, s5⟩ := back I5; ⟨Z5, env', fps5, J, s5, h2⟩
      | bk => exact fun σ5 Z5 H5 fps5 I5 => h2 σ5 Z5 H5 fps5 (back I5).1
      | rt d' => exact fun v σ5 Z5 H5 fps5 fp I5 => h2 v σ5 Z5 H5 fps5 fp (back I5).1
    | err c p =>
      rw [e] at h2
      exact fun cls dx σ5 Z5 H5 hx g5 => h2 cls dx σ5 Z5 H5 hx ⟨I4.gr.zz.trans g5.zz, g5.zh, g5.hh, fun a o e => by
        rcases g5.fr a o e with z | z | z
        · exact I4.gr.fr a o z
        · exact .inr (.inl z)
        · exact .inr (.inr z)⟩
    | no => rw [e] at h2; exact h2
  · have e : i = ds.length := by omega
    subst e
    rw [List.drop_length] at h2
    exact .inl ⟨ok.stop H2 (sk.trans I2.zh), h2 σ2 Z2 H2 fps2 I2⟩
theorem ds_for {tg iter : Expr} {body : List Stmt} {fi : IF} {gt : GF} {sl : List Nat} (hp : PassesOwn (model X.prog X.w) X.A X.env X.xe) (hc : X.calm = true) (hi : DI X C.us tg iter fi) (hg : DG X tg sl gt) (hb : DSs X C body g) (hsl : sl.all (fun j => !(C.us.contains j) && (C.pins.lookup j).isNone) = true := by rfl)
    (hs : ∀ x, foldedSetIterable iter X.env x = pure x := by intro _; rfl) : DS X C (.For tg iter body [] pos) (sFor fi gt g) := by
  obtain ⟨w, a1, a2⟩ := hi.ex
  obtain ⟨t, b1, b2⟩ := hg.ex
  obtain ⟨u, c1, c2⟩ := hb.ex
  exact ⟨_, ps_for hp hc a1 b1 c1 hs, ssem_for a2 b2 hsl c2⟩
/-! ### lists of one's own, changed -/
mutual
def noRef : D → Bool
  | .list _ => false
  | .dict _ => false
  | .tuple ds => noRefs ds
  | _ => true
def noRefs : List D → Bool
  | [] => true
  | d :: ds => noRef d && noRefs ds
end
def cScal (f : PF) : PF := fun env => (f env).bind fun d => R.when (noRef d) (.ok d)
def tupsOf (Z H : Hp) : Hp := fun a => match Z a with
  | some o => some o
  | none => match H a with
    | some (.tup xs) => some (.tup xs)
    | _ => none
theorem tupsOf_zz {Z H : Hp} : Same Z (tupsOf Z H) := fun a o e => by unfold tupsOf; rw [e]
theorem tupsOf_zh {Z H : Hp} (h : Same Z H) : Same (tupsOf Z H) H := fun a o e => by
  unfold tupsOf at e
  split at e
  · rename_i q; cases e; exact h _ _ q
  · split at e
    · rename_i q; cases e; exact q
    · cases e
theorem tupsOf_gr {Z H : Hp} (h : Same Z H) : Gr Z H (tupsOf Z H) H := ⟨tupsOf_zz, tupsOf_zh h, Same.refl _, fun a o e => by
  unfold tupsOf at e
  split at e
  · rename_i q; cases e; exact .inl q
  · split at e
    · cases e; exact .inr (.inr ⟨_, rfl⟩)
    · cases e⟩
end
mutual
theorem Rep.tups {K : PySem.W.Frag} (Z : Hp) {H : Hp} (hz : Same Z H) : ∀ {v : V} {d : D}, Rep K H v d → noRef d = true → Rep K (tupsOf Z H) v d
  | _, _, .non, _ => .non
  | _, _, .bl b, _ => .bl b
  | _, _, .int i, _ => .int i
  | _, _, .str x, _ => .str x
  | _, _, .tup (a := a) (vs := vs) h r, c => by
    have r' := Reps.tups Z hz r (by simpa only [noRef] using c)
    refine .tup (h.imp (fun h => ?_) id) r'
    unfold tupsOf
    cases q : Z a with
    | none => rw [h]
    | some o =>
      have := hz _ _ q
      rw [h] at this
      exact this.symm
  | _, _, .lst _ _, c => by simp only [noRef] at c; cases c
  | _, _, .dK _ _, c => by simp only [noRef] at c; cases c
  | _, _, .dT _ _ _, c => by simp only [noRef] at c; cases c
theorem Reps.tups {K : PySem.W.Frag} (Z : Hp) {H : Hp} (hz : Same Z H) : ∀ {vs : List V} {ds : List D}, Reps K H vs ds → noRefs ds = true → Reps K (tupsOf Z H) vs ds
  | _, _, .nil, _ => .nil
  | _, _, .cons h r, c => by
    have c' := Bool.and_eq_true_iff.mp (by simpa only [noRefs] using c)
    exact .cons (Rep.tups Z hz h c'.1) (Reps.tups Z hz r c'.2)
end
theorem dp_scal {X : Cx} {us : List Nat} {e : Expr} {f : PF} (h : DP X [] e f) : DP X us e (cScal f) := by
  obtain ⟨t, h1, h2⟩ := h.ex
  refine ⟨t, h1, fun σ H Z env d Q hz he hf hq => ?_⟩
  obtain ⟨d', e1, e2⟩ := R.of_bind hf
  obtain ⟨e3, e4⟩ := R.of_when e2
  cases e4
  refine h2 σ H H env _ _ (Same.refl _) he.all e1 fun v Z1 H1 g r => ?_
  have z1 : Same Z H1 := hz.trans g.hh
  have gd : Gr Z H Z H1 := Gr.drop hz g
  exact hq v _ H1 (gd.trans (tupsOf_gr z1)) ((r.mono g.zh).tups Z z1 e3)
end Dz

set_option maxRecDepth 100000
set_option maxHeartbeats 2000000
namespace Dz
open PySem PySem.Spec PyProof.Rows L2
/-! ## lists of one's own, changed -/
section
variable {X : Cx} {C : Cf} {e : Expr} {f fi : PF} {i : Nat} {x : Str} {p' pos cpos apos tpos : Pos}
/-- what a list slot holds -/
def lstAt (env : Env) (i : Nat) : R (List D) := match env[i]? with
  | some (some (.list ds)) => .ok ds
  | _ => .no
theorem of_lstAt {env : Env} {i : Nat} {ds : List D} (h : lstAt env i = .ok ds) : env[i]? = some (some (.list ds)) := by
  unfold lstAt at h
  split at h
  · cases h; assumption
  · cases h
theorem EnvOk.lst {K : PySem.W.Frag} {Z0 B Z H : Hp} {σ : L2.St} {env : Env} {fps : Nat → List Addr} {ds : List D} (I : EnvOk K C Z0 B Z H σ env fps) (hu : C.ms.lookup i = some mL) (h : env[i]? = some (some (.list ds))) :
    ∃ p vs, σ[i]? = some (some (.ref p)) ∧ p ∈ fps i ∧ H p = some (.lst vs) ∧ Reps K Z vs ds ∧ fps i = [p] := by
  obtain ⟨v, hv, p, vs, ds', rfl, e2, e3, h4, h5⟩ := I.own i mL hu _ h
  cases e2
  exact ⟨p, vs, hv, by rw [e3]; simp, h4, h5, e3⟩
/-- the list at the slot becomes another one -/
theorem EnvOk.lstSet {K : PySem.W.Frag} {Z0 B Z H : Hp} {σ : L2.St} {env : Env} {fps : Nat → List Addr} {p : Addr} {vs : List V} {ds : List D} (I : EnvOk K C Z0 B Z H σ env fps) (hu : C.ms.lookup i = some mL) (hv : σ[i]? = some (some (.ref p))) (hp : fps i = [p]) (r : Reps K Z vs ds) :
    EnvOk K C Z0 B Z (upd H p (.lst vs)) σ (env.set i (some (.list ds))) (setFp fps i [p]) :=
  I.mut hu hv (by rw [hp]; simp) ⟨p, vs, ds, rfl, rfl, rfl, upd_same, r⟩ fun a ha => by rw [hp]; exact ha
def sApp (i : Nat) (f : PF) : SF := fun env => (f env).bindP fun d => (lstAt env i).bindP fun ds => R.when (decide (ds.length < sizeLine)) (.ok (.nx, env.set i (some (.list (ds ++ [d])))))
theorem ds_app (hN : X.N[i]? = some x) (hv : Vis X.env.scope x) (h : DP X C.us e f) (hu : C.ms.lookup i = some mL := by rfl) (hd : (x == ("__debug__" : Str)) = false := by decide) (hcd : (x == ("__classdict__" : Str)) = false := by decide)
    (he : starEach (e :: []) X.env = (false, eval e X.env) :: starEach [] X.env := by rfl) (hbase : attributeBase (.Name x p') "append" X.env (eval (.Name x p') X.env) = eval (.Name x p') X.env := by rfl) (hfew : ((backTo cpos (starEach (e :: []) X.env)).all (fun x => !x.1) && (backToKw cpos (keywordEach [] X.env)).all (fun x => x.1.isSome) && decide ((e :: []).length + ([] : List Keyword).length + (if ([] : List Keyword).isEmpty then 0 else 1) < 30)) = true := by rfl) (hline : (apos.endLine == cpos.line) = true := by rfl) (hpl : (backTo cpos (starEach [] X.env)).any (·.1) = false := by rfl)
    (hs : swapsWith (.Call (.Attribute (.Name x p') "append" apos) [e] [] cpos) none pos.line X.env = pure false := by rfl) :
    DS X C (.Expr (.Call (.Attribute (.Name x p') "append" apos) [e] [] cpos) pos) (sApp i f) := by
  obtain ⟨t, a, b⟩ := (da_cons h da_nil he).ex
  refine ⟨_, ps_expr (pe_bm PySem.F.plainAttrs_list PySem.F.slot_list_append PySem.F.type_list_append mt_append (pe_var hN hv hd hcd) a hbase hfew hline he hpl) hs, fun σ Z0 B Z H env fps E I hp => ?_⟩
  obtain ⟨d, e1, hp⟩ := post_bindP hp
  obtain ⟨ds, e2, hp⟩ := post_bindP hp
  obtain ⟨e3, hp⟩ := post_when hp
  obtain ⟨q, vs, hσ, _, hH, r, hfp⟩ := I.lst hu (of_lstAt e2)
  refine ⟨_, hσ, .inl ⟨rfl, _, SqL.of hH⟩, ?_⟩
  refine b σ H Z env [d] _ I.zh I.fz (by simp [aCons, aNil, e1]) fun ws Z1 H1 g1 r1 => ?_
  cases r1 with
  | cons r1 rr =>
    cases rr
    refine ⟨q, vs, _, rfl, rfl, g1.hh _ _ hH, by rw [r.length]; exact of_decide_eq_true e3, ?_⟩
    exact hp σ Z1 _ _ ((I.grow g1).lstSet hu hσ hfp ((r.mono g1.zz).append (.cons r1 .nil)))
/-- xs[k] = e -/
def ixOf (n : Nat) : D → R Nat
  | .int k => match ixN n k with
    | some j => .ok j
    | none => .no
  | _ => .no
theorem of_ixOf {n j : Nat} {d : D} (h : ixOf n d = .ok j) : ∃ k, d = .int k ∧ ixN n k = some j := by
  unfold ixOf at h
  split at h
  · split at h
    · rename_i he; cases h; exact ⟨_, rfl, he⟩
    · cases h
  · cases h
def lstOf : D → R (List D)
  | .list es => .ok es
  | _ => .no
theorem of_lstOf {d : D} {es : List D} (h : lstOf d = .ok es) : d = .list es := by
  unfold lstOf at h
  split at h
  · cases h; rfl
  · cases h
def sSetIx (i : Nat) (fi f : PF) : SF := fun env => (f env).bindP fun d => (fi env).bindP fun k => (lstAt env i).bindP fun ds => (ixOf ds.length k).bindP fun j => .ok (.nx, env.set i (some (.list (ds.set j d))))
theorem ds_setIx {ix : Expr} (hN : X.N[i]? = some x) (hv : Vis X.env.scope x) (h : DP X C.us e f) (hi : DP X [] ix fi) (hu : C.ms.lookup i = some mL := by rfl) (hd : (x == ("__debug__" : Str)) = false := by decide) (hcd : (x == ("__classdict__" : Str)) = false := by decide)
    (ha : ∀ v, assign (.Subscript (.Name x p') ix tpos) X.env v = (do
      let ov ← holding [v] (eval (.Name x p') X.env)
      let iv ← holding [v, ov] (eval ix X.env)
      standAt tpos
      holding [v, ov, iv] (setItem ov iv v)
      release [v, ov, iv] []) := by intro _; rfl)
    (hs : swapsWithSole [.Subscript (.Name x p') ix tpos] e pos.line X.env = pure false := by rfl) (hw : swappedStores [.Subscript (.Name x p') ix tpos] e X.env = pure none := by rfl)
    (h1 : (assignEach [.Subscript (.Name x p') ix tpos] X.env).map (·.2) = [assign (.Subscript (.Name x p') ix tpos) X.env] := by rfl) :
    DS X C (.Assign [.Subscript (.Name x p') ix tpos] e pos) (sSetIx i fi f) := by
  obtain ⟨t, a, b⟩ := h.ex
  obtain ⟨u, c, d⟩ := hi.ex
  refine ⟨_, ps_asg a (pg_sub (pe_var hN hv hd hcd) c set_list ha) hs hw h1, fun σ Z0 B Z H env fps E I hp => ?_⟩
  obtain ⟨dv, e1, hp⟩ := post_bindP hp
  obtain ⟨dk, e2, hp⟩ := post_bindP hp
  obtain ⟨ds, e3, hp⟩ := post_bindP hp
  obtain ⟨j, e4, hp⟩ := post_bindP hp
  obtain ⟨k, e5, hj⟩ := of_ixOf e4
  rw [e5] at e2
  refine b σ H Z env dv _ I.zh I.fz e1 fun v Z1 H1 g1 r1 => ?_
  have I1 := I.grow g1
  obtain ⟨q, vs, hσ, _, hH, r, hfp⟩ := I1.lst hu (of_lstAt e3)
  refine ⟨_, hσ, d σ H1 H1 env (.int k) _ (Same.refl _) I1.vis e2 fun w Z2 H2 g2 r2 => ?_⟩
  cases r2
  have I2 := I1.seen g2
  exact ⟨q, vs, k, j, rfl, rfl, g2.hh _ _ hH, by rw [r.length]; exact hj, hp σ Z1 _ _ (I2.lstSet hu hσ hfp (r.set r1 j))⟩
/-- xs.extend(e): e a list -/
def sExt (i : Nat) (f : PF) : SF := fun env => (f env).bindP fun d => (lstAt env i).bindP fun ds => (lstOf d).bindP fun es => R.when (decide (ds.length + es.length ≤ sizeLine)) (.ok (.nx, env.set i (some (.list (ds ++ es)))))
theorem ds_ext (hN : X.N[i]? = some x) (hv : Vis X.env.scope x) (h : DP X C.us e f) (hu : C.ms.lookup i = some mL := by rfl) (hd : (x == ("__debug__" : Str)) = false := by decide) (hcd : (x == ("__classdict__" : Str)) = false := by decide)
    (he : starEach (e :: []) X.env = (false, eval e X.env) :: starEach [] X.env := by rfl) (hbase : attributeBase (.Name x p') "extend" X.env (eval (.Name x p') X.env) = eval (.Name x p') X.env := by rfl) (hfew : ((backTo cpos (starEach (e :: []) X.env)).all (fun x => !x.1) && (backToKw cpos (keywordEach [] X.env)).all (fun x => x.1.isSome) && decide ((e :: []).length + ([] : List Keyword).length + (if ([] : List Keyword).isEmpty then 0 else 1) < 30)) = true := by rfl) (hline : (apos.endLine == cpos.line) = true := by rfl) (hpl : (backTo cpos (starEach [] X.env)).any (·.1) = false := by rfl)
    (hs : swapsWith (.Call (.Attribute (.Name x p') "extend" apos) [e] [] cpos) none pos.line X.env = pure false := by rfl) :
    DS X C (.Expr (.Call (.Attribute (.Name x p') "extend" apos) [e] [] cpos) pos) (sExt i f) := by
  obtain ⟨t, a, b⟩ := (da_cons h da_nil he).ex
  refine ⟨_, ps_expr (pe_bm PySem.F.plainAttrs_list PySem.F.slot_list_extend PySem.F.type_list_extend mt_extend (pe_var hN hv hd hcd) a hbase hfew hline he hpl) hs, fun σ Z0 B Z H env fps E I hp => ?_⟩
  obtain ⟨d, e1, hp⟩ := post_bindP hp
  obtain ⟨ds, e2, hp⟩ := post_bindP hp
  obtain ⟨es, e4, hp⟩ := post_bindP hp
  obtain ⟨e3, hp⟩ := post_when hp
  have e5 := of_lstOf e4
  rw [e5] at e1
  obtain ⟨q, vs, hσ, _, hH, r, hfp⟩ := I.lst hu (of_lstAt e2)
  refine ⟨_, hσ, .inl ⟨rfl, _, SqL.of hH⟩, ?_⟩
  refine b σ H Z env [.list es] _ I.zh I.fz (by simp [aCons, aNil, e1]) fun ws Z1 H1 g1 r1 => ?_
  cases r1 with
  | cons r1 rr =>
    cases rr
    cases r1 with
    | lst tt q2 =>
      refine ⟨q, _, vs, _, rfl, rfl, g1.hh _ _ hH, g1.zh _ _ tt, by rw [r.length, q2.length]; exact of_decide_eq_true e3, ?_⟩
      exact hp σ Z1 _ _ ((I.grow g1).lstSet hu hσ hfp ((r.mono g1.zz).append q2))
end
/-! ## defs -/
def run (n : Nat) (g : SF) (args : List D) : R D := (g (args.map some ++ List.replicate (n - args.length) none)).bind fun r => match r with
  | (.rt d, _) => .ok d
  | (.nx, _) => .ok .none
  | _ => .no
/-- a pure def of the text, by its name -/
structure HasFn (P : Program) (w : World) (K : PySem.W.Frag) (mg : Str → Option Value) (base : Heap) (x : Str) (k n : Nat) (F : List D → R D) : Prop where
  ex : ∃ f fd ps, FnG P w K mg base CX0 k f fd ps (spP K n F) ∧ mg x = some (.ref f) ∧ PySem.W.keepIn K (.ref f) = true ∧ Binds K fd ps []
/-- a def stands at a name -/
structure FunAt (K : PySem.W.Frag) (mg : Str → Option Value) (x : Str) (st : Stmt) : Prop where
  ex : ∃ fa fd, FunD K x x (defArgs st) (defBody st) (defScope st) [] [] fa fd ∧ mg x = some (.ref fa)
theorem HasFn.imp {P : Program} {w : World} {K : PySem.W.Frag} {mg : Str → Option Value} {base : Heap} {x : Str} {k n : Nat} {F G : List D → R D} (h : HasFn P w K mg base x k n F) (e : ∀ ds d, G ds = .ok d → F ds = .ok d) : HasFn P w K mg base x k n G := by
  obtain ⟨f, fd, ps, a, b⟩ := h.ex
  exact ⟨f, fd, ps, a.imp fun vs H Q E ⟨h1, Z, ds, d, h2, h3, h4, h5⟩ => ⟨h1, Z, ds, d, h2, h3, e ds d h4, h5⟩, b⟩
section
variable {X : Cx} {us : List Nat} {e : Expr} {es : List Expr} {fa : AF} {x : Str} {p pos : Pos} {k j n : Nat} {F : List D → R D}
theorem dp_fn (G : HasFn X.prog X.w X.K X.mg X.base x j n F) (hr : RmG k X.A) (hj : j ≤ k) (hg : Gl X x) (ha : DA X us (e :: es) fa)
    (hdb : (x == ("__debug__" : Str)) = false := by decide) (he : starEach (e :: es) X.env = (false, eval e X.env) :: starEach es X.env := by rfl) (hpl : (backTo pos (starEach es X.env)).any (·.1) = false := by rfl) :
    DP X us (.Call (.Name x p) (e :: es) [] pos) (cFn n F fa) := by
  obtain ⟨f, fd, ps, G1, h1, h2, h3⟩ := G.ex
  exact dp_call G1 (hr.mono hj) hg h1 h2 h3 ha hdb he hpl
end
section
variable {P : Program} {w : World} {K : PySem.W.Frag} {mg : Str → Option Value} {base : Heap}
theorem start_get {N : List Str} {vs : List V} {i : Nat} {v : V} (h : vs[i]? = some v) : (L2.start N vs)[i]? = some (some v) := by
  unfold L2.start
  have hi := (List.getElem?_eq_some_iff.mp h).1
  rw [List.getElem?_append_left (by simpa using hi), List.getElem?_map, h]
  rfl
theorem mkFn {x : Str} {st : Stmt} {N ps : List Str} {k : Nat} {g : SF} (C : Cf) (F : FunAt K mg x st) (S : FnScope N ps (defScope st)) (hpin : C.pins = []) (hrm : C.rm = mF) (hus : C.us.all (fun i => decide (ps.length ≤ i)) = true) (hle : ps.length ≤ N.length)
    (hb : ∀ (kV doc pm : Value) (an : Option Addr) (cdv ct : Value) (us : List Value), us.length = ps.length → bindArgs (PySem.W.fnOf x x (defArgs st) (defBody st) (defScope st) .none kV doc pm an cdv ct) ⟨us, []⟩ = pure (ps.zip us))
    (hbody : ∀ (f : Addr) (cdv : Value) (A : Around) (outer : List PySem.Env) (s : Shared) (H : Hp) (E : XK), RmG k (A.deeper (envOfC x (defScope st) s.heap.objs.size f cdv)) → DSs (cxOf CX0 P w K mg base N x (defScope st) f cdv A outer s H E).nox C (defBody st) g) :
    HasFn P w K mg base x (k + 1) ps.length (run N.length g) := by
  obtain ⟨fa, fd, F, hm⟩ := F.ex
  refine ⟨fa, fd, ps, ?_, hm, F.kp, F.bindsN hb⟩
  refine fnG_of F S (fun vs H Q E h => h.1) fun cdv A outer s H vs Q E hr h => ?_
  obtain ⟨hl, Z, ds, d, hz, r, hF, hq⟩ := h
  obtain ⟨t, h1, h2⟩ := (hbody fa cdv A outer s H E hr).ex
  refine ⟨t, h1.nox, ?_⟩
  have hdl : ds.length = ps.length := by rw [← r.length, hl]
  refine h2 (L2.start N vs) Z H Z H (ds.map some ++ List.replicate (N.length - ds.length) none) (fun _ => []) _ ⟨Gr.refl hz, ?_, fun i d' _ he => ?_, fun i m hm d' he => ?_, (fun i a ha => by cases ha), (fun i j a ha => by cases ha), (fun i v hv => by rw [hpin] at hv; cases hv)⟩ ?_
  · unfold L2.start
    simp [r.length]
  · by_cases hi : i < ds.length
    · rw [List.getElem?_append_left (by simpa using hi), List.getElem?_map] at he
      rw [List.getElem?_eq_getElem hi] at he
      obtain ⟨v, a, b⟩ := r.get (List.getElem?_eq_getElem hi)
      cases he
      exact ⟨v, start_get a, b⟩
    · rw [List.getElem?_append_right (by simpa using hi), List.getElem?_replicate] at he
      split at he <;> cases he
  · have hge : ps.length ≤ i := by
      have := List.all_eq_true.mp hus i (by simpa using contains_of_lookup hm)
      exact of_decide_eq_true this
    rw [List.getElem?_append_right (by simpa [hdl] using hge), List.getElem?_replicate] at he
    split at he <;> cases he
  · unfold run at hF
    cases q : g (ds.map some ++ List.replicate (N.length - ds.length) none) with
    | ok r =>
      obtain ⟨fl, env'⟩ := r
      rw [q, R.bind_ok] at hF
      cases fl with
      | nx =>
        cases hF
        exact fun σ' Z' H' fps' I' => hq .non Z' H' I'.gr .non
      | rt d' =>
        cases hF
        intro v σ' Z' H' fps' fp I' ho _ _
        rw [hrm] at ho
        exact hq v Z' H' I'.gr ho.2
      | bk => cases hF
      | ct => cases hF
    | err c p => rw [q] at hF; cases hF
    | no => rw [q] at hF; cases hF
end
/-- no slot of one's own, no error -/
def cf0 (ms : List (Nat × Mode)) : Cf := ⟨ms, [], mF, fun _ _ _ _ => False, fun _ _ _ _ _ _ => False⟩
end Dz

set_option maxRecDepth 100000
set_option maxHeartbeats 4000000
/-! lists compared by > -/
namespace Dz
open PySem PySem.SeqAt PyProof.Rows AutoSeq1 MeetsSeq MeetsSeq2 MeetsSeq3 SeqRoads2
theorem gtLoop (l b : Addr) (xs ys : Array Value) (n m : Nat) (da db : Option Addr) (sa sb : Array (Option Value)) (e r : Nat → Bool) : ∀ (k i : Nat), min xs.size ys.size - i = k →
    Meets (Builtin.«list.__eq__.loop» ⟨[.ref l, .ref b, rawInt i, rawInt 4], []⟩) (fun A R s =>
      s.heap.get? l = some { cls := .type "list", dict := da, data := .seq xs n, slots := sa } ∧
      s.heap.get? b = some { cls := .type "list", dict := db, data := .seq ys m, slots := sb } ∧
      (∀ j (h1 : j < xs.size) (h2 : j < ys.size), EqAt A.in1 s xs[j] ys[j] (e j)) ∧
      (∀ j (h1 : j < xs.size) (h2 : j < ys.size), e j = false → Ob.RcOp .Gt A.in1 s xs[j] ys[j] (r j)) ∧
      R (.ok (.ret (.bool (Ob.lexAt e r (decide (ys.size < xs.size)) i (min xs.size ys.size - i))))) s) := by
  intro k
  induction k with
  | zero =>
    intro i hk prog w A R s h
    obtain ⟨hp, g, d, tk, os⟩ := s
    obtain ⟨hl, hb, he, hr, hq⟩ := h
    rw [hk] at hq
    wp_walk using wpAny_loadPart' hl, wpAny_loadPart' hb
    by_cases h1 : xs.size ≤ i
    · have z : xs[((i : Nat) : Int).toNat]? = none := by simp; omega
      rw [z]
      wp_walk using wpAny_loadPart' hl, wpAny_loadPart' hb
      exact hq
    · have lt1 : i < xs.size := by omega
      have z1 : xs[((i : Nat) : Int).toNat]? = some xs[i] := by simp [lt1]
      have z2 : ys[((i : Nat) : Int).toNat]? = none := by simp; omega
      rw [z1, z2]
      wp_walk using wpAny_loadPart' hl, wpAny_loadPart' hb
      exact hq
  | succ k ih =>
    intro i hk prog w A R s h
    obtain ⟨hp, g, d, tk, os⟩ := s
    obtain ⟨hl, hb, he, hr, hq⟩ := h
    rw [hk, Ob.lexAt_succ] at hq
    have lt1 : i < xs.size := by omega
    have lt2 : i < ys.size := by omega
    wp_walk using wpAny_loadPart' hl, wpAny_loadPart' hb
    have z1 : xs[((i : Nat) : Int).toNat]? = some xs[i] := by simp [lt1]
    have z2 : ys[((i : Nat) : Int).toNat]? = some ys[i] := by simp [lt2]
    have next : ((i : Int) + 1) = ((i + 1 : Nat) : Int) := by omega
    rw [z1, z2]
    refine wpAny_bind (he i lt1 lt2 prog w _ _ ?_)
    cases q : e i with
    | true =>
      rw [if_pos q] at hq
      wp_walk
      rw [next]
      exact ⟨plainId_quiet plain_eq_loop _, codeAny_builtin entry_eq_loop (by
        rw [Around.under_plainId plain_eq_loop _]
        exact ih (i + 1) (by omega) prog w A R _ ⟨hl, hb, he, hr, by rw [show min xs.size ys.size - (i + 1) = k by omega]; exact hq⟩)⟩
    | false =>
      rw [if_neg (by rw [q]; decide)] at hq
      wp_walk using wpAny_loadPart' hl, wpAny_loadPart' hb
      rw [z1, z2]
      show wpAny _ _ (richCompare .Gt xs[i] ys[i] >>= fun z => ret z) _ _ _
      refine wpAny_bind (hr i lt1 lt2 q prog w _ _ ?_)
      wp_walk
      exact hq
theorem gtLists (l b : Addr) (xs ys : Array Value) (n m : Nat) (da db : Option Addr) (sa sb : Array (Option Value)) (e r : Nat → Bool) :
    Meets (Builtin.«list.__gt__» ⟨[.ref l, .ref b], []⟩) (fun A R s =>
      s.heap.get? l = some { cls := .type "list", dict := da, data := .seq xs n, slots := sa } ∧
      s.heap.get? b = some { cls := .type "list", dict := db, data := .seq ys m, slots := sb } ∧
      (∀ j (h1 : j < xs.size) (h2 : j < ys.size), EqAt A.in1 s xs[j] ys[j] (e j)) ∧
      (∀ j (h1 : j < xs.size) (h2 : j < ys.size), e j = false → Ob.RcOp .Gt A.in1 s xs[j] ys[j] (r j)) ∧
      R (.ok (.ret (.bool (Ob.lexAt e r (decide (ys.size < xs.size)) 0 (min xs.size ys.size))))) s) := by
  intro prog w A R s h
  obtain ⟨hp, g, d, tk, os⟩ := s
  obtain ⟨hl, hb, he, hr, hq⟩ := h
  have f3 := AutoSeq1.sub_list_list
  wp_walk using wpAny_loadPart' hl, wpAny_loadPart' hb
  exact ⟨plainId_quiet plain_eq_loop _, codeAny_builtin entry_eq_loop (by
    rw [Around.under_plainId plain_eq_loop _]
    exact gtLoop l b xs ys n m da db sa sb e r _ 0 rfl prog w A R _ ⟨hl, hb, he, hr, by simpa using hq⟩)⟩
theorem rc_gtLists {A : Around} {s : Shared} {l b : Addr} {xs ys : Array Value} {e r : Nat → Bool} (hl : s.heap.IsList l xs) (hb : s.heap.IsList b ys) (hu : A.units < cLine)
    (he : ∀ j (h1 : j < xs.size) (h2 : j < ys.size), EqAt A.in1 s xs[j] ys[j] (e j)) (hr : ∀ j (h1 : j < xs.size) (h2 : j < ys.size), e j = false → Ob.RcOp .Gt A.in1 s xs[j] ys[j] (r j)) :
    Ob.RcOp .Gt A s (.ref l) (.ref b) (Ob.lexAt e r (decide (ys.size < xs.size)) 0 (min xs.size ys.size)) := fun prog w E Q h => by
  obtain ⟨⟨c1, d1, t1, s1⟩, o1, k1, n1, v1⟩ := id hl
  obtain ⟨⟨c2, d2, t2, s2⟩, o2, k2, n2, v2⟩ := id hb
  simp only at k1 v1 k2 v2
  subst k1 v1 k2 v2
  exact richCompare_meets_room (op := .Gt) ⟨_, o1, rfl⟩ ⟨_, o2, rfl⟩ F.slot_list_gt F.entry_list_gt (F.args_list_gt_2 _ _) (gtLists l b xs ys n1 n2 d1 d2 s1 s2 e r) ⟨o1, o2, he, hr, ⟨(fun x => nomatch x), h⟩⟩ hu
end Dz

set_option maxRecDepth 100000
set_option maxHeartbeats 1000000
namespace Dz
open PySem PySem.SeqAt PyProof.Rows AutoSeq1 MeetsSeq MeetsSeq2 MeetsSeq3 SeqRoads2
/-! ## comparisons of alike data -/
inductive Cop where
  | lt | le | gt | ge
def Cop.op : Cop → CmpOp
  | .lt => .Lt
  | .le => .LtE
  | .gt => .Gt
  | .ge => .GtE
def Cop.i : Cop → Int → Int → Bool
  | .lt, i, j => decide (i < j)
  | .le, i, j => decide (i ≤ j)
  | .gt, i, j => decide (j < i)
  | .ge, i, j => decide (j ≤ i)
def Cop.n : Cop → Nat → Nat → Bool
  | .lt, i, j => decide (i < j)
  | .le, i, j => decide (i ≤ j)
  | .gt, i, j => decide (j < i)
  | .ge, i, j => decide (j ≤ i)
mutual
/-- the kinds that c is told of: whole numbers, tuples of them (at any depth); by > lists, too -/
def alk (c : Cop) : PyData → PyData → Bool
  | .int _, .int _ => true
  | .tuple xs, .tuple ys => alks c xs ys
  | .list xs, .list ys => (match c with | .gt => true | _ => false) && alks c xs ys
  | _, _ => false
def alks (c : Cop) : List PyData → List PyData → Bool
  | x :: xs, y :: ys => alk c x y && alks c xs ys
  | _, _ => true
end
mutual
def cmpV (c : Cop) : PyData → PyData → Bool
  | .int i, .int j => c.i i j
  | .tuple xs, .tuple ys => cmpVs c xs ys
  | .list xs, .list ys => cmpVs c xs ys
  | _, _ => false
def cmpVs (c : Cop) : List PyData → List PyData → Bool
  | x :: xs, y :: ys => if PyData.eqv x y = true then cmpVs c xs ys else cmpV c x y
  | xs, ys => c.n xs.length ys.length
end
theorem cop_n (c : Cop) (m n : Nat) : c.n (m + 1) (n + 1) = c.n m n := by
  cases c <;> simp [Cop.n]
theorem cmpVs_lex (c : Cop) : ∀ (xs ys : List PyData) (i : Nat) (e r : Nat → Bool), (∀ j x y, xs[j]? = some x → ys[j]? = some y → e (i + j) = PyData.eqv x y ∧ r (i + j) = cmpV c x y) →
    Ob.lexAt e r (c.n xs.length ys.length) i (min xs.length ys.length) = cmpVs c xs ys
  | [], ys, i, e, r, h => by simp [cmpVs, Ob.lexAt_zero]
  | x :: xs, [], i, e, r, h => by simp [cmpVs, Ob.lexAt_zero]
  | x :: xs, y :: ys, i, e, r, h => by
    rw [List.length_cons, List.length_cons, cop_n, show min (xs.length + 1) (ys.length + 1) = min xs.length ys.length + 1 by omega, Ob.lexAt_succ]
    obtain ⟨h1, h2⟩ := h 0 x y rfl rfl
    rw [Nat.add_zero] at h1 h2
    rw [h1, h2, cmpVs]
    split
    · exact cmpVs_lex c xs ys (i + 1) e r fun j x' y' hx hy => by
        have := h (j + 1) x' y' (by simpa using hx) (by simpa using hy)
        rw [show i + (j + 1) = i + 1 + j by omega] at this
        exact this
    · rfl
theorem depth_lt {A : Around} {n m : Nat} (hu : A.units + min (n + 1) (m + 1) < cLine) : A.in1.units + min n m < cLine := by
  show A.units + 1 + _ < _
  omega
theorem tuples_cop (c : Cop) {A : Around} {s : Shared} {l b : Addr} {xs ys : Array Value} {e r : Nat → Bool} (hl : s.heap.IsTuple l xs) (hb : s.heap.IsTuple b ys) (hu : A.units < cLine)
    (he : ∀ j (h1 : j < xs.size) (h2 : j < ys.size), EqAt A.in1 s xs[j] ys[j] (e j)) (hr : ∀ j (h1 : j < xs.size) (h2 : j < ys.size), e j = false → Ob.RcOp c.op A.in1 s xs[j] ys[j] (r j)) :
    Ob.RcOp c.op A s (.ref l) (.ref b) (Ob.lexAt e r (c.n xs.size ys.size) 0 (min xs.size ys.size)) := by
  cases c with
  | lt => exact Ob.RcOp.tuples_lt hl hb hu he hr
  | le => exact Ob.RcOp.tuples_le hl hb hu he hr
  | gt => exact Ob.RcOp.tuples_gt hl hb hu he hr
  | ge => exact Ob.RcOp.tuples_ge hl hb hu he hr
/-- items: from a rule for each pair -/
theorem rc_tup_step (c : Cop) {xs ys : List PyData} {A : Around} {s : Shared} {a b : Value} {as bs : List Addr} (ra : Reads s.heap a (.tuple xs) as) (rb : Reads s.heap b (.tuple ys) bs) (ha : PyData.canLayAll0 xs = true) (hb : PyData.canLayAll0 ys = true)
    (hu : A.units + min (PyData.depthAll xs + 1) (PyData.depthAll ys + 1) < cLine)
    (ih : ∀ (vs ws : List Value) (as bs : List Addr), ReadsAll s.heap vs xs as → ReadsAll s.heap ws ys bs → ∀ j (h1 : j < vs.length) (h2 : j < ws.length), Ob.RcOp c.op A.in1 s vs[j] ws[j] (cmpV c (xs.getD j .none) (ys.getD j .none))) : Ob.RcOp c.op A s a b (cmpVs c xs ys) := by
  cases ra with
  | @tuple a o vs n _ _ h1 h2 h3 h4 =>
    cases rb with
    | @tuple b o' ws m _ _ h1' h2' h3' h4' =>
      have e1 := ReadsAll.length _ _ _ h4
      have e2 := ReadsAll.length _ _ _ h4'
      have hu' := depth_lt hu
      rw [Array.length_toList] at e1 e2
      have R := tuples_cop c (A := A) (s := s) (l := a) (b := b) (xs := vs) (ys := ws) (e := pairEq xs ys) (r := fun j => cmpV c (xs.getD j .none) (ys.getD j .none)) ⟨o, h1, h2, n, h3⟩ ⟨o', h1', h2', m, h3'⟩ (by omega)
        (fun j g1 g2 => by
          have z := eqAt_readsAll xs ys A.in1 s vs.toList ws.toList _ _ h4 h4' ha hb hu' j (by rw [Array.length_toList]; exact g1) (by rw [Array.length_toList]; exact g2)
          rw [Array.getElem_toList, Array.getElem_toList] at z
          exact z)
        (fun j g1 g2 _ => by
          have z := ih vs.toList ws.toList _ _ h4 h4' j (by rw [Array.length_toList]; exact g1) (by rw [Array.length_toList]; exact g2)
          rw [Array.getElem_toList, Array.getElem_toList] at z
          exact z)
      rw [e1, e2] at R
      rw [cmpVs_lex c xs ys 0 _ _ fun j x y hx hy => by simp [pairEq, hx, hy]] at R
      exact R
theorem rc_lst_step {xs ys : List PyData} {A : Around} {s : Shared} {a b : Value} {as bs : List Addr} (ra : Reads s.heap a (.list xs) as) (rb : Reads s.heap b (.list ys) bs) (ha : PyData.canLayAll0 xs = true) (hb : PyData.canLayAll0 ys = true)
    (hu : A.units + min (PyData.depthAll xs + 1) (PyData.depthAll ys + 1) < cLine)
    (ih : ∀ (vs ws : List Value) (as bs : List Addr), ReadsAll s.heap vs xs as → ReadsAll s.heap ws ys bs → ∀ j (h1 : j < vs.length) (h2 : j < ws.length), Ob.RcOp .Gt A.in1 s vs[j] ws[j] (cmpV .gt (xs.getD j .none) (ys.getD j .none))) : Ob.RcOp .Gt A s a b (cmpVs .gt xs ys) := by
  cases ra with
  | @list a o vs n _ _ h1 h2 h3 h4 =>
    cases rb with
    | @list b o' ws m _ _ h1' h2' h3' h4' =>
      have e1 := ReadsAll.length _ _ _ h4
      have e2 := ReadsAll.length _ _ _ h4'
      have hu' := depth_lt hu
      rw [Array.length_toList] at e1 e2
      have R := rc_gtLists (A := A) (s := s) (l := a) (b := b) (xs := vs) (ys := ws) (e := pairEq xs ys) (r := fun j => cmpV .gt (xs.getD j .none) (ys.getD j .none)) ⟨o, h1, h2, n, h3⟩ ⟨o', h1', h2', m, h3'⟩ (by omega)
        (fun j g1 g2 => by
          have z := eqAt_readsAll xs ys A.in1 s vs.toList ws.toList _ _ h4 h4' ha hb hu' j (by rw [Array.length_toList]; exact g1) (by rw [Array.length_toList]; exact g2)
          rw [Array.getElem_toList, Array.getElem_toList] at z
          exact z)
        (fun j g1 g2 _ => by
          have z := ih vs.toList ws.toList _ _ h4 h4' j (by rw [Array.length_toList]; exact g1) (by rw [Array.length_toList]; exact g2)
          rw [Array.getElem_toList, Array.getElem_toList] at z
          exact z)
      rw [e1, e2] at R
      have z := cmpVs_lex .gt xs ys 0 (pairEq xs ys) (fun j => cmpV .gt (xs.getD j .none) (ys.getD j .none)) fun j x y hx hy => by simp [pairEq, hx, hy]
      simp only [Cop.n] at z
      rw [z] at R
      exact R
theorem rc_int (c : Cop) {A : Around} {s : Shared} {a b : Value} {i j : Int} {as bs : List Addr} (ra : Reads s.heap a (.int i) as) (rb : Reads s.heap b (.int j) bs) : Ob.RcOp c.op A s a b (c.i i j) := by
  cases ra
  cases rb
  cases c with
  | lt => exact Ob.RcOp.lt_int _ _ _ _
  | le => exact Ob.RcOp.le_int _ _ _ _
  | gt => exact Ob.RcOp.gt_int _ _ _ _
  | ge => exact Ob.RcOp.ge_int _ _ _ _
mutual
theorem rc_data (c : Cop) : ∀ (da db : PyData) (A : Around) (s : Shared) (a b : Value) (as bs : List Addr), Reads s.heap a da as → Reads s.heap b db bs → da.canLay0 = true → db.canLay0 = true → alk c da db = true →
    A.units + min da.depth db.depth < cLine → Ob.RcOp c.op A s a b (cmpV c da db)
  | .int i, db, A, s, a, b, as, bs, ra, rb, _, _, hk, _ => by
    cases db with
    | int j =>
      rw [cmpV]
      exact rc_int c ra rb
    | _ => rw [alk] at hk <;> first | cases hk | (intros; contradiction)
  | .tuple xs, db, A, s, a, b, as, bs, ra, rb, ha, hb, hk, hu => by
    cases db with
    | tuple ys =>
      rw [cmpV]
      rw [PyData.canLay0] at ha hb
      rw [alk] at hk
      rw [PyData.depth, PyData.depth] at hu
      exact rc_tup_step c ra rb ha hb hu fun vs ws as' bs' r r' j h1 h2 => rc_datas c xs ys A.in1 s vs ws as' bs' r r' ha hb hk (depth_lt hu) j h1 h2
    | _ => rw [alk] at hk <;> first | cases hk | (intros; contradiction)
  | .list xs, db, A, s, a, b, as, bs, ra, rb, ha, hb, hk, hu => by
    cases db with
    | list ys =>
      rw [cmpV]
      rw [PyData.canLay0] at ha hb
      rw [PyData.depth, PyData.depth] at hu
      cases c with
      | gt =>
        simp only [alk, Bool.true_and] at hk
        exact rc_lst_step ra rb ha hb hu fun vs ws as' bs' r r' j h1 h2 => rc_datas .gt xs ys A.in1 s vs ws as' bs' r r' ha hb hk (depth_lt hu) j h1 h2
      | lt => simp [alk] at hk
      | le => simp [alk] at hk
      | ge => simp [alk] at hk
    | _ => rw [alk] at hk <;> first | cases hk | (intros; contradiction)
  | .none, db, _, _, _, _, _, _, _, _, _, _, hk, _ => by cases db <;> (rw [alk] at hk <;> first | cases hk | (intros; contradiction))
  | .bool _, db, _, _, _, _, _, _, _, _, _, _, hk, _ => by cases db <;> (rw [alk] at hk <;> first | cases hk | (intros; contradiction))
  | .str _, db, _, _, _, _, _, _, _, _, _, _, hk, _ => by cases db <;> (rw [alk] at hk <;> first | cases hk | (intros; contradiction))
  | .dict _, db, _, _, _, _, _, _, _, _, _, _, hk, _ => by cases db <;> (rw [alk] at hk <;> first | cases hk | (intros; contradiction))
theorem rc_datas (c : Cop) : ∀ (xs ys : List PyData) (A : Around) (s : Shared) (vs ws : List Value) (as bs : List Addr), ReadsAll s.heap vs xs as → ReadsAll s.heap ws ys bs → PyData.canLayAll0 xs = true → PyData.canLayAll0 ys = true → alks c xs ys = true →
    A.units + min (PyData.depthAll xs) (PyData.depthAll ys) < cLine → ∀ j (h1 : j < vs.length) (h2 : j < ws.length), Ob.RcOp c.op A s vs[j] ws[j] (cmpV c (xs.getD j .none) (ys.getD j .none))
  | [], _, _, _, _, _, _, _, ra, _, _, _, _, _, j, h1, _ => by cases ra; exact absurd h1 (Nat.not_lt_zero _)
  | x :: xs, ys, A, s, _, _, _, _, ra, rb, ha, hb, hk, hu, j, h1, h2 => by
    cases ys with
    | nil => cases rb; exact absurd h2 (Nat.not_lt_zero _)
    | cons y ys =>
      rw [PyData.canLayAll0, Bool.and_eq_true] at ha hb
      rw [alks, Bool.and_eq_true] at hk
      rw [PyData.depthAll, PyData.depthAll] at hu
      cases ra with
      | cons r rs =>
        cases rb with
        | cons r' rs' =>
          cases j with
          | zero => exact rc_data c x y A s _ _ _ _ r r' ha.1 hb.1 hk.1 (by omega)
          | succ j => exact rc_datas c xs ys A s _ _ _ _ rs rs' ha.2 hb.2 hk.2 (by omega) j (by simpa using h1) (by simpa using h2)
end
end Dz
namespace Dz
open PySem PySem.Spec PyProof.Rows L2
def rCmpD (c : Cop) (K : PySem.W.Frag) : R2 := fun x y H Q => ∃ d e, Dp K H x d ∧ Dp K H y e ∧ SeqAt.shaped d = true ∧ SeqAt.shaped e = true ∧ alk c d e = true ∧ Q (.bl (cmpV c d e)) H
theorem op_cmpD {X : Cx} {k : Nat} (c : Cop) (hr : RmG k X.A) : OpR X (compareOp c.op) (rCmpD c X.K) := by
  intro pins s σ H x y v u Q I rx ry h
  obtain ⟨d, e, h1, h2, h3, h4, h5, q⟩ := h
  obtain ⟨as, r1⟩ := Dp.reads I d x v h1 rx
  obtain ⟨bs, r2⟩ := Dp.reads I e y u h2 ry
  have hu := hr.units
  have R := rc_data c d e X.A s v u as bs r1 r2 (SeqAt.canLay_of_shaped h3) (SeqAt.canLay_of_shaped h4) h5 (SeqAt.room_of_shaped h3 hu)
  cases c with
  | lt => exact R X.prog X.w X.xe (EP X pins σ Q) ⟨.bl _, H, I, rfl, q⟩
  | le => exact R X.prog X.w X.xe (EP X pins σ Q) ⟨.bl _, H, I, rfl, q⟩
  | gt => exact R X.prog X.w X.xe (EP X pins σ Q) ⟨.bl _, H, I, rfl, q⟩
  | ge => exact R X.prog X.w X.xe (EP X pins σ Q) ⟨.bl _, H, I, rfl, q⟩
def gCmp (c : Cop) (a b : D) : R D := match a, b with
  | .int i, .int j => .ok (.bool (c.i i j))
  | a, b => R.when (SeqAt.shaped a && SeqAt.shaped b && alk c a b) (.ok (.bool (cmpV c a b)))
theorem v_cmp {K : PySem.W.Frag} (c : Cop) : Op2 K (rCmpD c K) (gCmp c) := fun x y H Z a b d Q hz r1 r2 h hq => by
  unfold gCmp at h
  split at h
  · cases h
    exact ⟨_, _, r1.dp hz rfl, r2.dp hz rfl, rfl, rfl, by cases c <;> rfl, hq _ _ _ (Gr.refl hz) (.bl _)⟩
  · obtain ⟨h1, h2⟩ := R.of_when h
    cases h2
    rw [Bool.and_eq_true, Bool.and_eq_true] at h1
    obtain ⟨⟨e1, e2⟩, e3⟩ := h1
    exact ⟨_, _, r1.dp hz (SeqAt.canLay_of_shaped e1), r2.dp hz (SeqAt.canLay_of_shaped e2), e1, e2, e3, hq _ _ _ (Gr.refl hz) (.bl _)⟩
end Dz

set_option maxRecDepth 100000
set_option maxHeartbeats 2000000
namespace Dz
open PySem PySem.Spec PyProof.Rows L2
/-! ## truth -/
def gTru : D → R Bool
  | .none => .ok false
  | .bool b => .ok b
  | .int i => .ok (i != 0)
  | .str z => R.when (decide (z.length ≤ sizeLine)) (.ok ((z.length : Int) != 0))
  | .list ds => .ok (!ds.isEmpty)
  | .tuple ds => .ok (!ds.isEmpty)
  | .dict _ => .no
def cTru (f : PF) : Env → R Bool := fun env => (f env).bind gTru
theorem reps_empty {K : PySem.W.Frag} {Z : Hp} {vs : List V} {ds : List D} (r : Reps K Z vs ds) : vs.isEmpty = ds.isEmpty := by
  cases r <;> rfl
theorem dt_tru {X : Cx} {us : List Nat} {a : Expr} {f : PF} (h : DP X us a f) (he : ∀ whole, isTrue a X.env whole = (do let v ← whole; standAt a.pos; holding [v] (truthy v)) := by intro _; rfl) : DT X us a (cTru f) := by
  obtain ⟨t, h1, h2⟩ := h.ex
  refine ⟨_, pt_truth h1 he, fun σ H Z env c Q hz he hf hq => ?_⟩
  obtain ⟨d, e1, e2⟩ := R.of_bind hf
  refine h2 σ H Z env d _ hz he e1 fun v Z1 H1 g r => ?_
  refine ⟨c, ?_, hq _ _ g⟩
  unfold gTru at e2
  split at e2
  · cases e2; cases r; rfl
  · cases e2; cases r; rfl
  · cases e2; cases r; rfl
  · obtain ⟨h1, h3⟩ := R.of_when e2
    cases h3; cases r; exact ⟨of_decide_eq_true h1, rfl⟩
  · cases e2
    cases r with
    | lst t q => exact .inl ⟨_, .inl (.inl (g.zh _ _ t)), by rw [reps_empty q]⟩
  · cases e2
    cases r with
    | tup t q => exact .inr (.inl ⟨_, same_seqT g.zh t, by rw [reps_empty q]⟩)
  · cases e2
/-! ## lists or tuples, walked -/
theorem pi_or {X : Cx} {tg e : Expr} {w1 w2 : TI} (h1 : PI X tg e w1) (h2 : PI X tg e w2) : PI X tg e (fun σ H R => w1 σ H R ∨ w2 σ H R) := ⟨fun pins s σ H R I h => by
  rcases h with h | h
  · exact h1.run pins s σ H R I h
  · exact h2.run pins s σ H R I h⟩
def cItX (f : PF) : IF := fun env => (f env).bind itemsOf
theorem di_any {X : Cx} {us : List Nat} {tg e : Expr} {f : PF} (h : DP X us e f) : DI X us tg e (cItX f) := by
  obtain ⟨t, h1, h2⟩ := h.ex
  refine ⟨_, pi_or (pi_list h1) (pi_tup h1), fun σ H Z env ds Q hz he hf hq => ?_⟩
  obtain ⟨d, e1, e2⟩ := R.of_bind hf
  unfold itemsOf at e2
  split at e2
  · cases e2
    refine .inl (h2 σ H Z env _ _ hz he e1 fun v Z1 H1 g r => ?_)
    cases r with
    | lst t q => exact ⟨_, rfl, ⟨_, .inl (.inl (g.zh _ _ t))⟩, hq _ Z1 H1 g (itok_list t q)⟩
  · cases e2
    refine .inr (h2 σ H Z env _ _ hz he e1 fun v Z1 H1 g r => ?_)
    cases r with
    | tup t q => exact ⟨_, rfl, ⟨_, same_seqT g.zh t⟩, hq _ Z1 H1 g (itok_tup t q)⟩
  · cases e2
/-! ## in -/
def elemD (d : D) (ds : List D) : Bool := ds.any fun z => PyData.eqv z d
def gInS (neg : Bool) (a : D) : D → R D
  | .list ds => R.when (SeqAt.shaped a && SeqAt.shaped (.list ds)) (.ok (.bool (if neg = true then !elemD a ds else elemD a ds)))
  | .tuple ds => R.when (SeqAt.shaped a && SeqAt.shaped (.tuple ds)) (.ok (.bool (if neg = true then !elemD a ds else elemD a ds)))
  | _ => .no
def rInS (K : PySem.W.Frag) (neg : Bool) : R2 := fun x y H Q => ∃ d e ds, Dp K H x d ∧ Dp K H y e ∧ (e = .list ds ∨ e = .tuple ds) ∧ SeqAt.shaped d = true ∧ SeqAt.shaped e = true ∧ Q (.bl (if neg = true then !elemD d ds else elemD d ds)) H
theorem op_inS {X : Cx} {k : Nat} (hr : RmG k X.A) : OpR X (compareOp .In) (rInS X.K false) := by
  intro pins s σ H x y v u Q I rx ry h
  obtain ⟨d, e, ds, hd, he, hor, sd, se, q⟩ := h
  obtain ⟨as, r1⟩ := Dp.reads I d x v hd rx
  obtain ⟨bs, r2⟩ := Dp.reads I e y u he ry
  have hu : X.A.units + 65 < cLine := by have := hr.un; omega
  rcases hor with rfl | rfl
  · exact SeqAt.in_list_reads r2 r1 (SeqAt.canLay_of_shaped se) (SeqAt.canLay_of_shaped sd) (room_in_shaped sd hu) ⟨.bl _, H, I, rfl, q⟩
  · exact SeqAt.in_tuple_reads r2 r1 (SeqAt.canLay_of_shaped se) (SeqAt.canLay_of_shaped sd) (room_in_shaped sd hu) ⟨.bl _, H, I, rfl, q⟩
theorem op_notInS {X : Cx} {k : Nat} (hr : RmG k X.A) : OpR X (compareOp .NotIn) (rInS X.K true) := by
  intro pins s σ H x y v u Q I rx ry h
  obtain ⟨d, e, ds, hd, he, hor, sd, se, q⟩ := h
  obtain ⟨as, r1⟩ := Dp.reads I d x v hd rx
  obtain ⟨bs, r2⟩ := Dp.reads I e y u he ry
  have hu : X.A.units + 65 < cLine := by have := hr.un; omega
  rcases hor with rfl | rfl
  · exact SeqAt.notIn_list_reads r2 r1 (SeqAt.canLay_of_shaped se) (SeqAt.canLay_of_shaped sd) (room_in_shaped sd hu) ⟨.bl _, H, I, rfl, q⟩
  · exact SeqAt.notIn_tuple_reads r2 r1 (SeqAt.canLay_of_shaped se) (SeqAt.canLay_of_shaped sd) (room_in_shaped sd hu) ⟨.bl _, H, I, rfl, q⟩
theorem v_inS {K : PySem.W.Frag} (neg : Bool) : Op2 K (rInS K neg) (gInS neg) := fun x y H Z a b d Q hz r1 r2 h hq => by
  unfold gInS at h
  split at h
  · obtain ⟨h1, h2⟩ := R.of_when h
    cases h2
    rw [Bool.and_eq_true] at h1
    exact ⟨a, _, _, r1.dp hz (SeqAt.canLay_of_shaped h1.1), r2.dp hz (SeqAt.canLay_of_shaped h1.2), .inl rfl, h1.1, h1.2, hq _ _ _ (Gr.refl hz) (.bl _)⟩
  · obtain ⟨h1, h2⟩ := R.of_when h
    cases h2
    rw [Bool.and_eq_true] at h1
    exact ⟨a, _, _, r1.dp hz (SeqAt.canLay_of_shaped h1.1), r2.dp hz (SeqAt.canLay_of_shaped h1.2), .inr rfl, h1.1, h1.2, hq _ _ _ (Gr.refl hz) (.bl _)⟩
  · cases h
/-! ## max, min, sum of tuples too -/
section
variable {prog : Program} {w : World} {A : Around} {E : Value → Shared → Prop} {s : Shared} {l : Addr} {xs : Array (Int × Tok)}
theorem iterTup {Q : Value → Shared → Prop} (hl : s.heap.IsTuple l (intItems xs))
    (h : ∀ s2 : Shared, s2 = { s with heap := s.heap.push { cls := .type "tuple_iterator", data := .fields #[.ref l, .int 0 0] } } →
      (s2.heap.IsTupleIter s.heap.objs.size l 0 ∧ s2.heap.IsTuple l (intItems xs)) → (∀ b ∈ [s.heap.objs.size, l], b < s2.heap.objs.size) → l ≠ s.heap.objs.size → (∀ b o, s.heap.get? b = some o → s2.heap.get? b = some o) → Q (.ref s.heap.objs.size) s2) :
    wpAny (model prog w) A (pyIter (.ref l)) Q E s := by
  have hlt : l < s.heap.objs.size := by obtain ⟨_, e, _⟩ := hl; exact Heap.lt_size e
  refine wpAny_pyIter_tuple hl (h _ rfl ⟨⟨_, Heap.get?_push_size _ rfl, rfl, rfl⟩, hl.push _⟩ (fun b hb => ?_) (Nat.ne_of_lt hlt) fun b o e => Heap.get?_push_of_some _ e)
  show b < (s.heap.push _).objs.size
  rw [Heap.size_push]
  rcases List.mem_cons.mp hb with rfl | hb
  · exact Nat.lt_succ_self _
  · rcases List.mem_cons.mp hb with rfl | hb
    · exact Nat.lt_succ_of_lt hlt
    · cases hb
theorem tupKept {h' : Heap} (hk : ∀ b o, b ∉ [s.heap.objs.size] → (s.heap.push { cls := .type "tuple_iterator", data := .fields #[.ref l, .int 0 0] }).get? b = some o → h'.get? b = some o) : ∀ b o, s.heap.get? b = some o → h'.get? b = some o := fun b o e =>
  hk b o (fun hm => by
    have : b = s.heap.objs.size := by simpa using hm
    subst this
    exact absurd (Heap.lt_size e) (Nat.lt_irrefl _)) (Heap.get?_push_of_some _ e)
theorem maxTup {Q : Value → Shared → Prop} (hh : A.handled = none) (hl : s.heap.IsTuple l (intItems xs)) (hne : 0 < xs.size)
    (h : ∀ v h' tk, (intItems xs)[argBest (fun i j => decide (numAt xs i > numAt xs j)) (xs.size - 1)]? = some v → (∀ b o, s.heap.get? b = some o → h'.get? b = some o) → Q v { s with heap := h', toks := tk }) :
    wpAny (model prog w) A (call (.builtin "max") [.ref l]) Q E s := by
  refine call_max_walk (iterTup hl fun s2 e st hfp hlI hks => ?_)
  subst e
  exact ⟨_, _, _, _, _, _, _, rfl, Walks.tuple (A := A.in1) hh _ l hlI (intItems xs), st, hfp, by simpa [intItems] using hne, CmpOf.ints_gt (numAt xs) (fun _ _ => intItems_at), fun v h' tk hP hk => h v h' tk (by simpa [intItems] using hP) (tupKept hk)⟩
theorem minTup {Q : Value → Shared → Prop} (hh : A.handled = none) (hl : s.heap.IsTuple l (intItems xs)) (hne : 0 < xs.size)
    (h : ∀ v h' tk, (intItems xs)[argBest (fun i j => decide (numAt xs i < numAt xs j)) (xs.size - 1)]? = some v → (∀ b o, s.heap.get? b = some o → h'.get? b = some o) → Q v { s with heap := h', toks := tk }) :
    wpAny (model prog w) A (call (.builtin "min") [.ref l]) Q E s := by
  refine call_min_walk (iterTup hl fun s2 e st hfp hlI hks => ?_)
  subst e
  exact ⟨_, _, _, _, _, _, _, rfl, Walks.tuple (A := A.in1) hh _ l hlI (intItems xs), st, hfp, by simpa [intItems] using hne, CmpOf.ints_lt (numAt xs) (fun _ _ => intItems_at), fun v h' tk hP hk => h v h' tk (by simpa [intItems] using hP) (tupKept hk)⟩
theorem sumTup {Q : Value → Shared → Prop} (hh : A.handled = none) (hl : s.heap.IsTuple l (intItems xs))
    (h : ∀ h' tk t', (∀ b o, s.heap.get? b = some o → h'.get? b = some o) → Q (.int (preSum (numAt xs) xs.size) t') { s with heap := h', toks := tk }) :
    wpAny (model prog w) A (call (.builtin "sum") [.ref l]) Q E s := by
  refine call_sum_walkG (iterTup hl fun s2 e st hfp hlI hks => ?_)
  subst e
  refine ⟨_, _, _, _, _, _, numAt xs, rfl, Walks.tuple (A := A.in1) hh _ l hlI (intItems xs), st, hfp, (fun _ _ => intItems_at), fun h' tk t' hk => ?_⟩
  simpa [intItems] using h h' tk t' (tupKept hk)
end
section
variable {X : Cx}
def rMaxT (K : PySem.W.Frag) : List V → Hp → VK → Prop := fun vs H Q => ∃ (a : Addr) (ns : List Int), vs = [V.ref a] ∧ SqT K H a (ns.map V.int) ∧ 0 < ns.length ∧ ∀ m, m ∈ ns → (∀ y, y ∈ ns → y ≤ m) → Q (.int m) H
def rMinT (K : PySem.W.Frag) : List V → Hp → VK → Prop := fun vs H Q => ∃ (a : Addr) (ns : List Int), vs = [V.ref a] ∧ SqT K H a (ns.map V.int) ∧ 0 < ns.length ∧ ∀ m, m ∈ ns → (∀ y, y ∈ ns → m ≤ y) → Q (.int m) H
def rSumT (K : PySem.W.Frag) : List V → Hp → VK → Prop := fun vs H Q => ∃ (a : Addr) (ns : List Int), vs = [V.ref a] ∧ SqT K H a (ns.map V.int) ∧ Q (.int ns.sum) H
theorem cr_maxT (hc : X.calm = true) : CallR X (.builtin "max") (rMaxT X.K) := by
  intro pins s σ H vs us Q I r h
  obtain ⟨a, ns, rfl, hs, hne, q⟩ := h
  obtain ⟨its, rv, hl, _⟩ := I.tuple hs
  rw [Vals.ref1 r]
  have hi := rv.ints
  obtain ⟨xs, e⟩ := hi.allInts.items
  have hn : numsOf (intItems xs).toList = ns := by rw [← e]; exact hi.numsOf
  rw [nums_intItems] at hn
  subst hn
  rw [e] at hl
  refine maxTup (I.ok.hd hc) hl (by simpa using hne) fun v h' tk hv hk => ?_
  obtain ⟨t, rfl⟩ := intItems_at hv
  obtain ⟨h1, h2⟩ := argBest_gt (numAt xs) (xs.size - 1)
  have hsz : 0 < xs.size := by simpa using hne
  refine ⟨.int _, H, I.kept hk, ⟨_, rfl⟩, q _ ?_ fun y hy => ?_⟩
  · rw [numAt_eq]; exact PySem.getD_mem (by rw [List.length_map, Array.length_toList]; omega)
  · obtain ⟨j, hj, rfl⟩ := mem_getD hy
    rw [List.length_map, Array.length_toList] at hj
    rw [← numAt_eq]; exact h2 j (by omega)
theorem cr_minT (hc : X.calm = true) : CallR X (.builtin "min") (rMinT X.K) := by
  intro pins s σ H vs us Q I r h
  obtain ⟨a, ns, rfl, hs, hne, q⟩ := h
  obtain ⟨its, rv, hl, _⟩ := I.tuple hs
  rw [Vals.ref1 r]
  have hi := rv.ints
  obtain ⟨xs, e⟩ := hi.allInts.items
  have hn : numsOf (intItems xs).toList = ns := by rw [← e]; exact hi.numsOf
  rw [nums_intItems] at hn
  subst hn
  rw [e] at hl
  refine minTup (I.ok.hd hc) hl (by simpa using hne) fun v h' tk hv hk => ?_
  obtain ⟨t, rfl⟩ := intItems_at hv
  obtain ⟨h1, h2⟩ := argBest_lt (numAt xs) (xs.size - 1)
  have hsz : 0 < xs.size := by simpa using hne
  refine ⟨.int _, H, I.kept hk, ⟨_, rfl⟩, q _ ?_ fun y hy => ?_⟩
  · rw [numAt_eq]; exact PySem.getD_mem (by rw [List.length_map, Array.length_toList]; omega)
  · obtain ⟨j, hj, rfl⟩ := mem_getD hy
    rw [List.length_map, Array.length_toList] at hj
    rw [← numAt_eq]; exact h2 j (by omega)
theorem cr_sumT (hc : X.calm = true) : CallR X (.builtin "sum") (rSumT X.K) := by
  intro pins s σ H vs us Q I r h
  obtain ⟨a, ns, rfl, hs, q⟩ := h
  obtain ⟨its, rv, hl, _⟩ := I.tuple hs
  rw [Vals.ref1 r]
  have hi := rv.ints
  obtain ⟨xs, e⟩ := hi.allInts.items
  have hn : numsOf (intItems xs).toList = ns := by rw [← e]; exact hi.numsOf
  rw [nums_intItems] at hn
  rw [e] at hl
  refine sumTup (I.ok.hd hc) hl fun h' tk t' hk => ?_
  rw [preSum_eq, List.take_of_length_le (by simp), hn]
  exact ⟨.int _, H, I.kept hk, ⟨_, rfl⟩, q⟩
theorem call_max3 (hc : X.calm = true) : CallR X (.builtin "max") (fun xs H Q => ∃ i j k : Int, xs = [.int i, .int j, .int k] ∧ Q (.int (max i (max j k))) H) := by
  intro pins s σ H vs us Q I r h
  obtain ⟨i, j, k, rfl, q⟩ := h
  cases r with
  | cons r1 r => cases r with
    | cons r2 r => cases r with
      | cons r3 r =>
        cases r
        obtain ⟨t, rfl⟩ := r1
        obtain ⟨u, rfl⟩ := r2
        obtain ⟨x, rfl⟩ := r3
        refine max_three_ints (I.ok.hd hc) fun h' tk hk => ?_
        have fin : ∀ {z : Int} {y : Tok}, max i (max j k) = z → EP X pins σ Q (.int z y) { s with heap := h', toks := tk } := fun {z y} e => ⟨.int z, H, I.kept hk, ⟨y, rfl⟩, by rw [← e]; exact q⟩
        split
        · split
          · exact fin (by omega)
          · exact fin (by omega)
        · split
          · exact fin (by omega)
          · exact fin (by omega)
theorem call_min3 (hc : X.calm = true) : CallR X (.builtin "min") (fun xs H Q => ∃ i j k : Int, xs = [.int i, .int j, .int k] ∧ Q (.int (min i (min j k))) H) := by
  intro pins s σ H vs us Q I r h
  obtain ⟨i, j, k, rfl, q⟩ := h
  cases r with
  | cons r1 r => cases r with
    | cons r2 r => cases r with
      | cons r3 r =>
        cases r
        obtain ⟨t, rfl⟩ := r1
        obtain ⟨u, rfl⟩ := r2
        obtain ⟨x, rfl⟩ := r3
        refine min_three_ints (I.ok.hd hc) fun h' tk hk => ?_
        have fin : ∀ {z : Int} {y : Tok}, min i (min j k) = z → EP X pins σ Q (.int z y) { s with heap := h', toks := tk } := fun {z y} e => ⟨.int z, H, I.kept hk, ⟨y, rfl⟩, by rw [← e]; exact q⟩
        split
        · split
          · exact fin (by omega)
          · exact fin (by omega)
        · split
          · exact fin (by omega)
          · exact fin (by omega)
def rMaxX (K : PySem.W.Frag) : List V → Hp → VK → Prop := fun xs H Q => rMax K xs H Q ∨ rMaxT K xs H Q
def rMinX (K : PySem.W.Frag) : List V → Hp → VK → Prop := fun xs H Q => rMin K xs H Q ∨ rMinT K xs H Q
def rSumX (K : PySem.W.Frag) : List V → Hp → VK → Prop := fun xs H Q => rSum K xs H Q ∨ rSumT K xs H Q
theorem call_maxX (hc : X.calm = true) : CallR X (.builtin "max") (rMaxX X.K) := (cr_max hc).or (cr_maxT hc)
theorem call_minX (hc : X.calm = true) : CallR X (.builtin "min") (rMinX X.K) := (cr_min hc).or (cr_minT hc)
theorem call_sumX (hc : X.calm = true) : CallR X (.builtin "sum") (rSumX X.K) := (cr_sum hc).or (cr_sumT hc)
end
/-- the whole numbers of a list or tuple -/
def intsIn : List D → Option (List Int)
  | [.list ds] => intsOf ds
  | [.tuple ds] => intsOf ds
  | _ => none
def gMax (as : List D) : R D := match intsIn as with
  | some ns => R.when (decide (ns ≠ [])) (.ok (.int (maxI ns)))
  | none => .no
def gMin (as : List D) : R D := match intsIn as with
  | some ns => R.when (decide (ns ≠ [])) (.ok (.int (minI ns)))
  | none => .no
def gSumX (as : List D) : R D := match intsIn as with
  | some ns => .ok (.int ns.sum)
  | none => .no
def gMax3 : List D → R D
  | [.int i, .int j, .int k] => .ok (.int (max i (max j k)))
  | _ => .no
def gMin3 : List D → R D
  | [.int i, .int j, .int k] => .ok (.int (min i (min j k)))
  | _ => .no
section
variable {K : PySem.W.Frag}
theorem intsIn_some {as : List D} {ns : List Int} {H Z : Hp} {xs : List V} (hz : Same Z H) (r : Reps K Z xs as) (h : intsIn as = some ns) :
    ∃ a, xs = [V.ref a] ∧ (SqL K H a (ns.map V.int) ∨ SqT K H a (ns.map V.int)) := by
  unfold intsIn at h
  split at h
  · have := intsOf_some h
    subst this
    cases r with
    | cons r t =>
      cases t
      cases r with
      | lst tt q =>
        obtain rfl := q.ints
        exact ⟨_, rfl, .inl (.inl (.inl (hz _ _ tt)))⟩
  · have := intsOf_some h
    subst this
    cases r with
    | cons r t =>
      cases t
      cases r with
      | tup tt q =>
        obtain rfl := q.ints
        exact ⟨_, rfl, .inr (same_seqT hz tt)⟩
  · cases h
theorem v_max : OpN K (rMaxX K) gMax := fun xs H Z as c Q hz r h hq => by
  unfold gMax at h
  split at h
  · rename_i ns he
    obtain ⟨h1, h2⟩ := R.of_when h
    cases h2
    have hne := of_decide_eq_true h1
    obtain ⟨m1, m2⟩ := maxI_mem hne
    have fin : ∀ m, m ∈ ns → (∀ y, y ∈ ns → y ≤ m) → Q (.int m) H := fun m h1 h2 => by
      have : m = maxI ns := Int.le_antisymm (m2 m h1) (h2 _ m1)
      subst this
      exact hq _ _ _ (Gr.refl hz) (.int _)
    obtain ⟨a, rfl, ha | ha⟩ := intsIn_some hz r he
    · exact .inl ⟨a, ns, rfl, ha, List.length_pos_iff.mpr hne, fin⟩
    · exact .inr ⟨a, ns, rfl, ha, List.length_pos_iff.mpr hne, fin⟩
  · cases h
theorem v_min : OpN K (rMinX K) gMin := fun xs H Z as c Q hz r h hq => by
  unfold gMin at h
  split at h
  · rename_i ns he
    obtain ⟨h1, h2⟩ := R.of_when h
    cases h2
    have hne := of_decide_eq_true h1
    obtain ⟨m1, m2⟩ := minI_mem hne
    have fin : ∀ m, m ∈ ns → (∀ y, y ∈ ns → m ≤ y) → Q (.int m) H := fun m h1 h2 => by
      have : m = minI ns := Int.le_antisymm (h2 _ m1) (m2 m h1)
      subst this
      exact hq _ _ _ (Gr.refl hz) (.int _)
    obtain ⟨a, rfl, ha | ha⟩ := intsIn_some hz r he
    · exact .inl ⟨a, ns, rfl, ha, List.length_pos_iff.mpr hne, fin⟩
    · exact .inr ⟨a, ns, rfl, ha, List.length_pos_iff.mpr hne, fin⟩
  · cases h
theorem v_sumX : OpN K (rSumX K) gSumX := fun xs H Z as c Q hz r h hq => by
  unfold gSumX at h
  split at h
  · rename_i ns he
    cases h
    obtain ⟨a, rfl, ha | ha⟩ := intsIn_some hz r he
    · exact .inl ⟨a, ns, rfl, ha, hq _ _ _ (Gr.refl hz) (.int _)⟩
    · exact .inr ⟨a, ns, rfl, ha, hq _ _ _ (Gr.refl hz) (.int _)⟩
  · cases h
theorem v_max3 : OpN K (fun xs H Q => ∃ i j k : Int, xs = [.int i, .int j, .int k] ∧ Q (.int (max i (max j k))) H) gMax3 := fun xs H Z as c Q hz r h hq => by
  unfold gMax3 at h
  split at h
  · cases h
    cases r with
    | cons r1 r => cases r with
      | cons r2 r => cases r with
        | cons r3 r =>
          cases r
          cases r1
          cases r2
          cases r3
          exact ⟨_, _, _, rfl, hq _ _ _ (Gr.refl hz) (.int _)⟩
  · cases h
theorem v_min3 : OpN K (fun xs H Q => ∃ i j k : Int, xs = [.int i, .int j, .int k] ∧ Q (.int (min i (min j k))) H) gMin3 := fun xs H Z as c Q hz r h hq => by
  unfold gMin3 at h
  split at h
  · cases h
    cases r with
    | cons r1 r => cases r with
      | cons r2 r => cases r with
        | cons r3 r =>
          cases r
          cases r1
          cases r2
          cases r3
          exact ⟨_, _, _, rfl, hq _ _ _ (Gr.refl hz) (.int _)⟩
  · cases h
end
end Dz

set_option maxRecDepth 100000
set_option maxHeartbeats 2000000
namespace Dz
open PySem PySem.Spec PyProof.Rows L2
/-! ## expressions that change what a def owns -/
abbrev EF := Env → R (D × Env)
def ESem (K : PySem.W.Frag) (C : Cf) (t : TE) (f : EF) : Prop :=
  ∀ (σ : L2.St) (Z0 B Z H : Hp) (env : Env) (fps : Nat → List Addr) (d : D) (env' : Env) (Q : VK), EnvOk K C Z0 B Z H σ env fps → f env = .ok (d, env') →
    (∀ v Z' H' fps', EnvOk K C Z0 B Z' H' σ env' fps' → Same Z Z' → Rep K Z' v d → Q v H') → t σ H Q
def semE (K : PySem.W.Frag) (C : Cf) (f : EF) : TE := fun σ H Q => ∃ Z0 B Z env fps d env', EnvOk K C Z0 B Z H σ env fps ∧ f env = .ok (d, env') ∧
    ∀ v Z' H' fps', EnvOk K C Z0 B Z' H' σ env' fps' → Same Z Z' → Rep K Z' v d → Q v H'
structure DE (X : Cx) (C : Cf) (e : Expr) (f : EF) : Prop where
  ex : ∃ t, PE X e t ∧ ESem X.K C t f
theorem DE.can {X : Cx} {C : Cf} {e : Expr} {f : EF} (h : DE X C e f) : PE X e (semE X.K C f) := by
  obtain ⟨t, h1, h2⟩ := h.ex
  refine ⟨fun pins s σ H Q I hw => ?_⟩
  obtain ⟨Z0, B, Z, env, fps, d, env', a, b, q⟩ := hw
  exact h1.run pins s σ H Q I (h2 σ Z0 B Z H env fps d env' Q a b q)
/-- tests -/
abbrev ETF := Env → R (Bool × Env)
def ETSem (K : PySem.W.Frag) (C : Cf) (t : TT) (f : ETF) : Prop :=
  ∀ (σ : L2.St) (Z0 B Z H : Hp) (env : Env) (fps : Nat → List Addr) (c : Bool) (env' : Env) (Q : Bool → Hp → Prop), EnvOk K C Z0 B Z H σ env fps → f env = .ok (c, env') →
    (∀ Z' H' fps', EnvOk K C Z0 B Z' H' σ env' fps' → Same Z Z' → Q c H') → t σ H Q
def semET (K : PySem.W.Frag) (C : Cf) (f : ETF) : TT := fun σ H Q => ∃ Z0 B Z env fps c env', EnvOk K C Z0 B Z H σ env fps ∧ f env = .ok (c, env') ∧
    ∀ Z' H' fps', EnvOk K C Z0 B Z' H' σ env' fps' → Same Z Z' → Q c H'
structure DET (X : Cx) (C : Cf) (e : Expr) (f : ETF) : Prop where
  ex : ∃ t, PT X e t ∧ ETSem X.K C t f
theorem DET.can {X : Cx} {C : Cf} {e : Expr} {f : ETF} (h : DET X C e f) : PT X e (semET X.K C f) := by
  obtain ⟨t, h1, h2⟩ := h.ex
  refine ⟨fun pins s σ H Q I hw => ?_⟩
  obtain ⟨Z0, B, Z, env, fps, d, env', a, b, q⟩ := hw
  exact h1.run pins s σ H Q I (h2 σ Z0 B Z H env fps d env' Q a b q)
structure DEW (X : Cx) (C : Cf) (e : Expr) (f : ETF) : Prop where
  ex : ∃ t, PW X e t ∧ ETSem X.K C t f
/-- argument lists -/
abbrev EAF := Env → R (List D × Env)
def EASem (K : PySem.W.Frag) (C : Cf) (t : TA) (f : EAF) : Prop :=
  ∀ (σ : L2.St) (Z0 B Z H : Hp) (env : Env) (fps : Nat → List Addr) (ds : List D) (env' : Env) (Q : List V → Hp → Prop), EnvOk K C Z0 B Z H σ env fps → f env = .ok (ds, env') →
    (∀ vs Z' H' fps', EnvOk K C Z0 B Z' H' σ env' fps' → Same Z Z' → Reps K Z' vs ds → Q vs H') → t σ H Q
structure DEA (X : Cx) (C : Cf) (es : List Expr) (f : EAF) : Prop where
  ex : ∃ t, PA X es t ∧ EASem X.K C t f
/-- a list of one's own -/
def EOSem (K : PySem.W.Frag) (C : Cf) (t : TE) (f : EAF) : Prop :=
  ∀ (σ : L2.St) (Z0 B Z H : Hp) (env : Env) (fps : Nat → List Addr) (ds : List D) (env' : Env) (Q : VK), EnvOk K C Z0 B Z H σ env fps → f env = .ok (ds, env') →
    (∀ p vs Z' H' fps', EnvOk K C Z0 B Z' H' σ env' fps' → Same Z Z' → B p = none → Z' p = none → (∀ j, p ∉ fps' j) → H' p = some (.lst vs) → Reps K Z' vs ds → Q (.ref p) H') → t σ H Q
structure DEO (X : Cx) (C : Cf) (e : Expr) (f : EAF) : Prop where
  ex : ∃ t, PE X e t ∧ EOSem X.K C t f
/-! ### the pure ones among them -/
def eP (f : PF) : EF := fun env => (f env).bind fun d => .ok (d, env)
def eT (f : Env → R Bool) : ETF := fun env => (f env).bind fun c => .ok (c, env)
def eO (f : Env → R (List D)) : EAF := fun env => (f env).bind fun ds => .ok (ds, env)
section
variable {X : Cx} {C : Cf} {e : Expr}
theorem DP.eff {f : PF} (h : DP X C.us e f) : DE X C e (eP f) := by
  obtain ⟨t, h1, h2⟩ := h.ex
  refine ⟨t, h1, fun σ Z0 B Z H env fps d env' Q I hf hq => ?_⟩
  obtain ⟨d0, e1, e2⟩ := R.of_bind hf
  cases e2
  exact h2 σ H Z env _ Q I.zh I.fz e1 fun v Z1 H1 g r => hq v Z1 H1 fps (I.grow g) g.zz r
theorem DT.eff {f : Env → R Bool} (h : DT X [] e f) : DET X C e (eT f) := by
  obtain ⟨t, h1, h2⟩ := h.ex
  refine ⟨t, h1, fun σ Z0 B Z H env fps c env' Q I hf hq => ?_⟩
  obtain ⟨d0, e1, e2⟩ := R.of_bind hf
  cases e2
  exact h2 σ H H env _ Q (Same.refl _) I.vis e1 fun Z1 H1 g => hq Z H1 fps (I.seen g) (Same.refl _)
theorem DO.eff {f : Env → R (List D)} (h : DO X C.us e f) : DEO X C e (eO f) := by
  obtain ⟨t, h1, h2⟩ := h.ex
  refine ⟨t, h1, fun σ Z0 B Z H env fps ds env' Q I hf hq => ?_⟩
  obtain ⟨d0, e1, e2⟩ := R.of_bind hf
  cases e2
  refine h2 σ H Z env _ Q I.zh I.fz e1 fun p vs Z1 H1 g np nz hp r => hq p vs Z1 H1 fps (I.grow g) g.zz (I.gr.hh.free np) nz (fun j hj => ?_) hp r
  obtain ⟨_, _, o, ho, _⟩ := I.fp j p hj
  rw [np] at ho; cases ho
/-- .. seen as still -/
def eList (f : EAF) : EF := fun env => (f env).bind fun r => .ok (.list r.1, r.2)
theorem EnvOk.still1 {K : PySem.W.Frag} {Z0 B Z H : Hp} {σ : L2.St} {env : Env} {fps : Nat → List Addr} {p : Addr} {o : HO} (I : EnvOk K C Z0 B Z H σ env fps) (nb : B p = none) (nz : Z p = none) (nf : ∀ j, p ∉ fps j) (hp : H p = some o) :
    EnvOk K C Z0 B (upd Z p o) H σ env fps where
  gr := I.gr.keep nb hp
  len := I.len
  frz := fun i d h1 h2 => by
    obtain ⟨v, a, b⟩ := I.frz i d h1 h2
    exact ⟨v, a, b.mono (same_upd nz)⟩
  own := fun i m hm d he => by
    obtain ⟨v, a, b⟩ := I.own i m hm d he
    exact ⟨v, a, m.frame b (same_upd nz) fun _ _ _ e => e⟩
  fp := fun i a ha => by
    obtain ⟨h1, h2, h3⟩ := I.fp i a ha
    exact ⟨h1, by rw [upd_ne (fun e => nf i (by rw [← e]; exact ha))]; exact h2, h3⟩
  dj := I.dj
  pin := I.pin
theorem DEO.eff {f : EAF} (h : DEO X C e f) : DE X C e (eList f) := by
  obtain ⟨t, h1, h2⟩ := h.ex
  refine ⟨t, h1, fun σ Z0 B Z H env fps d env' Q I hf hq => ?_⟩
  obtain ⟨⟨ds, env1⟩, e1, e2⟩ := R.of_bind hf
  cases e2
  refine h2 σ Z0 B Z H env fps ds env1 Q I e1 fun p vs Z1 H1 fps1 I1 sz nb nz nf hp r => ?_
  exact hq _ _ H1 fps1 (I1.still1 nb nz nf hp) (sz.trans (same_upd nz)) (.lst upd_same (r.mono (same_upd nz)))
end
/-! ### operators -/
def eBin (g : D → D → R D) (fa fb : EF) : EF := fun env => (fa env).bind fun a => (fb a.2).bind fun b => (g a.1 b.1).bind fun c => .ok (c, b.2)
def eUn (g : D → R D) (fa : EF) : EF := fun env => (fa env).bind fun a => (g a.1).bind fun c => .ok (c, a.2)
section
variable {X : Cx} {C : Cf} {a b e : Expr} {fa fb : EF} {pos : Pos}
theorem esem_op {K : PySem.W.Frag} {r : R2} {g : D → D → R D} {ta tb : TE} (hv : Op2 K r g) (ha : ESem K C ta fa) (hb : ESem K C tb fb) : ESem K C (tOp r ta tb) (eBin g fa fb) := fun σ Z0 B Z H env fps d env' Q I hf hq => by
  obtain ⟨⟨x, env1⟩, h1, h2⟩ := R.of_bind hf
  obtain ⟨⟨y, env2⟩, h3, h4⟩ := R.of_bind h2
  obtain ⟨z, h5, h6⟩ := R.of_bind h4
  cases h6
  refine ha σ Z0 B Z H env fps x env1 _ I h1 fun v Z1 H1 fps1 I1 s1 r1 => ?_
  refine hb σ Z0 B Z1 H1 env1 fps1 y env2 _ I1 h3 fun u Z2 H2 fps2 I2 s2 r2 => ?_
  exact hv v u H2 Z2 x y _ Q I2.zh (r1.mono s2) r2 h5 fun w Z3 H3 g3 r3 => hq w Z3 H3 fps2 (I2.grow g3) ((s1.trans s2).trans g3.zz) r3
theorem de_op {op : Operator} {r : R2} {g : D → D → R D} (ho : OpR X (binaryOp op) r) (hv : Op2 X.K r g) (ha : DE X C a fa) (hb : DE X C b fb) : DE X C (.BinOp a op b pos) (eBin g fa fb) := by
  obtain ⟨ta, h1, h2⟩ := ha.ex
  obtain ⟨tb, h3, h4⟩ := hb.ex
  exact ⟨_, pe_op ho h1 h3, esem_op hv h2 h4⟩
theorem de_cmp {op : CmpOp} {r : R2} {g : D → D → R D} (ho : OpR X (compareOp op) r) (hv : Op2 X.K r g) (ha : DE X C a fa) (hb : DE X C b fb) (hm : behindInMarks op b = false) : DE X C (.Compare a [op] [b] pos) (eBin g fa fb) := by
  obtain ⟨ta, h1, h2⟩ := ha.ex
  obtain ⟨tb, h3, h4⟩ := hb.ex
  exact ⟨_, pe_cmpR ho h1 h3 hm, esem_op hv h2 h4⟩
theorem de_ix (ha : DE X C a fa) (hb : DE X C b fb) (hs : PlainIx b := by exact fun _ _ => rfl) : DE X C (.Subscript a b pos) (eBin gIx fa fb) := by
  obtain ⟨ta, h1, h2⟩ := ha.ex
  obtain ⟨tb, h3, h4⟩ := hb.ex
  exact ⟨_, pe_ix ix_seq h1 h3 hs, esem_op v_ix h2 h4⟩
theorem de_neg (ha : DE X C a fa) : DE X C (.UnaryOp .USub a pos) (eUn gNeg fa) := by
  obtain ⟨t, h1, h2⟩ := ha.ex
  refine ⟨_, pe_un un_neg h1, fun σ Z0 B Z H env fps d env' Q I hf hq => ?_⟩
  obtain ⟨⟨x, env1⟩, e1, e2⟩ := R.of_bind hf
  obtain ⟨z, e3, e4⟩ := R.of_bind e2
  cases e4
  refine h2 σ Z0 B Z H env fps x env1 _ I e1 fun v Z1 H1 fps1 I1 s1 r1 => ?_
  exact v_neg v H1 Z1 x _ Q I1.zh r1 e3 fun w Z2 H2 g2 r2 => hq w Z2 H2 fps1 (I1.grow g2) (s1.trans g2.zz) r2
/-! ### tests -/
def eTst (f : EF) : ETF := fun env => (f env).bind fun a => (toB a.1).bind fun c => .ok (c, a.2)
theorem etsem_test {K : PySem.W.Frag} {t : TE} {f : EF} (h : ESem K C t f) : ETSem K C (tTest t) (eTst f) := fun σ Z0 B Z H env fps c env' Q I hf hq => by
  obtain ⟨⟨d, env1⟩, h1, h2⟩ := R.of_bind hf
  obtain ⟨k, h3, h4⟩ := R.of_bind h2
  cases h4
  have e := of_toB h3
  simp only at e
  subst e
  refine h σ Z0 B Z H env fps _ env1 _ I h1 fun v Z1 H1 fps1 I1 s1 r => ?_
  cases r
  exact ⟨_, rfl, hq _ _ _ I1 s1⟩
theorem det_cmp {op : CmpOp} {r : R2} {g : D → D → R D} (ho : OpR X (compareOp op) r) (hv : Op2 X.K r g) (ha : DE X C a fa) (hb : DE X C b fb) (hm : behindInMarks op b = false) : DET X C (.Compare a [op] [b] pos) (eTst (eBin g fa fb)) := by
  obtain ⟨ta, h1, h2⟩ := ha.ex
  obtain ⟨tb, h3, h4⟩ := hb.ex
  exact ⟨_, pt_cmpR ho h1 h3 hm, etsem_test (esem_op hv h2 h4)⟩
def eTru (f : EF) : ETF := fun env => (f env).bind fun a => (gTru a.1).bind fun c => .ok (c, a.2)
theorem tru_of {K : PySem.W.Frag} {Z H : Hp} {v : V} {d : D} {c : Bool} (r : Rep K Z v d) (hz : Same Z H) (h : gTru d = .ok c) : TruV K v H c := by
  unfold gTru at h
  split at h
  · cases h; cases r; rfl
  · cases h; cases r; rfl
  · cases h; cases r; rfl
  · obtain ⟨h1, h3⟩ := R.of_when h
    cases h3; cases r; exact ⟨of_decide_eq_true h1, rfl⟩
  · cases h
    cases r with
    | lst t q => exact .inl ⟨_, .inl (.inl (hz _ _ t)), by rw [reps_empty q]⟩
  · cases h
    cases r with
    | tup t q => exact .inr (.inl ⟨_, same_seqT hz t, by rw [reps_empty q]⟩)
  · cases h
theorem det_tru (h : DE X C a fa) (he : ∀ whole, isTrue a X.env whole = (do let v ← whole; standAt a.pos; holding [v] (truthy v)) := by intro _; rfl) : DET X C a (eTru fa) := by
  obtain ⟨t, h1, h2⟩ := h.ex
  refine ⟨_, pt_truth h1 he, fun σ Z0 B Z H env fps c env' Q I hf hq => ?_⟩
  obtain ⟨⟨d, env1⟩, e1, e2⟩ := R.of_bind hf
  obtain ⟨k, e3, e4⟩ := R.of_bind e2
  cases e4
  exact h2 σ Z0 B Z H env fps d env1 _ I e1 fun v Z1 H1 fps1 I1 s1 r => ⟨_, tru_of r I1.zh e3, hq _ _ _ I1 s1⟩
def eAnd (f g : ETF) : ETF := fun env => (f env).bind fun c => if c.1 = true then g c.2 else .ok (false, c.2)
def eOr (f g : ETF) : ETF := fun env => (f env).bind fun c => if c.1 = true then .ok (true, c.2) else g c.2
def eNot (f : ETF) : ETF := fun env => (f env).bind fun c => .ok (!c.1, c.2)
variable {fA fB : ETF} {rest : List Expr}
theorem etsem_and {K : PySem.W.Frag} {t u : TT} (h1 : ETSem K C t fA) (h2 : ETSem K C u fB) : ETSem K C (tAnd t u) (eAnd fA fB) := fun σ Z0 B Z H env fps c env' Q I hf hq => by
  obtain ⟨⟨k, env1⟩, e1, e2⟩ := R.of_bind hf
  refine h1 σ Z0 B Z H env fps k env1 _ I e1 fun Z1 H1 fps1 I1 s1 => ?_
  cases k with
  | true => exact h2 σ Z0 B Z1 H1 env1 fps1 c env' Q I1 e2 fun Z2 H2 fps2 I2 s2 => hq Z2 H2 fps2 I2 (s1.trans s2)
  | false => cases e2; exact hq Z1 H1 fps1 I1 s1
theorem etsem_or {K : PySem.W.Frag} {t u : TT} (h1 : ETSem K C t fA) (h2 : ETSem K C u fB) : ETSem K C (tOr t u) (eOr fA fB) := fun σ Z0 B Z H env fps c env' Q I hf hq => by
  obtain ⟨⟨k, env1⟩, e1, e2⟩ := R.of_bind hf
  refine h1 σ Z0 B Z H env fps k env1 _ I e1 fun Z1 H1 fps1 I1 s1 => ?_
  cases k with
  | false => exact h2 σ Z0 B Z1 H1 env1 fps1 c env' Q I1 e2 fun Z2 H2 fps2 I2 s2 => hq Z2 H2 fps2 I2 (s1.trans s2)
  | true => cases e2; exact hq Z1 H1 fps1 I1 s1
theorem DEW.t (h : DEW X C a fA) : DET X C a fA := by
  obtain ⟨t, h1, h2⟩ := h.ex
  exact ⟨t, h1.pt, h2⟩
theorem dew_and1 (h : DET X C a fA) : DEW X C (.BoolOp .And [a] pos) fA := by
  obtain ⟨t, h1, h2⟩ := h.ex
  exact ⟨t, pw_and1 h1, h2⟩
theorem dew_or1 (h : DET X C a fA) : DEW X C (.BoolOp .Or [a] pos) fA := by
  obtain ⟨t, h1, h2⟩ := h.ex
  exact ⟨t, pw_or1 h1, h2⟩
theorem dew_and (h : DET X C a fA) (h' : DEW X C (.BoolOp .And (b :: rest) pos) fB) : DEW X C (.BoolOp .And (a :: b :: rest) pos) (eAnd fA fB) := by
  obtain ⟨t, h1, h2⟩ := h.ex
  obtain ⟨u, h3, h4⟩ := h'.ex
  exact ⟨_, pw_and h1 h3, etsem_and h2 h4⟩
theorem dew_or (h : DET X C a fA) (h' : DEW X C (.BoolOp .Or (b :: rest) pos) fB) : DEW X C (.BoolOp .Or (a :: b :: rest) pos) (eOr fA fB) := by
  obtain ⟨t, h1, h2⟩ := h.ex
  obtain ⟨u, h3, h4⟩ := h'.ex
  exact ⟨_, pw_or h1 h3, etsem_or h2 h4⟩
theorem det_not (h : DET X C a fA) : DET X C (.UnaryOp .Not a pos) (eNot fA) := by
  obtain ⟨t, h1, h2⟩ := h.ex
  refine ⟨_, pt_not h1, fun σ Z0 B Z H env fps c env' Q I hf hq => ?_⟩
  obtain ⟨⟨k, env1⟩, e1, e2⟩ := R.of_bind hf
  cases e2
  exact h2 σ Z0 B Z H env fps k env1 _ I e1 fun Z1 H1 fps1 I1 s1 => hq Z1 H1 fps1 I1 s1
def eIf (c : ETF) (f g : EF) : EF := fun env => (c env).bind fun k => if k.1 = true then f k.2 else g k.2
theorem de_if {c : Expr} (hc : DET X C c fA) (ha : DE X C a fa) (hb : DE X C b fb) : DE X C (.IfExp c a b pos) (eIf fA fa fb) := by
  obtain ⟨t, h1, h2⟩ := hc.ex
  obtain ⟨u, h3, h4⟩ := ha.ex
  obtain ⟨w, h5, h6⟩ := hb.ex
  refine ⟨_, pe_ifExp h1 h3 h5, fun σ Z0 B Z H env fps d env' Q I hf hq => ?_⟩
  obtain ⟨⟨k, env1⟩, e1, e2⟩ := R.of_bind hf
  refine h2 σ Z0 B Z H env fps k env1 _ I e1 fun Z1 H1 fps1 I1 s1 => ?_
  cases k with
  | true => exact h4 σ Z0 B Z1 H1 env1 fps1 d env' Q I1 e2 fun v Z2 H2 fps2 I2 s2 r => hq v Z2 H2 fps2 I2 (s1.trans s2) r
  | false => exact h6 σ Z0 B Z1 H1 env1 fps1 d env' Q I1 e2 fun v Z2 H2 fps2 I2 s2 r => hq v Z2 H2 fps2 I2 (s1.trans s2) r
end
/-! ### argument lists, displays, calls -/
def eaNil : EAF := fun env => .ok ([], env)
def eaCons (f : EF) (g : EAF) : EAF := fun env => (f env).bind fun d => (g d.2).bind fun ds => .ok (d.1 :: ds.1, ds.2)
section
variable {X : Cx} {C : Cf} {e : Expr} {es : List Expr} {f : EF} {g : EAF} {pos p : Pos} {x : Str}
theorem dea_nil : DEA X C [] eaNil := ⟨_, pa_nil, fun σ Z0 B Z H env fps ds env' Q I hf hq => by cases hf; exact hq _ _ _ _ I (Same.refl _) .nil⟩
theorem dea_cons (h : DE X C e f) (h' : DEA X C es g) (hs : starEach (e :: es) X.env = (false, eval e X.env) :: starEach es X.env := by rfl) : DEA X C (e :: es) (eaCons f g) := by
  obtain ⟨t, h1, h2⟩ := h.ex
  obtain ⟨u, h3, h4⟩ := h'.ex
  refine ⟨_, pa_cons h1 h3 hs, fun σ Z0 B Z H env fps ds env' Q I hf hq => ?_⟩
  obtain ⟨⟨d, env1⟩, e1, e2⟩ := R.of_bind hf
  obtain ⟨⟨ds', env2⟩, e3, e4⟩ := R.of_bind e2
  cases e4
  refine h2 σ Z0 B Z H env fps d env1 _ I e1 fun v Z1 H1 fps1 I1 s1 r1 => ?_
  exact h4 σ Z0 B Z1 H1 env1 fps1 ds' env2 _ I1 e3 fun vs Z2 H2 fps2 I2 s2 r2 => hq _ Z2 H2 fps2 I2 (s1.trans s2) (.cons (r1.mono s2) r2)
def eTup (f : EAF) : EF := fun env => (f env).bind fun ds => R.when (decide (ds.1.length ≤ sizeLine)) (.ok (.tuple ds.1, ds.2))
theorem de_tup {x1} (h : DEA X C es g) : DE X C (.Tuple es x1 pos) (eTup g) := by
  obtain ⟨u, h3, h4⟩ := h.ex
  refine ⟨_, pe_tup h3, fun σ Z0 B Z H env fps d env' Q I hf hq => ?_⟩
  obtain ⟨⟨ds, env1⟩, e1, e2⟩ := R.of_bind hf
  obtain ⟨e3, e4⟩ := R.of_when e2
  cases e4
  refine h4 σ Z0 B Z H env fps ds env1 _ I e1 fun vs Z1 H1 fps1 I1 s1 r1 => ⟨by rw [r1.length]; exact of_decide_eq_true e3, fun p np => ?_⟩
  have g := Gr.new (o := .tup vs) I1.zh np
  exact hq _ _ _ fps1 (I1.grow g) (s1.trans g.zz) (.tup (.inl upd_same) (r1.mono g.zz))
def eLst (f : EAF) : EAF := fun env => (f env).bind fun ds => R.when (decide (ds.1.length ≤ sizeLine)) (.ok ds)
theorem deo_lst (h : DEA X C es g) : DEO X C (.List es pos) (eLst g) := by
  obtain ⟨u, h3, h4⟩ := h.ex
  refine ⟨_, pe_lst h3, fun σ Z0 B Z H env fps ds env' Q I hf hq => ?_⟩
  obtain ⟨⟨ds', env1⟩, e1, e2⟩ := R.of_bind hf
  obtain ⟨e3, e4⟩ := R.of_when e2
  cases e4
  refine h4 σ Z0 B Z H env fps ds env' _ I e1 fun vs Z1 H1 fps1 I1 s1 r1 => ⟨by rw [r1.length]; exact of_decide_eq_true e3, fun p np => ?_⟩
  have g := Gr.own (o := .lst vs) I1.zh np
  refine hq p vs Z1 _ fps1 (I1.grow g) s1 (I1.gr.hh.free np) (I1.zh.free np) (fun j hj => ?_) upd_same r1
  obtain ⟨_, _, o, ho, _⟩ := I1.fp j p hj
  rw [np] at ho; cases ho
def eCall (g : List D → R D) (fa : EAF) : EF := fun env => (fa env).bind fun a => (g a.1).bind fun d => .ok (d, a.2)
variable {fa : EAF} {gv : List D → R D} {r : List V → Hp → VK → Prop} {id T : String}
theorem esem_call {K : PySem.W.Frag} {t : TA} (hv : OpN K r gv) (ha : EASem K C t fa) : ESem K C (tCB r t) (eCall gv fa) := fun σ Z0 B Z H env fps d env' Q I hf hq => by
  obtain ⟨⟨ds, env1⟩, h1, h2⟩ := R.of_bind hf
  obtain ⟨z, h3, h4⟩ := R.of_bind h2
  cases h4
  refine ha σ Z0 B Z H env fps ds env1 _ I h1 fun vs Z1 H1 fps1 I1 s1 r1 => ?_
  exact hv vs H1 Z1 ds _ Q I1.zh r1 h3 fun v Z2 H2 g2 r2 => hq v Z2 H2 fps1 (I1.grow g2) (s1.trans g2.zz) r2
theorem de_callB (hc : CallR X (.builtin id) r) (hv : OpN X.K r gv) (hg : Gl X x) (hm : X.mg x = none) (hb : bootBuiltins x = some (.builtin id)) (ha : DEA X C (e :: es) fa) (hn : x ≠ "__name__" := by decide) (hdb : (x == ("__debug__" : Str)) = false := by decide)
    (he : starEach (e :: es) X.env = (false, eval e X.env) :: starEach es X.env := by rfl) (hpl : (backTo pos (starEach es X.env)).any (·.1) = false := by rfl) : DE X C (.Call (.Name x p) (e :: es) [] pos) (eCall gv fa) := by
  obtain ⟨t, h1, h2⟩ := ha.ex
  exact ⟨_, pe_callB hc hg hm hb h1 hn hdb he hpl, esem_call hv h2⟩
theorem de_callTy (hc : CallR X (.type T) r) (hv : OpN X.K r gv) (hg : Gl X x) (hm : X.mg x = none) (hb : bootBuiltins x = some (.type T)) (ha : DEA X C (e :: es) fa) (hn : x ≠ "__name__" := by decide) (hdb : (x == ("__debug__" : Str)) = false := by decide)
    (he : starEach (e :: es) X.env = (false, eval e X.env) :: starEach es X.env := by rfl) (hpl : (backTo pos (starEach es X.env)).any (·.1) = false := by rfl) : DE X C (.Call (.Name x p) (e :: es) [] pos) (eCall gv fa) := by
  obtain ⟨t, h1, h2⟩ := ha.ex
  exact ⟨_, pe_callTy hc hg hm hb h1 hn hdb he hpl, esem_call hv h2⟩
variable {k j n : Nat} {F : List D → R D}
def eFn (n : Nat) (F : List D → R D) (fa : EAF) : EF := fun env => (fa env).bind fun a => R.when (decide (a.1.length = n)) ((F a.1).bind fun d => .ok (d, a.2))
theorem de_fn (G : HasFn X.prog X.w X.K X.mg X.base x j n F) (hr : RmG k X.A) (hj : j ≤ k) (hg : Gl X x) (ha : DEA X C (e :: es) fa)
    (hdb : (x == ("__debug__" : Str)) = false := by decide) (he : starEach (e :: es) X.env = (false, eval e X.env) :: starEach es X.env := by rfl) (hpl : (backTo pos (starEach es X.env)).any (·.1) = false := by rfl) :
    DE X C (.Call (.Name x p) (e :: es) [] pos) (eFn n F fa) := by
  obtain ⟨f, fd, ps, G1, m1, m2, m3⟩ := G.ex
  obtain ⟨t, h1, h2⟩ := ha.ex
  refine ⟨_, pe_callG G1 (hr.mono hj) hg m1 m2 m3 .nil pass0 h1 hdb he hpl, fun σ Z0 B Z H env fps d env' Q I hf hq => ?_⟩
  obtain ⟨⟨ds, env1⟩, e1, e2⟩ := R.of_bind hf
  obtain ⟨e3, e4⟩ := R.of_when e2
  obtain ⟨z, e5, e6⟩ := R.of_bind e4
  cases e6
  refine h2 σ Z0 B Z H env fps ds env1 _ I e1 fun vs Z1 H1 fps1 I1 s1 r1 => ?_
  rw [List.append_nil]
  exact ⟨by rw [r1.length]; exact of_decide_eq_true e3, Z1, ds, _, I1.zh, r1, e5, fun v Z2 H2 g2 r2 => hq v Z2 H2 fps1 (I1.grow g2) (s1.trans g2.zz) r2⟩
end
/-! ### slices -/
abbrev EOF' := Env → R (Option Int × Env)
def eNoPart : EOF' := fun env => .ok (none, env)
def ePart (f : EF) : EOF' := fun env => (f env).bind fun a => (toI a.1).bind fun o => .ok (o, a.2)
def EPartSem (K : PySem.W.Frag) (C : Cf) (t : TO) (f : EOF') : Prop :=
  ∀ (σ : L2.St) (Z0 B Z H : Hp) (env : Env) (fps : Nat → List Addr) (o : Option Int) (env' : Env) (Q : Option Int → Hp → Prop), EnvOk K C Z0 B Z H σ env fps → f env = .ok (o, env') →
    (∀ Z' H' fps', EnvOk K C Z0 B Z' H' σ env' fps' → Same Z Z' → Q o H') → t σ H Q
structure DEPart (X : Cx) (C : Cf) (e : Option Expr) (f : EOF') : Prop where
  ex : ∃ t, PO X e t ∧ EPartSem X.K C t f
def eSl (f : EF) (fl fh : EOF') : EF := fun env => (f env).bind fun d => (fl d.2).bind fun l => (fh l.2).bind fun h => (gSl d.1 l.1 h.1).bind fun z => .ok (z, h.2)
section
variable {X : Cx} {C : Cf} {e : Expr} {f : EF} {lo hi : Option Expr} {fl fh : EOF'} {pos p2 : Pos}
theorem depart_none : DEPart X C none eNoPart := ⟨_, po_none, fun σ Z0 B Z H env fps o env' Q I hf hq => by cases hf; exact hq _ _ _ I (Same.refl _)⟩
theorem depart_some (h : DE X C e f) : DEPart X C (some e) (ePart f) := by
  obtain ⟨t, h1, h2⟩ := h.ex
  refine ⟨_, po_some h1, fun σ Z0 B Z H env fps o env' Q I hf hq => ?_⟩
  obtain ⟨⟨d, env1⟩, e1, e2⟩ := R.of_bind hf
  obtain ⟨z, e3, e4⟩ := R.of_bind e2
  cases e4
  refine h2 σ Z0 B Z H env fps d env1 _ I e1 fun v Z1 H1 fps1 I1 s1 r => ?_
  cases d with
  | int i =>
    cases e3
    cases r
    exact ⟨_, rfl, hq _ _ _ I1 s1⟩
  | _ => cases e3
theorem sl_sem {K : PySem.W.Frag} {H Z : Hp} {v : V} {d z : D} {l u : Option Int} {Q : VK} (hz : Same Z H) (r : Rep K Z v d) (h : gSl d l u = .ok z) (hq : ∀ v Z' H', Gr Z H Z' H' → Rep K Z' v z → Q v H') : rSlA K v l u H Q ∨ rSlL K v l u H Q := by
  unfold gSl at h
  split at h
  · cases h
    cases r with
    | tup tt q =>
      refine .inl ⟨_, _, rfl, same_seqT hz tt, fun w => ?_, fun w p np => ?_⟩
      · rw [q.length] at w
        rw [cutD_whole w] at hq
        exact hq _ _ _ (Gr.refl hz) (.tup tt q)
      · exact hq _ _ _ (Gr.new hz np) (.tup (.inl upd_same) ((cutD_reps q _ _).mono (same_upd (hz.free np))))
  · cases h
    cases r with
    | lst tt q =>
      refine .inr ⟨_, _, rfl, .inl (.inl (hz _ _ tt)), fun p np => ?_⟩
      exact hq _ _ _ (Gr.new hz np) (.lst upd_same ((cutD_reps q _ _).mono (same_upd (hz.free np))))
  · cases h
theorem de_sl (h : DE X C e f) (hl : DEPart X C lo fl) (hh : DEPart X C hi fh) : DE X C (.Subscript e (.Slice lo hi none p2) pos) (eSl f fl fh) := by
  obtain ⟨t, h1, h2⟩ := h.ex
  obtain ⟨tl, h3, h4⟩ := hl.ex
  obtain ⟨th, h5, h6⟩ := hh.ex
  refine ⟨_, pe_slice (sl_tupA.or sl_list) h1 h3 h5, fun σ Z0 B Z H env fps d env' Q I hf hq => ?_⟩
  obtain ⟨⟨d0, env1⟩, e1, e2⟩ := R.of_bind hf
  obtain ⟨⟨l, env2⟩, e3, e4⟩ := R.of_bind e2
  obtain ⟨⟨u, env3⟩, e5, e6⟩ := R.of_bind e4
  obtain ⟨z, e7, e8⟩ := R.of_bind e6
  cases e8
  refine h2 σ Z0 B Z H env fps d0 env1 _ I e1 fun v Z1 H1 fps1 I1 s1 r1 => ?_
  refine h4 σ Z0 B Z1 H1 env1 fps1 l env2 _ I1 e3 fun Z2 H2 fps2 I2 s2 => ?_
  refine h6 σ Z0 B Z2 H2 env2 fps2 u env3 _ I2 e5 fun Z3 H3 fps3 I3 s3 => ?_
  exact sl_sem I3.zh ((r1.mono s2).mono s3) e7 fun w Z4 H4 g4 r4 => hq w Z4 H4 fps3 (I3.grow g4) (((s1.trans s2).trans s3).trans g4.zz) r4
end
end Dz

set_option maxRecDepth 100000
set_option maxHeartbeats 2000000
namespace Dz
open PySem PySem.Spec PyProof.Rows L2
/-! ## what a def is handed to change -/
def hide (fp : List Addr) (H : Hp) : Hp := fun a => if a ∈ fp then none else H a
theorem hide_same {fp : List Addr} {H : Hp} : Same (hide fp H) H := fun a o e => by
  unfold hide at e; split at e
  · cases e
  · exact e
theorem hide_some {fp : List Addr} {H : Hp} {a : Addr} {o : HO} (n : a ∉ fp) (h : H a = some o) : hide fp H a = some o := by
  unfold hide; rw [if_neg n]; exact h
theorem hide_zh {fp : List Addr} {Z H : Hp} (h : Same Z H) (n : ∀ a ∈ fp, Z a = none) : Same Z (hide fp H) := fun a o e => by
  refine hide_some (fun hm => ?_) (h _ _ e)
  rw [n a hm] at e; cases e
theorem mem_of_lookup {α : Type} {l : List (Nat × α)} {i : Nat} {a : α} (h : l.lookup i = some a) : (i, a) ∈ l := by
  induction l with
  | nil => cases h
  | cons q l ih =>
    obtain ⟨k, b⟩ := q
    rw [List.lookup_cons] at h
    cases e : i == k with
    | true =>
      rw [e] at h
      cases h
      have : i = k := by simpa using e
      subst this
      exact List.mem_cons_self
    | false =>
      rw [e] at h
      exact List.mem_cons_of_mem _ (ih h)
section
variable {K : PySem.W.Frag} {C : Cf} {Z0 B Z H Z' H' : Hp} {σ σ' : L2.St} {env env' : Env} {fps : Nat → List Addr}
/-- a slot's own things were changed by a call -/
theorem EnvOk.handed {i : Nat} {m : Mode} {v : V} {d' : D} {fp' : List Addr} (I : EnvOk K C Z0 B Z H σ env fps) (hm : C.ms.lookup i = some m) (hv : σ[i]? = some (some v)) (g : Gr Z (hide (fps i) H) Z' H') (r : m.own K Z' H' v d' fp') (hf : ∀ a ∈ fp', hide (fps i) H a = none ∧ Z' a = none) :
    EnvOk K C Z0 B Z' H' σ (env.set i (some d')) (setFp fps i fp') := by
  have hB : ∀ a, hide (fps i) H a = none → B a = none := fun a h => by
    cases q : B a with
    | none => rfl
    | some o =>
      have h1 := I.gr.hh _ _ q
      have h2 : a ∉ fps i := fun hm => by
        rw [(I.fp i a hm).1] at q; cases q
      rw [hide_some h2 h1] at h; cases h
  have hj : ∀ j a, j ≠ i → a ∈ fps j → a ∉ fps i := fun j a hne h h' => hne (I.dj j i a h h')
  exact {
    gr := ⟨I.gr.zz.trans g.zz, g.zh, fun a o e => g.hh _ _ (hide_some (fun hm => by rw [(I.fp i a hm).1] at e; cases e) (I.gr.hh _ _ e)), fun a o e => by
      rcases g.fr a o e with z | z | z
      · exact I.gr.fr a o z
      · exact .inr (.inl (hB a z))
      · exact .inr (.inr z)⟩
    len := by rw [List.length_set, I.len]
    frz := fun j d1 h1 h2 => by
      have e : i ≠ j := fun e => by
        subst e
        rw [contains_of_lookup hm] at h1; cases h1
      rw [List.getElem?_set_ne e] at h2
      obtain ⟨w, a, b⟩ := I.frz j d1 h1 h2
      exact ⟨w, a, b.mono g.zz⟩
    own := fun j m' hm' d1 h2 => by
      by_cases e : i = j
      · subst e
        rw [hm] at hm'; cases hm'
        have hlt : i < env.length := by
          rcases Nat.lt_or_ge i env.length with h | h
          · exact h
          · rw [List.getElem?_eq_none (by simpa using h)] at h2; cases h2
        rw [List.getElem?_set_self hlt] at h2
        cases h2
        refine ⟨v, hv, ?_⟩
        unfold setFp
        rw [if_pos rfl]
        exact r
      · rw [List.getElem?_set_ne e] at h2
        obtain ⟨w, a, b⟩ := I.own j m' hm' d1 h2
        refine ⟨w, a, ?_⟩
        unfold setFp
        rw [if_neg (Ne.symm e)]
        exact m'.frame b g.zz fun x hx o ho => g.hh _ _ (hide_some (hj j x (Ne.symm e) hx) ho)
    fp := fun j a ha => by
      unfold setFp at ha
      split at ha
      · obtain ⟨h1, h2⟩ := hf a ha
        exact ⟨hB a h1, h2, m.live r a ha⟩
      · rename_i e
        obtain ⟨h1, h2, o, h3, h4⟩ := I.fp j a ha
        have h5 := hide_some (hj j a e ha) h3
        exact ⟨h1, g.out h2 h5 h4, o, g.hh _ _ h5, h4⟩
    dj := fun j j' a h1 h2 => by
      have cl : ∀ j, j ≠ i → a ∈ fp' → a ∈ fps j → False := fun j e h h' => by
        obtain ⟨_, _, o, h3, _⟩ := I.fp j a h'
        have := (hf a h).1
        rw [hide_some (hj j a e h') h3] at this; cases this
      unfold setFp at h1 h2
      split at h1
      · rename_i e1
        split at h2
        · rename_i e2; rw [e1, e2]
        · rename_i e2; exact (cl j' e2 h1 h2).elim
      · rename_i e1
        split at h2
        · exact (cl j e1 h2 h1).elim
        · exact I.dj j j' a h1 h2
    pin := I.pin }
/-- something of one's own, not yet in a slot, is kept -/
theorem EnvOk.guard {p : Addr} {o : HO} (I : EnvOk K C Z0 B Z H σ env fps) (hp : H p = some o) (nf : ∀ j, p ∉ fps j) : EnvOk K C Z (upd B p o) Z H σ env fps where
  gr := ⟨Same.refl _, I.gr.zh, fun a u e => by
    by_cases h : a = p
    · subst h; rw [upd_same] at e; cases e; exact hp
    · rw [upd_ne h] at e; exact I.gr.hh _ _ e, fun _ _ e => .inl e⟩
  len := I.len
  frz := I.frz
  own := I.own
  fp := fun i a ha => by
    obtain ⟨h1, h2, h3⟩ := I.fp i a ha
    exact ⟨by rw [upd_ne (fun e => nf i (by rw [← e]; exact ha))]; exact h1, h2, h3⟩
  dj := I.dj
  pin := I.pin
theorem EnvOk.unguard {p : Addr} {o : HO} {fps' : Nat → List Addr} (g0 : Gr Z0 B Z H) (nb : B p = none) (I : EnvOk K C Z (upd B p o) Z' H' σ' env' fps') : EnvOk K C Z0 B Z' H' σ' env' fps' ∧ H' p = some o ∧ (∀ j, p ∉ fps' j) :=
  ⟨⟨⟨g0.zz.trans I.gr.zz, I.gr.zh, fun a u e => I.gr.hh _ _ (same_upd nb _ _ e), fun a u e => by
      rcases I.gr.fr a u e with z | z | z
      · exact g0.fr a u z
      · exact .inr (.inl ((same_upd nb).free z))
      · exact .inr (.inr z)⟩, I.len, I.frz, I.own, fun i a ha => by
        obtain ⟨h1, h2, h3⟩ := I.fp i a ha
        exact ⟨(same_upd nb).free h1, h2, h3⟩, I.dj, I.pin⟩, I.gr.hh _ _ upd_same, fun j hj => by
        have := (I.fp j p hj).1
        rw [upd_same] at this; cases this⟩
theorem EnvOk.unguardZ {p : Addr} {o : HO} {fps' : Nat → List Addr} (nz : Z p = none) (nt : ∀ xs, o ≠ .tup xs) (I : EnvOk K C Z (upd B p o) Z' H' σ' env' fps') : Z' p = none := by
  cases q : Z' p with
  | none => rfl
  | some u =>
    rcases I.gr.fr p u q with z | z | ⟨xs, z⟩
    · rw [nz] at z; cases z
    · rw [upd_same] at z; cases z
    · have h1 := I.gr.hh _ _ (upd_same : upd B p o p = some o)
      rw [I.gr.zh _ _ q] at h1
      cases h1
      exact absurd z (nt xs)
/-- the guarded thing is changed -/
theorem EnvOk.updOff {p : Addr} {o : HO} (I : EnvOk K C Z0 B Z H σ env fps) (nb : B p = none) (nz : Z p = none) (nf : ∀ j, p ∉ fps j) : EnvOk K C Z0 B Z (upd H p o) σ env fps where
  gr := ⟨I.gr.zz, same_upd2 I.gr.zh nz, same_upd2 I.gr.hh nb, I.gr.fr⟩
  len := I.len
  frz := I.frz
  own := fun i m hm d he => by
    obtain ⟨v, a, b⟩ := I.own i m hm d he
    exact ⟨v, a, m.frame b (Same.refl _) fun x hx o ho => by rw [upd_ne (fun e => nf i (by rw [← e]; exact hx))]; exact ho⟩
  fp := fun i a ha => by
    obtain ⟨h1, h2, o, h3, h4⟩ := I.fp i a ha
    exact ⟨h1, h2, o, by rw [upd_ne (fun e => nf i (by rw [← e]; exact ha))]; exact h3, h4⟩
  dj := I.dj
  pin := I.pin
/-- slots forgotten -/
theorem EnvOk.wiped {vs : List Nat} (I : EnvOk K C Z0 B Z H σ env fps) (hC : C.ms.all (fun m => !vs.contains m.1) = true) (hP : C.pins.all (fun m => !vs.contains m.1) = true) (hl : σ'.length = σ.length) (h : ∀ j, j ∉ vs → σ'[j]? = σ[j]?) : EnvOk K C Z0 B Z H σ' (wipeE env vs) fps where
  gr := I.gr
  len := by rw [wipeE_length, hl, I.len]
  frz := fun i d h1 h2 => by
    obtain ⟨h3, h4⟩ := wipeE_some h2
    rw [h i h4]
    exact I.frz i d h1 h3
  own := fun i m hm d h2 => by
    obtain ⟨h3, h4⟩ := wipeE_some h2
    rw [h i h4]
    exact I.own i m hm d h3
  fp := I.fp
  dj := I.dj
  pin := fun i v hv => by
    rw [h i (fun hm => ?_)]
    · exact I.pin i v hv
    · have : (i, v) ∈ C.pins := mem_of_lookup hv
      have := List.all_eq_true.mp hP _ this
      simp [hm] at this
end
/-- the slots vs are again as they were -/
def restE (env env' : Env) : List Nat → Env
  | [] => env'
  | v :: vs => (restE env env' vs).set v ((env[v]?).getD none)
theorem restE_length (env env' : Env) : ∀ vs, (restE env env' vs).length = env'.length
  | [] => rfl
  | v :: vs => by unfold restE; rw [List.length_set, restE_length env env' vs]
theorem restE_some {env env' : Env} {i : Nat} {x : D} : ∀ {vs : List Nat}, (restE env env' vs)[i]? = some (some x) → (i ∈ vs ∧ env[i]? = some (some x)) ∨ (i ∉ vs ∧ env'[i]? = some (some x))
  | [], h => .inr ⟨by simp, h⟩
  | v :: vs, h => by
    unfold restE at h
    by_cases hi : v = i
    · subst hi
      by_cases hv : v < (restE env env' vs).length
      · rw [List.getElem?_set_self hv] at h
        refine .inl ⟨List.mem_cons_self, ?_⟩
        cases q : env[v]? with
        | none => rw [q] at h; cases h
        | some o => rw [q] at h; simpa using h
      · rw [List.getElem?_eq_none (by simpa using hv)] at h; cases h
    · rw [List.getElem?_set_ne hi] at h
      rcases restE_some h with ⟨h1, h2⟩ | ⟨h1, h2⟩
      · exact .inl ⟨List.mem_cons_of_mem _ h1, h2⟩
      · exact .inr ⟨by simp only [List.mem_cons, not_or]; exact ⟨fun e => hi e.symm, h1⟩, h2⟩
section
variable {K : PySem.W.Frag} {C : Cf} {Z0 B Z H Z' H' : Hp} {σ : L2.St} {env env' : Env} {fps fps' : Nat → List Addr}
theorem not_us {vs : List Nat} {ms : List (Nat × Mode)} {i : Nat} {m : Mode} (h : ms.all (fun m => !vs.contains m.1) = true) (hm : ms.lookup i = some m) : i ∉ vs := fun hi => by
  have : (i, m) ∈ ms := mem_of_lookup hm
  have := List.all_eq_true.mp h _ this
  simp [hi] at this
theorem EnvOk.restored {vs : List Nat} (I0 : EnvOk K C Z0 B Z H σ env fps) (I : EnvOk K C Z0 B Z' H' (wipe σ vs) env' fps') (sz : Same Z Z') (hC : C.ms.all (fun m => !vs.contains m.1) = true) : EnvOk K C Z0 B Z' H' σ (restE env env' vs) fps' where
  gr := I.gr
  len := by rw [restE_length, ← I.len, wipe_length]
  frz := fun i d h1 h2 => by
    rcases restE_some h2 with ⟨_, h3⟩ | ⟨h3, h4⟩
    · obtain ⟨v, a, b⟩ := I0.frz i d h1 h3
      exact ⟨v, a, b.mono sz⟩
    · obtain ⟨v, a, b⟩ := I.frz i d h1 h4
      rw [wipe_off h3] at a
      exact ⟨v, a, b⟩
  own := fun i m hm d h2 => by
    have hn := not_us hC hm
    rcases restE_some h2 with ⟨h3, _⟩ | ⟨h3, h4⟩
    · exact absurd h3 hn
    · obtain ⟨v, a, b⟩ := I.own i m hm d h4
      rw [wipe_off h3] at a
      exact ⟨v, a, b⟩
  fp := I.fp
  dj := I.dj
  pin := I0.pin
end
/-! ## what is walked -/
abbrev EIF := Env → R (List D × Env)
def EISem (K : PySem.W.Frag) (C : Cf) (w : TI) (f : EIF) : Prop :=
  ∀ (σ : L2.St) (Z0 B Z H : Hp) (env : Env) (fps : Nat → List Addr) (ds : List D) (env' : Env) (Q : It → Hp → Prop), EnvOk K C Z0 B Z H σ env fps → f env = .ok (ds, env') →
    (∀ J Z' H' fps', EnvOk K C Z0 B Z' H' σ env' fps' → Same Z Z' → ItOk K J Z' ds → Q J H') → w σ H Q
structure DEI (X : Cx) (C : Cf) (tg e : Expr) (f : EIF) : Prop where
  ex : ∃ w, PI X tg e w ∧ EISem X.K C w f
def eI (f : IF) : EIF := fun env => (f env).bind fun ds => .ok (ds, env)
section
variable {X : Cx} {C : Cf} {tg e e2 : Expr} {f g : EF} {p pos : Pos}
theorem DI.eff {fi : IF} (h : DI X C.us tg e fi) : DEI X C tg e (eI fi) := by
  obtain ⟨t, h1, h2⟩ := h.ex
  refine ⟨t, h1, fun σ Z0 B Z H env fps ds env' Q I hf hq => ?_⟩
  obtain ⟨d0, e1, e2⟩ := R.of_bind hf
  cases e2
  exact h2 σ H Z env _ Q I.zh I.fz e1 fun J Z1 H1 g r => hq J Z1 H1 fps (I.grow g) g.zz r
def eItX (f : EF) : EIF := fun env => (f env).bind fun d => (itemsOf d.1).bind fun ds => .ok (ds, d.2)
theorem dei_any (h : DE X C e f) : DEI X C tg e (eItX f) := by
  obtain ⟨t, h1, h2⟩ := h.ex
  refine ⟨_, pi_or (pi_list h1) (pi_tup h1), fun σ Z0 B Z H env fps ds env' Q I hf hq => ?_⟩
  obtain ⟨⟨d, env1⟩, e1, e2⟩ := R.of_bind hf
  obtain ⟨es, e3, e4⟩ := R.of_bind e2
  cases e4
  unfold itemsOf at e3
  split at e3
  · rename_i hd
    obtain rfl : d = _ := hd
    cases e3
    refine .inl (h2 σ Z0 B Z H env fps _ _ _ I e1 fun v Z1 H1 fps1 I1 s1 r => ?_)
    cases r with
    | lst t q => exact ⟨_, rfl, ⟨_, .inl (.inl (I1.zh _ _ t))⟩, hq _ Z1 H1 fps1 I1 s1 (itok_list t q)⟩
  · rename_i hd
    obtain rfl : d = _ := hd
    cases e3
    refine .inr (h2 σ Z0 B Z H env fps _ _ _ I e1 fun v Z1 H1 fps1 I1 s1 r => ?_)
    cases r with
    | tup t q => exact ⟨_, rfl, ⟨_, same_seqT I1.zh t⟩, hq _ Z1 H1 fps1 I1 s1 (itok_tup t q)⟩
  · cases e3
def rng1 : List D → R (List D)
  | [.int j] => R.when (decide (-(2 ^ 62) ≤ j ∧ j < 2 ^ 62)) (.ok (rgD 0 j.toNat))
  | _ => .no
def rng2 : List D → R (List D)
  | [.int i, .int j] => R.when (decide (-(2 ^ 62) ≤ i ∧ i < 2 ^ 62 ∧ -(2 ^ 62) ≤ j ∧ j < 2 ^ 62)) (.ok (rgD i (j - i).toNat))
  | _ => .no
def eRng (g : List D → R (List D)) (f : EAF) : EIF := fun env => (f env).bind fun a => (g a.1).bind fun ds => .ok (ds, a.2)
theorem dei_rng1 {f : EAF} (hg : Gl X "range") (hm : X.mg "range" = none) (h : DEA X C [e] f) (hs : starEach [e] X.env = [(false, eval e X.env)] := by rfl) : DEI X C tg (.Call (.Name "range" p) [e] [] pos) (eRng rng1 f) := by
  obtain ⟨u, h1, h2⟩ := h.ex
  refine ⟨_, pi_range1 hg hm h1 hs, fun σ Z0 B Z H env fps ds env' Q I hf hq => ?_⟩
  obtain ⟨⟨as, env1⟩, e1, e2⟩ := R.of_bind hf
  obtain ⟨ds', e3, e4⟩ := R.of_bind e2
  cases e4
  refine h2 σ Z0 B Z H env fps as _ _ I e1 fun vs Z1 H1 fps1 I1 s1 r => ?_
  unfold rng1 at e3
  split at e3
  · rename_i j hj
    obtain rfl : as = _ := hj
    obtain ⟨e5, e6⟩ := R.of_when e3
    cases e6
    cases r with
    | cons r rr =>
      cases rr
      cases r
      have hb := of_decide_eq_true e5
      exact ⟨_, rfl, hb.1, hb.2, hq _ Z1 H1 fps1 I1 s1 itok_rng⟩
  · cases e3
theorem dei_rng2 {f : EAF} (hg : Gl X "range") (hm : X.mg "range" = none) (h : DEA X C [e, e2] f) (hs : starEach [e, e2] X.env = [(false, eval e X.env), (false, eval e2 X.env)] := by rfl) (hs2 : starEach [e2] X.env = [(false, eval e2 X.env)] := by rfl) :
    DEI X C tg (.Call (.Name "range" p) [e, e2] [] pos) (eRng rng2 f) := by
  obtain ⟨u, h1, h2⟩ := h.ex
  refine ⟨_, pi_range2 hg hm h1 hs hs2, fun σ Z0 B Z H env fps ds env' Q I hf hq => ?_⟩
  obtain ⟨⟨as, env1⟩, e1, e2⟩ := R.of_bind hf
  obtain ⟨ds', e3, e4⟩ := R.of_bind e2
  cases e4
  refine h2 σ Z0 B Z H env fps as _ _ I e1 fun vs Z1 H1 fps1 I1 s1 r => ?_
  unfold rng2 at e3
  split at e3
  · rename_i i j hj
    obtain rfl : as = _ := hj
    obtain ⟨e5, e6⟩ := R.of_when e3
    cases e6
    cases r with
    | cons r rr =>
      cases rr with
      | cons r' rr =>
        cases rr
        cases r
        cases r'
        exact ⟨_, _, rfl, of_decide_eq_true e5, hq _ Z1 H1 fps1 I1 s1 itok_rng⟩
  · cases e3
end
/-! ## comprehensions -/
def lcGoE (vs : List Nat) (tgt : GF) (ff : ETF) (fe : EF) : Env → List D → R (List D × Env)
  | env, [] => .ok ([], env)
  | env, d :: ds => (tgt d env).bind fun env1 => (ff env1).bind fun c => if c.1 = true then (fe c.2).bind fun y => (lcGoE vs tgt ff fe (wipeE y.2 vs) ds).bind fun r => .ok (y.1 :: r.1, r.2) else lcGoE vs tgt ff fe (wipeE c.2 vs) ds
def eLc (fi : EIF) (vs : List Nat) (tgt : GF) (ff : ETF) (fe : EF) : EAF := fun env => (fi env).bind fun ds => (lcGoE vs tgt ff fe (wipeE ds.2 vs) ds.1).bind fun r => R.when (decide (r.1.length ≤ sizeLine)) (.ok (r.1, restE ds.2 r.2 vs))
def eYes : ETF := fun env => .ok (true, env)
structure DETs (X : Cx) (C : Cf) (es : List Expr) (f : ETF) : Prop where
  run : PTs X es (semET X.K C f)
section
variable {X : Cx} {C : Cf}
theorem dets_nil : DETs X C [] eYes := ⟨⟨fun pins s σ H Q I h => by
  obtain ⟨Z0, B, Z, env, fps, c, env', a, b, q⟩ := h
  cases b
  exact wpAny_tests_nil ⟨H, I, q _ _ _ a (Same.refl _)⟩⟩⟩
theorem dets_one {e : Expr} {f : ETF} (h : DET X C e f) : DETs X C [e] f := ⟨pts_one h.can⟩
theorem elc_sem {K : PySem.W.Frag} {wi : TI} {fi : EIF} {sl vs : List Nat} {tgt : GF} {ff : ETF} {fe : EF} (hi : EISem K C wi fi) (hsl : ∀ j, sl.contains j = true → j ∈ vs) (hC : C.ms.all (fun m => !vs.contains m.1) = true) (hP : C.pins.all (fun m => !vs.contains m.1) = true)
    (hs : sl.all (fun j => !(C.us.contains j) && (C.pins.lookup j).isNone) = true) :
    EOSem K C (tLc wi (semG K sl tgt) (semET K C ff) (semE K C fe) vs) (eLc fi vs tgt ff fe) := by
  intro σ Z0 B Z H env fps rs env' Q I hf hq
  obtain ⟨⟨ds, env1⟩, h1, h2⟩ := R.of_bind hf
  obtain ⟨⟨rs', env2⟩, h3, h4⟩ := R.of_bind h2
  obtain ⟨h5, h6⟩ := R.of_when h4
  obtain rfl : rs' = rs := by cases h6; rfl
  obtain rfl : restE env1 env2 vs = env' := by cases h6; rfl
  have hlen := of_decide_eq_true h5
  refine hi σ Z0 B Z H env fps ds env1 _ I h1 fun J Z1 H1 fps1 I1 s1 ok p np => ?_
  have nb1 : B p = none := I1.gr.hh.free np
  have nz1 : Z1 p = none := I1.zh.free np
  have nf1 : ∀ j, p ∉ fps1 j := fun j hj => by
    obtain ⟨_, _, o, ho, _⟩ := I1.fp j p hj
    rw [np] at ho; cases ho
  have Iw := (I1.wiped (σ' := wipe σ vs) hC hP (wipe_length _ _) fun j hj => wipe_off hj).updOff (o := .lst []) nb1 nz1 nf1
  refine ⟨fun i m H2 => m = ds.length - i ∧ i ≤ ds.length ∧ ∃ Z2 acc done rest envi fps2, EnvOk K C Z0 B Z2 H2 (wipe σ vs) envi fps2 ∧ Same Z1 Z2 ∧ Z2 p = none ∧ (∀ j, p ∉ fps2 j) ∧ H2 p = some (.lst acc) ∧ Reps K Z2 acc done ∧ lcGoE vs tgt ff fe envi (ds.drop i) = .ok (rest, env2) ∧ rs' = done ++ rest,
    ⟨_, rfl, Nat.zero_le _, Z1, [], [], rs', _, fps1, Iw, Same.refl _, nz1, nf1, upd_same, .nil, h3, rfl⟩, fun i m H2 hW => ?_⟩
  obtain ⟨rfl, hile, Z2, acc, done, rest, envi, fps2, I2, s12, n2, nf2, e2, r2, hrest, hrs⟩ := hW
  by_cases hlt : i < ds.length
  · refine .inr ⟨ok.go i H2 hlt (s12.trans I2.zh), fun H' => ∃ Z2 acc done rest envi fps2, EnvOk K C Z0 B Z2 H' (wipe σ vs) envi fps2 ∧ Same Z1 Z2 ∧ Z2 p = none ∧ (∀ j, p ∉ fps2 j) ∧ H' p = some (.lst acc) ∧ Reps K Z2 acc done ∧ lcGoE vs tgt ff fe envi (ds.drop (i + 1)) = .ok (rest, env2) ∧ rs' = done ++ rest,
      fun H' hN => ⟨ds.length - (i + 1), by omega, rfl, hlt, hN⟩, fun x H3 y => ?_⟩
    obtain ⟨Z3, d, g3, hd, r3⟩ := ok.yld i H2 x H3 Z2 hlt s12 I2.zh y
    have hdrop : ds.drop i = d :: ds.drop (i + 1) := by
      rw [List.drop_eq_getElem_cons hlt]
      rw [List.getElem?_eq_getElem hlt] at hd
      cases hd; rfl
    rw [hdrop] at hrest
    obtain ⟨enva, a1, a2⟩ := R.of_bind hrest
    obtain ⟨⟨c, envb⟩, a3, a4⟩ := R.of_bind a2
    have I3 := I2.grow g3
    have nt : ∀ (l : List V) (xs : List V), HO.lst l ≠ .tup xs := fun _ _ z => by cases z
    refine ⟨d, Z3, envi, enva, I3.zh, r3, I3.len, a1, fun σ' l1 l2 off on => ?_⟩
    have n3 : Z3 p = none := g3.out n2 e2 (nt _)
    have e3 : H3 p = some (.lst acc) := g3.hh _ _ e2
    have hoff : ∀ j, j ∉ vs → σ'[j]? = (wipe σ vs)[j]? := fun j hj => (off j (by
      cases q : sl.contains j with
      | false => rfl
      | true => exact absurd (hsl j q) hj)).1
    have hws : wipe σ' vs = wipe σ vs := by
      have := wipe_same (σ := wipe σ vs) (σ' := σ') (vs := vs) l1 hoff
      rw [this]
      exact wipe_same (wipe_length _ _) fun j hj => wipe_off hj
    refine ⟨hws, ?_⟩
    have I4 := I3.setG hs l1 l2 off on
    have G4 := I4.guard e3 nf2
    refine ⟨Z3, _, Z3, enva, fps2, c, envb, G4, a3, fun Z5 H5 fps5 I5 s35 => ?_⟩
    have n5 : Z5 p = none := EnvOk.unguardZ n3 (nt _) I5
    obtain ⟨U5, e5, nf5⟩ := EnvOk.unguard I4.gr nb1 I5
    have back : ∀ {Zk Hk : Hp} {envk : Env} {fpsk : Nat → List Addr}, EnvOk K C Z0 B Zk Hk σ' envk fpsk → EnvOk K C Z0 B Zk Hk (wipe σ vs) (wipeE envk vs) fpsk := fun J => J.wiped hC hP l1.symm fun j hj => (hoff j hj).symm
    cases c with
    | false =>
      rw [if_neg Bool.false_ne_true] at a4
      refine iteF ?_
      exact ⟨Z5, acc, done, rest, _, fps5, back U5, (s12.trans g3.zz).trans s35, n5, nf5, e5, r2.mono (g3.zz.trans s35), a4, hrs⟩
    | true =>
      rw [if_pos rfl] at a4
      refine iteT ?_
      obtain ⟨⟨yv, envc⟩, a5, a6⟩ := R.of_bind a4
      obtain ⟨⟨rest', env'⟩, a7, a8⟩ := R.of_bind a6
      cases a8
      have G5 := U5.guard e5 nf5
      refine ⟨Z5, _, Z5, envb, fps5, yv, envc, G5, a5, fun u Z6 H6 fps6 I6 s56 r6 => ?_⟩
      have n6 : Z6 p = none := EnvOk.unguardZ n5 (nt _) I6
      obtain ⟨U6, e6, nf6⟩ := EnvOk.unguard U5.gr nb1 I6
      have hlen2 : acc.length < sizeLine := by
        rw [r2.length]
        rw [hrs] at hlen
        simp at hlen
        omega
      have s26 := (g3.zz.trans s35).trans s56
      exact ⟨acc, e6, hlen2, Z6, acc ++ [u], done ++ [yv], rest', _, fps6, (back U6).updOff nb1 n6 nf6, s12.trans s26, n6, nf6, upd_same, (r2.mono s26).append (.cons r6 .nil), a7, by rw [hrs]; simp⟩
  · have e : i = ds.length := by omega
    subst e
    rw [List.drop_length] at hrest
    cases hrest
    rw [List.append_nil] at hrs
    refine .inl ⟨ok.stop H2 (s12.trans I2.zh), ?_⟩
    exact hq p acc Z2 H2 fps2 (I1.restored I2 s12 hC) (s1.trans s12) nb1 n2 nf2 e2 (by rw [hrs]; exact r2)
theorem deo_lc {elt tg iter : Expr} {ifs : List Expr} {scope : Scope} {own : List (Str × Nat)} {pos : Pos} {sl : List Nat} {fi : EIF} {tgt : GF} {ff : ETF} {fe : EF} (hc : X.calm = true) (hN : X.N.Nodup) (hi : DEI X C tg iter fi) (ok : BlkOk X.N X.env.scope scope own) (hsl : sl.all (fun j => (own.map (·.2)).contains j) = true)
    (hg : ∀ (s : Shared) (H : Hp) (A : Addr) (cl : List (Str × Addr)) (fp : List Addr), DG (X.blk s H scope (compEnvC scope cl A X.env) fp) tg sl tgt) (ht : ∀ (s : Shared) (H : Hp) (A : Addr) (cl : List (Str × Addr)) (fp : List Addr), DETs (X.blk s H scope (compEnvC scope cl A X.env) fp) C ifs ff)
    (he : ∀ (s : Shared) (H : Hp) (A : Addr) (cl : List (Str × Addr)) (fp : List Addr), DE (X.blk s H scope (compEnvC scope cl A X.env) fp) C elt fe) (hC : C.ms.all (fun m => !(own.map (·.2)).contains m.1) = true := by rfl) (hP : C.pins.all (fun m => !(own.map (·.2)).contains m.1) = true := by rfl)
    (hs : sl.all (fun j => !(C.us.contains j) && (C.pins.lookup j).isNone) = true := by rfl) (hf : ∀ x, foldedSetIterable iter X.env x = pure x := by intro _; rfl) :
    DEO X C (.ListComp elt [⟨tg, iter, ifs, 0⟩] scope pos) (eLc fi (own.map (·.2)) tgt ff fe) := by
  obtain ⟨w, h1, h2⟩ := hi.ex
  exact ⟨_, pe_lc hc hN h1 ok (fun s H A cl fp => (hg s H A cl fp).can) (fun s H A cl fp => (ht s H A cl fp).run) (fun s H A cl fp => (he s H A cl fp).can) hf, elc_sem h2 (sl_of hsl) hC hP hs⟩
end
end Dz

set_option maxRecDepth 100000
set_option maxHeartbeats 2000000
namespace Dz
open PySem PySem.Spec PyProof.Rows L2
/-! ## statements whose expressions change what is owned -/
section
variable {X : Cx} {C : Cf} {st : Stmt} {rest : List Stmt} {g g' : SF} {pos : Pos} {e : Expr} {f : EF} {fo : EAF} {i : Nat} {x : Str} {p' : Pos}
def eSet (i : Nat) (f : EF) : SF := fun env => (f env).bindP fun d => .ok (.nx, d.2.set i (some d.1))
theorem ssem_setE {K : PySem.W.Frag} {te : TE} (hs : ESem K C te f) (hu : C.us.contains i = false) (hp : C.pins.lookup i = none) : SSem K C (tAsg te (gName i)) (eSet i f) := fun σ Z0 B Z H env fps E I h => by
  obtain ⟨⟨d, env1⟩, e, h⟩ := post_bindP h
  refine hs σ Z0 B Z H env fps d env1 _ I e fun v Z1 H1 fps1 I1 s1 r1 => ?_
  exact h _ Z1 H1 fps1 (I1.setF hu hp r1)
theorem ds_setE (hN : X.N.Nodup) (hi : X.N[i]? = some x) (hx : Loc X.env.scope x) (h : DE X C e f) (hu : C.us.contains i = false := by rfl) (hp : C.pins.lookup i = none := by rfl) (hs : swapsWith e (some (.Name x p')) pos.line X.env = pure false := by rfl)
    (hf : X.fn x = true ∨ X.env.scope.names.lookup x = some .local := by first | exact .inl rfl | exact .inr rfl | assumption) : DS X C (.Assign [.Name x p'] e pos) (eSet i f) := by
  obtain ⟨t, a, b⟩ := h.ex
  exact ⟨_, ps_set hN hi hx a hs hf, ssem_setE b hu hp⟩
def eSetL (i : Nat) (f : EAF) : SF := fun env => (f env).bindP fun ds => .ok (.nx, ds.2.set i (some (.list ds.1)))
theorem ssem_setLE {K : PySem.W.Frag} {te : TE} (hs : EOSem K C te fo) (hu : C.ms.lookup i = some mL) (hp : C.pins.lookup i = none) : SSem K C (tAsg te (gName i)) (eSetL i fo) := fun σ Z0 B Z H env fps E I h => by
  obtain ⟨⟨ds, env1⟩, e, h⟩ := post_bindP h
  refine hs σ Z0 B Z H env fps ds env1 _ I e fun p vs Z1 H1 fps1 I1 s1 nb nz nf hp1 r1 => ?_
  refine h _ Z1 H1 _ (I1.setO (fp := [p]) hu hp ⟨p, vs, ds, rfl, rfl, rfl, hp1, r1⟩ (fun a ha => ?_) fun j a hj ha hm => ?_)
  · obtain rfl : a = p := by simpa using ha
    exact ⟨nb, nz⟩
  · obtain rfl : a = p := by simpa using ha
    exact nf j hm
theorem ds_setLE (hN : X.N.Nodup) (hi : X.N[i]? = some x) (hx : Loc X.env.scope x) (h : DEO X C e fo) (hu : C.ms.lookup i = some mL := by rfl) (hp : C.pins.lookup i = none := by rfl) (hs : swapsWith e (some (.Name x p')) pos.line X.env = pure false := by rfl)
    (hf : X.fn x = true ∨ X.env.scope.names.lookup x = some .local := by first | exact .inl rfl | exact .inr rfl | assumption) : DS X C (.Assign [.Name x p'] e pos) (eSetL i fo) := by
  obtain ⟨t, a, b⟩ := h.ex
  exact ⟨_, ps_set hN hi hx a hs hf, ssem_setLE b hu hp⟩
theorem EOSem.p {K : PySem.W.Frag} {t : TE} (hs : EOSem K C t fo) : ESem K C t (eList fo) := fun σ Z0 B Z H env fps d env' Q I hf hq => by
  obtain ⟨⟨ds, env1⟩, e1, e2⟩ := R.of_bind hf
  cases e2
  refine hs σ Z0 B Z H env fps ds _ Q I e1 fun p vs Z1 H1 fps1 I1 sz nb nz nf hp r => ?_
  exact hq _ _ H1 fps1 (I1.still1 nb nz nf hp) (sz.trans (same_upd nz)) (.lst upd_same (r.mono (same_upd nz)))
theorem ds_lcLE {y : Str} {py : Pos} {elt tg iter : Expr} {ifs : List Expr} {scope : Scope} {own : List (Str × Nat)} {pos spos : Pos} {sl : List Nat} {fi : EIF} {tgt : GF} {ff : ETF} {fe : EF} (hc : X.calm = true) (hN : X.N.Nodup) (hy : X.N[i]? = some y) (hyl : X.env.scope.names.lookup y = some .local)
    (hsw : swapsWith (.ListComp elt [⟨tg, iter, ifs, 0⟩] scope pos) (some (.Name y py)) spos.line X.env = pure true) (hi : DEI X C tg iter fi) (ok : BlkOk X.N X.env.scope scope own) (hsl : sl.all (fun j => (own.map (·.2)).contains j) = true)
    (hg : ∀ (s : Shared) (H : Hp) (A : Addr) (cl : List (Str × Addr)) (fp : List Addr), DG (X.blk s H scope (compEnvC scope cl A X.env) fp) tg sl tgt) (ht : ∀ (s : Shared) (H : Hp) (A : Addr) (cl : List (Str × Addr)) (fp : List Addr), DETs (X.blk s H scope (compEnvC scope cl A X.env) fp) C ifs ff)
    (he : ∀ (s : Shared) (H : Hp) (A : Addr) (cl : List (Str × Addr)) (fp : List Addr), DE (X.blk s H scope (compEnvC scope cl A X.env) fp) C elt fe) (hu : C.ms.lookup i = some mL := by rfl) (hp : C.pins.lookup i = none := by rfl)
    (hC : C.ms.all (fun m => !(own.map (·.2)).contains m.1) = true := by rfl) (hP : C.pins.all (fun m => !(own.map (·.2)).contains m.1) = true := by rfl)
    (hs : sl.all (fun j => !(C.us.contains j) && (C.pins.lookup j).isNone) = true := by rfl) (hf : ∀ x, foldedSetIterable iter X.env x = pure x := by intro _; rfl) :
    DS X C (.Assign [.Name y py] (.ListComp elt [⟨tg, iter, ifs, 0⟩] scope pos) spos) (eSetL i (eLc fi (own.map (·.2)) tgt ff fe)) := by
  obtain ⟨w, h1, h2⟩ := hi.ex
  exact ⟨_, ps_setLc hc hN hy hyl hsw h1 ok (fun s H A cl fp => (hg s H A cl fp).can) (fun s H A cl fp => (ht s H A cl fp).run) (fun s H A cl fp => (he s H A cl fp).can) hf, ssem_setLE (elc_sem h2 (sl_of hsl) hC hP hs) hu hp⟩
theorem ds_lcFE {y : Str} {py : Pos} {elt tg iter : Expr} {ifs : List Expr} {scope : Scope} {own : List (Str × Nat)} {pos spos : Pos} {sl : List Nat} {fi : EIF} {tgt : GF} {ff : ETF} {fe : EF} (hc : X.calm = true) (hN : X.N.Nodup) (hy : X.N[i]? = some y) (hyl : X.env.scope.names.lookup y = some .local)
    (hsw : swapsWith (.ListComp elt [⟨tg, iter, ifs, 0⟩] scope pos) (some (.Name y py)) spos.line X.env = pure true) (hi : DEI X C tg iter fi) (ok : BlkOk X.N X.env.scope scope own) (hsl : sl.all (fun j => (own.map (·.2)).contains j) = true)
    (hg : ∀ (s : Shared) (H : Hp) (A : Addr) (cl : List (Str × Addr)) (fp : List Addr), DG (X.blk s H scope (compEnvC scope cl A X.env) fp) tg sl tgt) (ht : ∀ (s : Shared) (H : Hp) (A : Addr) (cl : List (Str × Addr)) (fp : List Addr), DETs (X.blk s H scope (compEnvC scope cl A X.env) fp) C ifs ff)
    (he : ∀ (s : Shared) (H : Hp) (A : Addr) (cl : List (Str × Addr)) (fp : List Addr), DE (X.blk s H scope (compEnvC scope cl A X.env) fp) C elt fe) (hu : C.us.contains i = false := by rfl) (hp : C.pins.lookup i = none := by rfl)
    (hC : C.ms.all (fun m => !(own.map (·.2)).contains m.1) = true := by rfl) (hP : C.pins.all (fun m => !(own.map (·.2)).contains m.1) = true := by rfl)
    (hs : sl.all (fun j => !(C.us.contains j) && (C.pins.lookup j).isNone) = true := by rfl) (hf : ∀ x, foldedSetIterable iter X.env x = pure x := by intro _; rfl) :
    DS X C (.Assign [.Name y py] (.ListComp elt [⟨tg, iter, ifs, 0⟩] scope pos) spos) (eSet i (eList (eLc fi (own.map (·.2)) tgt ff fe))) := by
  obtain ⟨w, h1, h2⟩ := hi.ex
  exact ⟨_, ps_setLc hc hN hy hyl hsw h1 ok (fun s H A cl fp => (hg s H A cl fp).can) (fun s H A cl fp => (ht s H A cl fp).run) (fun s H A cl fp => (he s H A cl fp).can) hf, ssem_setE (elc_sem h2 (sl_of hsl) hC hP hs).p hu hp⟩
def eTgt (g : GF) (f : EF) : SF := fun env => (f env).bindP fun d => (g d.1 d.2).bindP fun env' => .ok (.nx, env')
theorem ds_tgtE {tg : Expr} {sl : List Nat} {gt : GF} (h : DE X C e f) (hg : DG X tg sl gt) (hsl : sl.all (fun j => !(C.us.contains j) && (C.pins.lookup j).isNone) = true := by rfl) (hs : swapsWithSole [tg] e pos.line X.env = pure false := by rfl) (hw : swappedStores [tg] e X.env = pure none := by rfl)
    (h1 : (assignEach [tg] X.env).map (·.2) = [assign tg X.env] := by rfl) : DS X C (.Assign [tg] e pos) (eTgt gt f) := by
  obtain ⟨t, a, b⟩ := h.ex
  obtain ⟨u, c, d⟩ := hg.ex
  refine ⟨_, ps_asg a c hs hw h1, fun σ Z0 B Z H env fps E I h => ?_⟩
  obtain ⟨⟨x, env1⟩, e1, h⟩ := post_bindP h
  obtain ⟨env', e2, h⟩ := post_bindP h
  refine b σ Z0 B Z H env fps x env1 _ I e1 fun v Z1 H1 fps1 I1 s1 r1 => ?_
  exact d v x σ H1 Z1 env1 env' _ I1.zh r1 I1.len e2 fun σ' l1 l2 off on => h σ' Z1 H1 fps1 (I1.setG hsl l1 l2 off on)
def two : List D → R (D × D)
  | [a, b] => .ok (a, b)
  | _ => .no
def ePar (i j : Nat) (f : EAF) : SF := fun env => (f env).bindP fun a => (two a.1).bindP fun p => .ok (.nx, (a.2.set i (some p.1)).set j (some p.2))
theorem ds_parE {i j : Nat} {x y : Str} {a b : Expr} {fa : EAF} {px py pt : Pos} {kt k2 pt2} (hc : X.calm = true) (hN : X.N.Nodup) (hi : X.N[i]? = some x) (hj : X.N[j]? = some y) (hij : i ≠ j)
    (hx : X.env.scope.names.lookup x = some .local) (hy : X.env.scope.names.lookup y = some .local) (ha : DEA X C [a, b] fa)
    (hw : swappedStores [.Tuple [.Name x px, .Name y py] kt pt] (.Tuple [a, b] k2 pt2) X.env = pure (some [x, y]))
    (hu : C.us.contains i = false := by rfl) (hp : C.pins.lookup i = none := by rfl) (hu2 : C.us.contains j = false := by rfl) (hp2 : C.pins.lookup j = none := by rfl)
    (hs : swapsWithSole [.Tuple [.Name x px, .Name y py] kt pt] (.Tuple [a, b] k2 pt2) pos.line X.env = pure false := by rfl) :
    DS X C (.Assign [.Tuple [.Name x px, .Name y py] kt pt] (.Tuple [a, b] k2 pt2) pos) (ePar i j fa) := by
  obtain ⟨t, a1, a2⟩ := ha.ex
  refine ⟨_, ps_par hc hN hi hj hij hx hy a1 hw hs, fun σ Z0 B Z H env fps E I h => ?_⟩
  obtain ⟨⟨ds, env1⟩, e1, h⟩ := post_bindP h
  obtain ⟨⟨d, d'⟩, e2, h⟩ := post_bindP h
  unfold two at e2
  split at e2
  · rename_i a' b' hd
    obtain rfl : ds = _ := hd
    cases e2
    refine a2 σ Z0 B Z H env fps _ env1 _ I e1 fun vs Z1 H1 fps1 I1 s1 r1 => ?_
    cases r1 with
    | cons r rr =>
      cases rr with
      | cons r' rr =>
        cases rr
        exact ⟨_, _, rfl, h _ Z1 H1 fps1 ((I1.setF hu hp r).setF hu2 hp2 r')⟩
  · cases e2
def eExpr (f : EF) : SF := fun env => (f env).bindP fun d => .ok (.nx, d.2)
theorem ds_exprE (h : DE X C e f) (hs : swapsWith e none pos.line X.env = pure false := by rfl) : DS X C (.Expr e pos) (eExpr f) := by
  obtain ⟨t, a, b⟩ := h.ex
  refine ⟨_, ps_expr a hs, fun σ Z0 B Z H env fps E I h => ?_⟩
  obtain ⟨⟨d, env1⟩, e1, h⟩ := post_bindP h
  exact b σ Z0 B Z H env fps d env1 _ I e1 fun v Z1 H1 fps1 I1 s1 r1 => h σ Z1 H1 fps1 I1
def eRet (f : EF) : SF := fun env => (f env).bindP fun d => .ok (.rt d.1, d.2)
theorem ds_retE (h : DE X C e f) (hm : C.rm = mF := by rfl) : DS X C (.Return (some e) pos) (eRet f) := by
  obtain ⟨t, a, b⟩ := h.ex
  refine ⟨_, ps_ret a, fun σ Z0 B Z H env fps E I h => ?_⟩
  obtain ⟨⟨d, env1⟩, e1, h⟩ := post_bindP h
  exact b σ Z0 B Z H env fps d env1 _ I e1 fun v Z1 H1 fps1 I1 s1 r1 => h v σ Z1 H1 fps1 [] I1 (by rw [hm]; exact ⟨rfl, r1⟩) (fun _ z => by cases z) fun _ _ z => by cases z
def eIfS (c : ETF) (g g' : SF) : SF := fun env => (c env).bindP fun b => if b.1 = true then g b.2 else g' b.2
theorem ds_ifE {c : Expr} {a b : List Stmt} {fc : ETF} (hc : DET X C c fc) (ha : DSs X C a g) (hb : DSs X C b g') : DS X C (.If c a b pos) (eIfS fc g g') := by
  obtain ⟨t, a1, a2⟩ := hc.ex
  obtain ⟨u, b1, b2⟩ := ha.ex
  obtain ⟨w, c1, c2⟩ := hb.ex
  refine ⟨_, ps_if a1 b1 c1, fun σ Z0 B Z H env fps E I h => ?_⟩
  obtain ⟨⟨k, env1⟩, e1, h⟩ := post_bindP h
  refine a2 σ Z0 B Z H env fps k env1 _ I e1 fun Z1 H1 fps1 I1 s1 => ?_
  cases k with
  | true => exact b2 σ Z0 B Z1 H1 env1 fps1 E I1 h
  | false => exact c2 σ Z0 B Z1 H1 env1 fps1 E I1 h
def whileE (fc : ETF) (g : SF) : Nat → SF
  | 0, _ => .no
  | n + 1, env => (fc env).bindP fun b => if b.1 = true then (g b.2).bind fun r => match r with
      | (.nx, env') => whileE fc g n env'
      | (.ct, env') => whileE fc g n env'
      | (.bk, env') => .ok (.nx, env')
      | (.rt d, env') => .ok (.rt d, env')
    else .ok (.nx, b.2)
theorem ssem_whileE {K : PySem.W.Frag} {tc : TT} {tb : TS} {fc : ETF} (n : Nat) (hc : ETSem K C tc fc) (hb : SSem K C tb g) : SSem K C (tWhile tc tb) (whileE fc g n) := fun σ Z0 B Z H env fps E I h => by
  refine ⟨fun m σ H => ∃ Z env fps, EnvOk K C Z0 B Z H σ env fps ∧ Post K C Z0 B E (whileE fc g m env), ⟨n, Z, env, fps, I, h⟩, fun m σ1 H1 hW => ?_⟩
  obtain ⟨Z1, env1, fps1, I1, h1⟩ := hW
  cases m with
  | zero => exact h1.elim
  | succ m =>
    unfold whileE at h1
    obtain ⟨⟨b, env2⟩, e1, h1⟩ := post_bindP h1
    refine hc σ1 Z0 B Z1 H1 env1 fps1 b env2 _ I1 e1 fun Z2 H2 fps2 I2 s2 => ?_
    cases b with
    | false =>
      refine iteF ?_
      exact h1 σ1 Z2 H2 fps2 I2
    | true =>
      refine iteT ?_
      rw [if_pos rfl] at h1
      refine ⟨fun σ H => ∃ Z env fps, EnvOk K C Z0 B Z H σ env fps ∧ Post K C Z0 B E (whileE fc g m env), fun σ' H' hN => ⟨m, Nat.lt_succ_self _, hN⟩, ?_⟩
      refine hb σ1 Z0 B Z2 H2 env2 fps2 _ I2 ?_
      simp only at h1
      cases e : g env2 with
      | ok r =>
        obtain ⟨fl, env'⟩ := r
        rw [e, R.bind_ok] at h1
        cases fl with
        | nx => exact fun σ3 Z3 H3 fps3 I3 => ⟨Z3, env', fps3, I3, h1⟩
        | ct => exact fun σ3 Z3 H3 fps3 I3 => ⟨Z3, env', fps3, I3, h1⟩
        | bk => exact h1
        | rt d => exact h1
      | err c p => rw [e] at h1; exact h1
      | no => rw [e] at h1; exact h1
theorem ds_whileE {c : Expr} {body : List Stmt} {fc : ETF} (n : Nat) (hp : PassesOwn (model X.prog X.w) X.A X.env X.xe) (hc : DET X C c fc) (hb : DSs X C body g) : DS X C (.While c body [] pos) (whileE fc g n) := by
  obtain ⟨t, a1, a2⟩ := hc.ex
  obtain ⟨u, b1, b2⟩ := hb.ex
  exact ⟨_, ps_while hp a1 b1, ssem_whileE n a2 b2⟩
def eFor (fi : EIF) (gt : GF) (g : SF) : SF := fun env => (fi env).bindP fun ds => forL gt g ds.1 ds.2
theorem ssem_forE {K : PySem.W.Frag} {wi : TI} {tg : TG} {tb : TS} {fi : EIF} {gt : GF} {sl : List Nat} (hi : EISem K C wi fi) (hg : GSem K tg sl gt) (hsl : sl.all (fun j => !(C.us.contains j) && (C.pins.lookup j).isNone) = true) (hb : SSem K C tb g) : SSem K C (tFor wi tg tb) (eFor fi gt g) := fun σ Z0 B Z H env fps E I h => by
  obtain ⟨⟨ds, envI⟩, e1, h⟩ := post_bindP h
  refine hi σ Z0 B Z H env fps ds envI _ I e1 fun J Zk H1 fps1 I1 s1 ok => ?_
  refine ⟨fun i m σ H => m = ds.length - i ∧ i ≤ ds.length ∧ ∃ Z env fps, EnvOk K C Z0 B Z H σ env fps ∧ Same Zk Z ∧ Post K C Z0 B E (forL gt g (ds.drop i) env), ⟨_, rfl, Nat.zero_le _, Zk, envI, fps1, I1, Same.refl _, h⟩, fun i m σ2 H2 hW => ?_⟩
  obtain ⟨rfl, hile, Z2, env2, fps2, I2, sk, h2⟩ := hW
  by_cases hlt : i < ds.length
  · refine .inr ⟨ok.go i H2 hlt (sk.trans I2.zh), fun σ H => ∃ Z env fps, EnvOk K C Z0 B Z H σ env fps ∧ Same Zk Z ∧ Post K C Z0 B E (forL gt g (ds.drop (i + 1)) env), fun σ' H' ⟨Z', env', fps', a, b, c⟩ => ⟨ds.length - (i + 1), by omega, rfl, hlt, Z', env', fps', a, b, c⟩, fun x H3 y => ?_⟩
    obtain ⟨Z3, d, g3, hd, r3⟩ := ok.yld i H2 x H3 Z2 hlt sk I2.zh y
    have hdrop : ds.drop i = d :: ds.drop (i + 1) := by
      rw [List.drop_eq_getElem_cons hlt]
      rw [List.getElem?_eq_getElem hlt] at hd
      cases hd; rfl
    rw [hdrop] at h2
    unfold forL at h2
    obtain ⟨env3, e3, h2⟩ := post_bindP h2
    have I3 := I2.grow g3
    refine hg x d σ2 H3 Z3 env2 env3 _ I3.zh r3 I3.len e3 fun σ' l1 l2 off on => ?_
    have I4 := I3.setG hsl l1 l2 off on
    refine hb σ' Z3 B Z3 H3 env3 fps2 _ ⟨⟨Same.refl _, I4.zh, I4.gr.hh, fun _ _ e => .inl e⟩, I4.len, I4.frz, I4.own, I4.fp, I4.dj, I4.pin⟩ ?_
    have back : ∀ {σ5 : L2.St} {Z5 H5 : Hp} {env5 : Env} {fps5 : Nat → List Addr}, EnvOk K C Z3 B Z5 H5 σ5 env5 fps5 → EnvOk K C Z0 B Z5 H5 σ5 env5 fps5 ∧ Same Zk Z5 := fun {σ5 Z5 H5 env5 fps5} J =>
      ⟨⟨⟨I4.gr.zz.trans J.gr.zz, J.gr.zh, J.gr.hh, fun a o e => by
        rcases J.gr.fr a o e with z | z | z
        · exact I4.gr.fr a o z
        · exact .inr (.inl z)
        · exact .inr (.inr z)⟩, J.len, J.frz, J.own, J.fp, J.dj, J.pin⟩, (sk.trans g3.zz).trans J.gr.zz⟩
    cases e : g env3 with
    | ok r =>
      obtain ⟨fl, env'⟩ := r
      rw [e, R.bind_ok] at h2
      cases fl with
      | nx => exact fun σ5 Z5 H5 fps5 I5 => let ⟨J, s5⟩ := back I5; ⟨Z5, env', fps5, J, s5, h2⟩
      | ct => exact fun σ5 Z5 H5 fps5 I5 => let ⟨J, s5⟩ := back I5; ⟨Z5, env', fps5, J, s5, h2⟩
      | bk => exact fun σ5 Z5 H5 fps5 I5 => h2 σ5 Z5 H5 fps5 (back I5).1
      | rt d' => exact fun v σ5 Z5 H5 fps5 fp I5 => h2 v σ5 Z5 H5 fps5 fp (back I5).1
    | err c p =>
      rw [e] at h2
      exact fun cls dx σ5 Z5 H5 hx g5 => h2 cls dx σ5 Z5 H5 hx ⟨I4.gr.zz.trans g5.zz, g5.zh, g5.hh, fun a o e => by
        rcases g5.fr a o e with z | z | z
        · exact I4.gr.fr a o z
        · exact .inr (.inl z)
        · exact .inr (.inr z)⟩
    | no => rw [e] at h2; exact h2
  · have e : i = ds.length := by omega
    subst e
    rw [List.drop_length] at h2
    exact .inl ⟨ok.stop H2 (sk.trans I2.zh), h2 σ2 Z2 H2 fps2 I2⟩
theorem ds_forE {tg iter : Expr} {body : List Stmt} {fi : EIF} {gt : GF} {sl : List Nat} (hp : PassesOwn (model X.prog X.w) X.A X.env X.xe) (hc : X.calm = true) (hi : DEI X C tg iter fi) (hg : DG X tg sl gt) (hb : DSs X C body g) (hsl : sl.all (fun j => !(C.us.contains j) && (C.pins.lookup j).isNone) = true := by rfl)
    (hs : ∀ x, foldedSetIterable iter X.env x = pure x := by intro _; rfl) : DS X C (.For tg iter body [] pos) (eFor fi gt g) := by
  obtain ⟨w, a1, a2⟩ := hi.ex
  obtain ⟨t, b1, b2⟩ := hg.ex
  obtain ⟨u, c1, c2⟩ := hb.ex
  exact ⟨_, ps_for hp hc a1 b1 c1 hs, ssem_forE a2 b2 hsl c2⟩
/-! ### lists of one's own -/
def eApp (i : Nat) (f : EF) : SF := fun env => (f env).bindP fun d => (lstAt d.2 i).bindP fun ds => R.when (decide (ds.length < sizeLine)) (.ok (.nx, d.2.set i (some (.list (ds ++ [d.1])))))
theorem lst_back {K : PySem.W.Frag} {Z0 B Z H : Hp} {σ : L2.St} {env env1 : Env} {fps : Nat → List Addr} {ds : List D} {f : EF} {d : D} (I : EnvOk K C Z0 B Z H σ env fps) (hu : C.ms.lookup i = some mL) (h : env[i]? = some (some (.list ds))) :
    ∃ p vs, σ[i]? = some (some (.ref p)) ∧ H p = some (.lst vs) := by
  obtain ⟨p, vs, h1, _, h2, _⟩ := I.lst hu h
  exact ⟨p, vs, h1, h2⟩
theorem ds_appE (hN : X.N[i]? = some x) (hv : Vis X.env.scope x) (h : DE X C e f) (hu : C.ms.lookup i = some mL := by rfl) (hd : (x == ("__debug__" : Str)) = false := by decide) (hcd : (x == ("__classdict__" : Str)) = false := by decide)
    (he : starEach (e :: []) X.env = (false, eval e X.env) :: starEach [] X.env := by rfl) (hbase : attributeBase (.Name x p') "append" X.env (eval (.Name x p') X.env) = eval (.Name x p') X.env := by rfl) {cpos apos : Pos} (hfew : ((backTo cpos (starEach (e :: []) X.env)).all (fun x => !x.1) && (backToKw cpos (keywordEach [] X.env)).all (fun x => x.1.isSome) && decide ((e :: []).length + ([] : List Keyword).length + (if ([] : List Keyword).isEmpty then 0 else 1) < 30)) = true := by rfl) (hline : (apos.endLine == cpos.line) = true := by rfl) (hpl : (backTo cpos (starEach [] X.env)).any (·.1) = false := by rfl)
    (hs : swapsWith (.Call (.Attribute (.Name x p') "append" apos) [e] [] cpos) none pos.line X.env = pure false := by rfl) :
    DS X C (.Expr (.Call (.Attribute (.Name x p') "append" apos) [e] [] cpos) pos) (fun env => (lstAt env i).bindP fun _ => eApp i f env) := by
  obtain ⟨t, a, b⟩ := (dea_cons h dea_nil he).ex
  refine ⟨_, ps_expr (pe_bm PySem.F.plainAttrs_list PySem.F.slot_list_append PySem.F.type_list_append mt_append (pe_var hN hv hd hcd) a hbase hfew hline he hpl) hs, fun σ Z0 B Z H env fps E I hp => ?_⟩
  obtain ⟨ds0, e0, hp⟩ := post_bindP hp
  obtain ⟨⟨d, env1⟩, e1, hp⟩ := post_bindP hp
  obtain ⟨ds, e2, hp⟩ := post_bindP hp
  obtain ⟨e3, hp⟩ := post_when hp
  obtain ⟨q0, vs0, hσ0, _, hH0, _, _⟩ := I.lst hu (of_lstAt e0)
  refine ⟨_, hσ0, .inl ⟨rfl, _, SqL.of hH0⟩, ?_⟩
  refine b σ Z0 B Z H env fps [d] env1 _ I (by simp [eaCons, eaNil, e1]) fun ws Z1 H1 fps1 I1 s1 r1 => ?_
  obtain ⟨q, vs, hσ, _, hH, r, hfp⟩ := I1.lst hu (of_lstAt e2)
  rw [hσ] at hσ0
  cases hσ0
  cases r1 with
  | cons r1 rr =>
    cases rr
    refine ⟨_, vs, _, rfl, rfl, hH, by rw [r.length]; exact of_decide_eq_true e3, ?_⟩
    exact hp σ Z1 _ _ (I1.lstSet hu hσ hfp (r.append (.cons r1 .nil)))
end
/-! ## defs whose first parameter's things are changed -/
def spM (K : PySem.W.Frag) (n : Nat) (m : Mode) (F : List D → R (D × D)) : Sp := fun vs H Q _ => vs.length = n ∧ ∃ Z v0 d0 ws ds fp d d1, vs = v0 :: ws ∧ Same Z H ∧ m.own K Z H v0 d0 fp ∧ (∀ a ∈ fp, Z a = none) ∧ Reps K Z ws ds ∧ F (d0 :: ds) = .ok (d, d1) ∧
  ∀ v Z' H' fp', Gr Z (hide fp H) Z' H' → m.own K Z' H' v0 d1 fp' → (∀ a ∈ fp', hide fp H a = none ∧ Z' a = none) → Rep K Z' v d → Q v H'
structure HasFnM (P : Program) (w : World) (K : PySem.W.Frag) (mg : Str → Option Value) (base : Heap) (x : Str) (k n : Nat) (m : Mode) (F : List D → R (D × D)) : Prop where
  ex : ∃ f fd ps, FnG P w K mg base CX0 k f fd ps (spM K n m F) ∧ mg x = some (.ref f) ∧ PySem.W.keepIn K (.ref f) = true ∧ Binds K fd ps []
theorem HasFnM.imp {P : Program} {w : World} {K : PySem.W.Frag} {mg : Str → Option Value} {base : Heap} {x : Str} {k n : Nat} {m : Mode} {F G : List D → R (D × D)} (h : HasFnM P w K mg base x k n m F) (e : ∀ ds d, G ds = .ok d → F ds = .ok d) : HasFnM P w K mg base x k n m G := by
  obtain ⟨f, fd, ps, a, b⟩ := h.ex
  exact ⟨f, fd, ps, a.imp fun vs H Q E ⟨h1, Z, v0, d0, ws, ds, fp, d, d1, h2, h3, h4, h5, h6, h7, h8⟩ => ⟨h1, Z, v0, d0, ws, ds, fp, d, d1, h2, h3, h4, h5, h6, e _ _ h7, h8⟩, b⟩
def slotAt (env : Env) (i : Nat) : R D := match env[i]? with
  | some (some d) => .ok d
  | _ => .no
theorem of_slotAt {env : Env} {i : Nat} {d : D} (h : slotAt env i = .ok d) : env[i]? = some (some d) := by
  unfold slotAt at h
  split at h
  · cases h; assumption
  · cases h
def runM (n : Nat) (g : SF) (args : List D) : R (D × D) := (g (args.map some ++ List.replicate (n - args.length) none)).bind fun r => match r with
  | (.rt d, env) => (slotAt env 0).bind fun s => .ok (d, s)
  | (.nx, env) => (slotAt env 0).bind fun s => .ok (.none, s)
  | _ => .no
def eFnM (i n : Nat) (F : List D → R (D × D)) (fa : EAF) : EF := fun env => (slotAt env i).bind fun _ => (fa env).bind fun a => (slotAt a.2 i).bind fun s => R.when (decide (a.1.length + 1 = n)) ((F (s :: a.1)).bind fun r => .ok (r.1, a.2.set i (some r.2)))
section
variable {X : Cx} {C : Cf} {es : List Expr} {fa : EAF} {x y : Str} {p p2 pos : Pos} {k j n i : Nat} {m : Mode} {F : List D → R (D × D)}
theorem de_fnM (G : HasFnM X.prog X.w X.K X.mg X.base x j n m F) (hr : RmG k X.A) (hj : j ≤ k) (hg : Gl X x) (hN : X.N[i]? = some y) (hv : Vis X.env.scope y) (ha : DEA X C es fa) (hu : C.ms.lookup i = some m := by rfl)
    (hdb : (x == ("__debug__" : Str)) = false := by decide) (hd : (y == ("__debug__" : Str)) = false := by decide) (hcd : (y == ("__classdict__" : Str)) = false := by decide)
    (he : starEach (.Name y p2 :: es) X.env = (false, eval (.Name y p2) X.env) :: starEach es X.env := by rfl) (hpl : (backTo pos (starEach es X.env)).any (·.1) = false := by rfl) :
    DE X C (.Call (.Name x p) (.Name y p2 :: es) [] pos) (eFnM i n F fa) := by
  obtain ⟨f, fd, ps, G1, m1, m2, m3⟩ := G.ex
  obtain ⟨t, h1, h2⟩ := ha.ex
  refine ⟨_, pe_callG G1 (hr.mono hj) hg m1 m2 m3 .nil pass0 (pa_cons (pe_var hN hv hd hcd) h1 he) hdb he hpl, fun σ Z0 B Z H env fps d env' Q I hf hq => ?_⟩
  obtain ⟨s0, e0, hf⟩ := R.of_bind hf
  obtain ⟨⟨ds, env1⟩, e1, e2⟩ := R.of_bind hf
  obtain ⟨s, e3, e4⟩ := R.of_bind e2
  obtain ⟨e5, e6⟩ := R.of_when e4
  obtain ⟨⟨r, s'⟩, e7, e8⟩ := R.of_bind e6
  cases e8
  obtain ⟨v, hv0, _⟩ := I.own i m hu s0 (of_slotAt e0)
  refine ⟨v, hv0, ?_⟩
  refine h2 σ Z0 B Z H env fps ds env1 _ I e1 fun vs Z1 H1 fps1 I1 s1 r1 => ?_
  obtain ⟨v', hv1, ow⟩ := I1.own i m hu s (of_slotAt e3)
  rw [hv0] at hv1
  cases hv1
  rw [List.append_nil]
  refine ⟨by simpa [r1.length] using e5, Z1, v, s, vs, ds, fps1 i, _, s', rfl, I1.zh, ow, fun a ha => (I1.fp i a ha).2.1, r1, e7, fun v2 Z2 H2 fp' g2 ow2 hf2 r2 => ?_⟩
  exact hq v2 Z2 H2 _ (I1.handed hu hv0 g2 ow2 hf2) (s1.trans g2.zz) r2
end
section
variable {P : Program} {w : World} {K : PySem.W.Frag} {mg : Str → Option Value} {base : Heap}
theorem mkFnM {x : Str} {st : Stmt} {N ps : List Str} {k : Nat} {g : SF} {m : Mode} (ms : List (Nat × Mode)) (F : FunAt K mg x st) (S : FnScope N ps (defScope st)) (hus : ms.all (fun i => decide (ps.length ≤ i.1)) = true) (hle : ps.length ≤ N.length) (hpos : 0 < ps.length)
    (hb : ∀ (kV doc pm : Value) (an : Option Addr) (cdv ct : Value) (us : List Value), us.length = ps.length → bindArgs (PySem.W.fnOf x x (defArgs st) (defBody st) (defScope st) .none kV doc pm an cdv ct) ⟨us, []⟩ = pure (ps.zip us))
    (hbody : ∀ (v0 : V) (f : Addr) (cdv : Value) (A : Around) (outer : List PySem.Env) (s : Shared) (H : Hp) (E : XK), RmG k (A.deeper (envOfC x (defScope st) s.heap.objs.size f cdv)) → DSs (cxOf CX0 P w K mg base N x (defScope st) f cdv A outer s H E).nox ⟨(0, m) :: ms, [(0, v0)], mF, fun _ _ _ _ => False, fun _ _ _ _ _ _ => False⟩ (defBody st) g) :
    HasFnM P w K mg base x (k + 1) ps.length m (runM N.length g) := by
  obtain ⟨fa, fd, F, hm⟩ := F.ex
  refine ⟨fa, fd, ps, ?_, hm, F.kp, F.bindsN hb⟩
  refine fnG_of F S (fun vs H Q E h => h.1) fun cdv A outer s H vs Q E hr h => ?_
  obtain ⟨hl, Z, v0, d0, ws, ds, fp, d, d1, rfl, hz, ow, nz, r, hF, hq⟩ := h
  obtain ⟨t, h1, h2⟩ := (hbody v0 fa cdv A outer s H E hr).ex
  refine ⟨t, h1.nox, ?_⟩
  have hdl : ds.length + 1 = ps.length := by rw [← r.length, ← hl]; rfl
  have hsl : (L2.start N (v0 :: ws))[0]? = some (some v0) := start_get rfl
  have I : EnvOk K ⟨(0, m) :: ms, [(0, v0)], mF, fun _ _ _ _ => False, fun _ _ _ _ _ _ => False⟩ Z (hide fp H) Z H (L2.start N (v0 :: ws)) ((d0 :: ds).map some ++ List.replicate (N.length - (d0 :: ds).length) none) (fun j => if j = 0 then fp else []) := by
    refine ⟨⟨Same.refl _, hz, hide_same, fun _ _ e => .inl e⟩, ?_, fun i d' hu he => ?_, fun i m' hm d' he => ?_, fun i a ha => ?_, fun i j a h1 h2 => ?_, fun i v hv => ?_⟩
    · unfold L2.start
      simp [r.length]
    · cases i with
      | zero => simp at hu
      | succ i =>
        by_cases hi : i < ds.length
        · rw [List.getElem?_append_left (by simpa using hi), List.getElem?_map] at he
          rw [List.getElem?_cons_succ, List.getElem?_eq_getElem hi] at he
          obtain ⟨v, a, b⟩ := r.get (List.getElem?_eq_getElem hi)
          cases he
          exact ⟨v, start_get (by rw [List.getElem?_cons_succ]; exact a), b⟩
        · rw [List.getElem?_append_right (by simpa using hi), List.getElem?_replicate] at he
          split at he <;> cases he
    · cases i with
      | zero =>
        have : m' = m := by simpa using hm.symm
        subst this
        have : d' = d0 := by simpa using he.symm
        subst this
        exact ⟨v0, hsl, by rw [if_pos rfl]; exact ow⟩
      | succ i =>
        rw [List.lookup_cons] at hm
        have h0 : (i + 1 == 0) = false := rfl
        rw [h0] at hm
        have hge : ps.length ≤ i + 1 := of_decide_eq_true (List.all_eq_true.mp hus _ (mem_of_lookup hm))
        rw [List.getElem?_append_right (by simp; omega), List.getElem?_replicate] at he
        split at he <;> cases he
    · split at ha
      · refine ⟨?_, nz a ha, ?_⟩
        · unfold hide; rw [if_pos ha]
        · exact m.live ow a ha
      · cases ha
    · split at h1
      · split at h2
        · rename_i e1 e2; rw [e1, e2]
        · cases h2
      · cases h1
    · cases i with
      | zero =>
        have : v = v0 := by simpa using hv.symm
        subst this
        exact hsl
      | succ i => cases hv
  refine h2 (L2.start N (v0 :: ws)) Z (hide fp H) Z H _ _ _ I ?_
  have fin : ∀ {σ' : L2.St} {Z' H' : Hp} {env' : Env} {fps' : Nat → List Addr} {s' : D} {v : V} {d' : D}, EnvOk K ⟨(0, m) :: ms, [(0, v0)], mF, fun _ _ _ _ => False, fun _ _ _ _ _ _ => False⟩ Z (hide fp H) Z' H' σ' env' fps' → env'[0]? = some (some s') → d' = d → s' = d1 → Rep K Z' v d' → Q v H' := fun {σ' Z' H' env' fps' s' v d'} I' hs e1 e2 rv => by
    subst e1 e2
    obtain ⟨v', hv', ow'⟩ := I'.own 0 m rfl s' hs
    have hpin := I'.pin 0 v0 rfl
    rw [hpin] at hv'
    cases hv'
    exact hq v Z' H' (fps' 0) I'.gr ow' (fun a ha => ⟨(I'.fp 0 a ha).1, (I'.fp 0 a ha).2.1⟩) rv
  unfold runM at hF
  cases q : g ((d0 :: ds).map some ++ List.replicate (N.length - (d0 :: ds).length) none) with
  | ok r =>
    obtain ⟨fl, env'⟩ := r
    rw [q, R.bind_ok] at hF
    cases fl with
    | nx =>
      obtain ⟨s', e1, e2⟩ := R.of_bind hF
      cases e2
      exact fun σ' Z' H' fps' I' => fin I' (of_slotAt e1) rfl rfl .non
    | rt d' =>
      obtain ⟨s', e1, e2⟩ := R.of_bind hF
      cases e2
      intro v σ' Z' H' fps' fp' I' ho _ _
      exact fin I' (of_slotAt e1) rfl rfl ho.2
    | bk => cases hF
    | ct => cases hF
  | err c p => rw [q] at hF; cases hF
  | no => rw [q] at hF; cases hF
end
end Dz

set_option maxRecDepth 100000
set_option maxHeartbeats 2000000
namespace Dz
open PySem PySem.Spec PyProof.Rows L2
/-! ## the source of picks -/
def srcK (c : Addr) (l x t : Int) : List (Key × V) := [(.inr "cells", .ref c), (.inr "left", .int l), (.inr "mixed", .int x), (.inr "turn", .int t)]
def srcD (cs : List Int) (l x t : Int) : D := .dict [(.str "cells", .list (cs.map PyData.int)), (.str "left", .int l), (.str "mixed", .int x), (.str "turn", .int t)]
structure SrcAt (H : Hp) (q c : Addr) (cs : List Int) (l x t : Int) : Prop where
  hq : H q = some (.dK (srcK c l x t))
  hc : H c = some (.lst (cs.map V.int))
theorem SrcAt.ne {H : Hp} {q c : Addr} {cs : List Int} {l x t : Int} (h : SrcAt H q c cs l x t) : q ≠ c := fun e => by
  have h1 := h.hq
  rw [e, h.hc] at h1; cases h1
theorem SrcAt.rep {K : PySem.W.Frag} {H : Hp} {q c : Addr} {cs : List Int} {l x t : Int} (h : SrcAt H q c cs l x t) : Rep K H (.ref q) (srcD cs l x t) :=
  .dK h.hq (.cons (k := .inr "cells") (.lst h.hc (Reps.ofInts cs)) (.cons (k := .inr "left") (.int l) (.cons (k := .inr "mixed") (.int x) (.cons (k := .inr "turn") (.int t) .nil))))
def mSrc : Mode where
  own := fun K Z H v d fp => ∃ q c cs l x t, v = .ref q ∧ d = srcD cs l x t ∧ fp = [q, c] ∧ SrcAt H q c cs l x t
  frame := fun ⟨q, c, cs, l, x, t, e1, e2, e3, h⟩ _ k => ⟨q, c, cs, l, x, t, e1, e2, e3, k q (by rw [e3]; simp) _ h.hq, k c (by rw [e3]; simp) _ h.hc⟩
  vis := fun ⟨q, c, cs, l, x, t, e1, e2, e3, h⟩ _ => by subst e1 e2; exact h.rep
  live := fun ⟨q, c, cs, l, x, t, e1, e2, e3, h⟩ a ha => by
    rw [e3] at ha
    rcases List.mem_cons.mp ha with rfl | ha
    · exact ⟨_, h.hq, fun _ z => by cases z⟩
    · obtain rfl : a = c := by simpa using ha
      exact ⟨_, h.hc, fun _ z => by cases z⟩
  still := fun ⟨q, c, cs, l, x, t, e1, e2, e3, h⟩ Z' e k => by
    subst e1 e2
    exact SrcAt.rep ⟨k q (by rw [e3]; simp) _ h.hq, k c (by rw [e3]; simp) _ h.hc⟩
inductive SK where
  | left | mixed | turn
def SK.str : SK → Str
  | .left => "left"
  | .mixed => "mixed"
  | .turn => "turn"
def SK.get : SK → Int → Int → Int → Int
  | .left, l, _, _ => l
  | .mixed, _, x, _ => x
  | .turn, _, _, t => t
/-- what a source holds -/
def srcOf : D → R (List Int × Int × Int × Int)
  | .dict [(_, .list ds), (_, .int l), (_, .int x), (_, .int t)] => match intsOf ds with
    | some cs => .ok (cs, l, x, t)
    | none => .no
  | _ => .no
@[simp] theorem srcOf_srcD (cs : List Int) (l x t : Int) : srcOf (srcD cs l x t) = .ok (cs, l, x, t) := by
  unfold srcOf srcD
  simp
theorem valV_src (k : SK) (c : Addr) (l x t : Int) : valV (srcK c l x t) (.inr k.str) = some (.int (k.get l x t)) := by
  cases k <;> rfl
def SK.put : SK → Int → Int → Int → Int → Int × Int × Int
  | .left, y, _, x, t => (y, x, t)
  | .mixed, y, l, _, t => (l, y, t)
  | .turn, y, l, x, _ => (l, x, y)
theorem putK_src (k : SK) (c : Addr) (l x t y : Int) : putK (srcK c l x t) (.inr k.str) (.int y) = srcK c (k.put y l x t).1 (k.put y l x t).2.1 (k.put y l x t).2.2 := by
  cases k <;> rfl
def eSrc (i : Nat) (k : SK) : EF := fun env => (slotAt env i).bind fun s => (srcOf s).bind fun r => .ok (.int (k.get r.2.1 r.2.2.1 r.2.2.2), env)
def intOf : D → R Int
  | .int i => .ok i
  | _ => .no
def eSrcPut (i : Nat) (k : SK) (f : EF) : SF := fun env => (f env).bindP fun d => (intOf d.1).bindP fun y => (slotAt d.2 i).bindP fun s => (srcOf s).bindP fun r => .ok (.nx, d.2.set i (some (srcD r.1 (k.put y r.2.1 r.2.2.1 r.2.2.2).1 (k.put y r.2.1 r.2.2.1 r.2.2.2).2.1 (k.put y r.2.1 r.2.2.1 r.2.2.2).2.2)))
section
variable {K : PySem.W.Frag} {C : Cf} {Z0 B Z H : Hp} {σ : L2.St} {env : Env} {fps : Nat → List Addr} {i : Nat} {cs : List Int} {l x t : Int}
theorem EnvOk.src {s : D} {r : List Int × Int × Int × Int} (I : EnvOk K C Z0 B Z H σ env fps) (hu : C.ms.lookup i = some mSrc) (h : slotAt env i = .ok s) (hr : srcOf s = .ok r) :
    ∃ q c, σ[i]? = some (some (.ref q)) ∧ SrcAt H q c r.1 r.2.1 r.2.2.1 r.2.2.2 ∧ fps i = [q, c] ∧ s = srcD r.1 r.2.1 r.2.2.1 r.2.2.2 := by
  obtain ⟨v, hv, q, c, cs, l, x, t, rfl, e2, e3, h4⟩ := I.own i mSrc hu _ (of_slotAt h)
  subst e2
  rw [srcOf_srcD] at hr
  cases hr
  exact ⟨q, c, hv, h4, e3, rfl⟩
theorem EnvOk.srcSet {q c : Addr} {cs' : List Int} {l' x' t' : Int} {p : Addr} {o : HO} (I : EnvOk K C Z0 B Z H σ env fps) (hu : C.ms.lookup i = some mSrc) (hv : σ[i]? = some (some (.ref q))) (hf : fps i = [q, c]) (hp : p ∈ [q, c]) (h : SrcAt (upd H p o) q c cs' l' x' t') :
    EnvOk K C Z0 B Z (upd H p o) σ (env.set i (some (srcD cs' l' x' t'))) (setFp fps i [q, c]) :=
  I.mut hu hv (by rw [hf]; exact hp) ⟨q, c, cs', l', x', t', rfl, rfl, rfl, h⟩ fun a ha => by rw [hf]; exact ha
end
theorem room1 {k : Nat} {A : Around} (r : RmG k A) : A.units + 1 < cLine := by have := r.un; omega
section
variable {X : Cx} {C : Cf} {e : Expr} {f : EF} {i : Nat} {x : Str} {p' pos cpos apos tpos : Pos} {k : Nat} {kk : Option Str}
theorem de_src (sk : SK) {j : Nat} {sp : Pos} (hr : RmG k X.A) (hN : X.N[i]? = some x) (hv : Vis X.env.scope x) (hu : C.ms.lookup i = some mSrc := by rfl) (hd : (x == ("__debug__" : Str)) = false := by decide) (hcd : (x == ("__classdict__" : Str)) = false := by decide) :
    DE X C (.Subscript (.Name x p') (.Constant (.str sk.str) j sp) pos) (eSrc i sk) := by
  refine ⟨_, pe_dget (room1 hr) (pe_var hN hv hd hcd) pe_str (fun _ _ => rfl), fun σ Z0 B Z H env fps d env' Q I hf hq => ?_⟩
  obtain ⟨s, e1, e2⟩ := R.of_bind hf
  obtain ⟨r, e3, e4⟩ := R.of_bind e2
  cases e4
  obtain ⟨q, c, hσ, hs, hfp, rfl⟩ := I.src hu e1 e3
  refine ⟨_, hσ, q, _, rfl, ?_, hq _ Z H fps I (Same.refl _) (.int _)⟩
  have := DGet.k (k := .inr sk.str) hs.hq
  rw [valV_src] at this
  exact this
theorem ds_srcPut (sk : SK) {j : Nat} {sp : Pos} (hr : RmG k X.A) (hN : X.N[i]? = some x) (hv : Vis X.env.scope x) (h : DE X C e f) (hu : C.ms.lookup i = some mSrc := by rfl) (hd : (x == ("__debug__" : Str)) = false := by decide) (hcd : (x == ("__classdict__" : Str)) = false := by decide)
    (hs : swapsWith e (some (.Subscript (.Name x p') (.Constant (.str sk.str) j sp) tpos)) pos.line X.env = pure false := by rfl) :
    DS X C (.Assign [.Subscript (.Name x p') (.Constant (.str sk.str) j sp) tpos] e pos) (eSrcPut i sk f) := by
  obtain ⟨t, a, b⟩ := h.ex
  refine ⟨_, ps_dput (room1 hr) (pe_var hN hv hd hcd) pe_str a hs, fun σ Z0 B Z H env fps E I hp => ?_⟩
  obtain ⟨⟨d, env1⟩, e1, hp⟩ := post_bindP hp
  obtain ⟨y, e2, hp⟩ := post_bindP hp
  obtain ⟨s, e3, hp⟩ := post_bindP hp
  obtain ⟨r, e4, hp⟩ := post_bindP hp
  cases d with
  | int y' =>
    cases e2
    refine b σ Z0 B Z H env fps _ env1 _ I e1 fun v Z1 H1 fps1 I1 s1 r1 => ?_
    cases r1
    obtain ⟨q, c, hσ, hs, hfp, e5⟩ := I1.src hu e3 e4
    have hpt := fun v => DPut.k (k := .inr sk.str) (v := v) hs.hq (by rw [sizeLine_eq]; show 4 < _; decide)
    refine ⟨_, hσ, q, _, rfl, hpt _, ?_⟩
    rw [putK_src]
    exact hp σ Z1 _ _ (I1.srcSet hu hσ hfp (by simp) ⟨upd_same, by rw [upd_ne (Ne.symm hs.ne)]; exact hs.hc⟩)
  | _ => cases e2
end
/-! ### cells taken -/
def drain : List Int → Int → List Int × Int
  | [], l => ([], l)
  | a :: r, l => if l < 2 then drain r a else (a :: r, l)
/-- slot j is no more looked at -/
def sDrain (i j : Nat) : SF := fun env => R.when (decide (j < env.length)) <| (slotAt (env.set j none) i).bindP fun s => (srcOf s).bindP fun r => .ok (.nx, (env.set j none).set i (some (srcD (drain r.1.reverse r.2.1).1.reverse (drain r.1.reverse r.2.1).2 r.2.2.1 r.2.2.2)))
theorem EnvOk.hid {K : PySem.W.Frag} {C : Cf} {Z0 B Z H : Hp} {σ : L2.St} {env : Env} {fps : Nat → List Addr} {j : Nat} {v : V} (I : EnvOk K C Z0 B Z H σ env fps) (hp : C.pins.lookup j = none) : EnvOk K C Z0 B Z H (σ.set j (some v)) (env.set j none) fps where
  gr := I.gr
  len := by rw [List.length_set, List.length_set, I.len]
  frz := fun i d h1 h2 => by
    by_cases e : j = i
    · subst e
      rw [List.getElem?_set] at h2
      simp at h2
    · rw [List.getElem?_set_ne e] at h2 ⊢
      exact I.frz i d h1 h2
  own := fun i m hm d h2 => by
    by_cases e : j = i
    · subst e
      rw [List.getElem?_set] at h2
      simp at h2
    · rw [List.getElem?_set_ne e] at h2 ⊢
      exact I.own i m hm d h2
  fp := I.fp
  dj := I.dj
  pin := fun i w hw => by
    have e : j ≠ i := fun e => by subst e; rw [hp] at hw; cases hw
    rw [List.getElem?_set_ne e]
    exact I.pin i w hw
theorem iteF' {b : Bool} {x y : Prop} (h : b = false) (hy : y) : (if b = true then x else y) := by rw [h]; exact hy
theorem iteT' {b : Bool} {x y : Prop} (h : b = true) (hx : x) : (if b = true then x else y) := by rw [h]; exact hx
theorem popped {r : List Int} {a : Int} : (((a :: r).reverse.map V.int)[((a :: r).reverse.map V.int).length - 1]? = some (.int a)) ∧ ((a :: r).reverse.map V.int).dropLast = r.reverse.map V.int := by
  simp
theorem set_set {i : Nat} {a b : Option D} {env : Env} : (env.set i a).set i b = env.set i b := by simp
/-- cells = source["cells"]; while source["left"] < 2 and len(cells) > 0: source["left"] = cells.pop() -/
theorem dss_drainA {X : Cx} {C : Cf} {i j k k0 k1 k2 k3 k4 : Nat} {x y : Str} {p1 p2 p3 p4 p5 p6 p7 p8 p9 p10 p11 p12 p13 p14 p15 p16 p17 p19 p20 p21 p22 p23 p24 p25 : Pos} (hr : RmG k X.A) (hp : PassesOwn (model X.prog X.w) X.A X.env X.xe) (hN : X.N.Nodup) (hi : X.N[i]? = some x) (hj : X.N[j]? = some y)
    (hv : Vis X.env.scope x) (hy : Vis X.env.scope y) (hly : Loc X.env.scope y) (hf : X.fn y = true ∨ X.env.scope.names.lookup y = some .local) (hg : Gl X "len") (hm : X.mg "len" = none) (hu : C.ms.lookup i = some mSrc) (hu2 : C.us.contains j = false) (hp2 : C.pins.lookup j = none) (hij : i ≠ j)
    (hd : (x == ("__debug__" : Str)) = false) (hcd : (x == ("__classdict__" : Str)) = false) (hd2 : (y == ("__debug__" : Str)) = false) (hcd2 : (y == ("__classdict__" : Str)) = false)
    (hs : swapsWith (.Subscript (.Name x p1) (.Constant (.str "cells") k0 p2) p3) (some (.Name y p4)) p5.line X.env = pure false)
    (hs2 : swapsWith (.Call (.Attribute (.Name y p6) "pop" p7) [] [] p8) (some (.Subscript (.Name x p9) (.Constant (.str "left") k1 p10) p11)) p12.line X.env = pure false)
    (hbase : attributeBase (.Name y p6) "pop" X.env (eval (.Name y p6) X.env) = eval (.Name y p6) X.env) (hline : (p7.endLine == p8.line) = true)
    (hst : starEach [.Name y p20] X.env = (false, eval (.Name y p20) X.env) :: starEach [] X.env) :
    ∃ t1 t2, PS X (.Assign [.Name y p4] (.Subscript (.Name x p1) (.Constant (.str "cells") k0 p2) p3) p5) t1 ∧
      PS X (.While (.BoolOp .And [.Compare (.Subscript (.Name x p13) (.Constant (.str "left") k2 p14) p15) [.Lt] [.Constant (.int 2) k3 p16] p17, .Compare (.Call (.Name "len" p19) [.Name y p20] [] p21) [.Gt] [.Constant (.int 0) k4 p22] p23] p24)
        [.Assign [.Subscript (.Name x p9) (.Constant (.str "left") k1 p10) p11] (.Call (.Attribute (.Name y p6) "pop" p7) [] [] p8) p12] [] p25) t2 ∧ SSem X.K C (tSeq t1 t2) (sDrain i j) := by
  refine ⟨_, _, ps_set hN hj hly (pe_dget (room1 hr) (pe_var hi hv hd hcd) pe_str (fun _ _ => rfl)) hs hf, ps_while hp
    (pw_and (pt_cmpR op_lt (pe_dget (room1 hr) (pe_var hi hv hd hcd) pe_str (fun _ _ => rfl)) pe_int (nomark _))
      (pw_and1 (pt_cmpR op_gt (pe_callB call_len hg hm boot_len (pa_cons (pe_var hj hy hd2 hcd2) pa_nil hst) (by decide) (by decide) hst) pe_int (nomark _)))).pt
    (pss_one (ps_dput (room1 hr) (pe_var hi hv hd hcd) pe_str (pe_bm0 PySem.F.plainAttrs_list PySem.F.slot_list_pop PySem.F.type_list_pop mt_pop (pe_var hj hy hd2 hcd2) hbase hline) hs2)), fun σ Z0 B Z H env fps E I hh => ?_⟩
  obtain ⟨hjl', hh1⟩ := post_when hh
  have hjl := of_decide_eq_true hjl'
  rw [← I.len] at hjl
  obtain ⟨s, e1, hh2⟩ := post_bindP hh1
  obtain ⟨⟨cs, l, x', t⟩, e2, h⟩ := post_bindP hh2
  clear hh hh1 hh2 hjl'
  have e0 : slotAt env i = .ok s := by
    unfold slotAt at e1 ⊢
    rw [List.getElem?_set_ne (Ne.symm hij)] at e1
    exact e1
  obtain ⟨q, c, hσ, hS, hfp, e5⟩ := I.src hu e0 e2
  simp only at hS e5
  subst e5
  have g1 : DGet H q (.str "cells") (some (.ref c)) := DGet.k (k := .inr "cells") hS.hq
  refine ⟨_, hσ, q, _, rfl, g1, ?_⟩
  have I1 := I.hid (j := j) (v := .ref c) hp2
  have hσj : (σ.set j (some (.ref c)))[j]? = some (some (.ref c)) := List.getElem?_set_self hjl
  have hσi : (σ.set j (some (.ref c)))[i]? = some (some (.ref q)) := by rw [List.getElem?_set_ne (Ne.symm hij)]; exact hσ
  generalize hs' : σ.set j (some (.ref c)) = τ at I1 hσj hσi
  show tWhile _ _ E (σ.set j (some (.ref c))) H
  rw [hs']
  generalize hen : env.set j none = env1 at I1 h e1
  refine ⟨fun m σ2 H2 => σ2 = τ ∧ ∃ r l2 fps2, m = r.length ∧ EnvOk X.K C Z0 B Z H2 τ (env1.set i (some (srcD r.reverse l2 x' t))) fps2 ∧ fps2 i = [q, c] ∧ SrcAt H2 q c r.reverse l2 x' t ∧ drain r l2 = drain cs.reverse l, ⟨_, rfl, cs.reverse, l, fps, rfl, ?_, hfp, ?_, rfl⟩, fun m σ2 H2 hW => ?_⟩
  · rw [List.reverse_reverse]
    have : env1.set i (some (srcD cs l x' t)) = env1 := by
      apply List.ext_getElem?
      intro n
      by_cases hn : i = n
      · subst hn
        rw [List.getElem?_set]
        have := of_slotAt e1
        rw [this]
        have hlt := (List.getElem?_eq_some_iff.mp this).1
        simp [hlt]
      · rw [List.getElem?_set_ne hn]
    rw [this]
    exact I1
  · rw [List.reverse_reverse]; exact hS
  · obtain ⟨rfl, r, l2, fps2, rfl, I2, hf2, hS2, hd2⟩ := hW
    have g2 : DGet H2 q (.str "left") (some (.int l2)) := DGet.k (k := .inr "left") hS2.hq
    refine ⟨_, hσi, q, _, rfl, g2, l2, 2, rfl, rfl, _, rfl, ?_⟩
    have stop : drain r l2 = (r, l2) → E.nx σ2 H2 := fun e => by
      rw [← hd2, e] at h
      exact h σ2 Z H2 fps2 I2
    by_cases hl2 : l2 < 2
    · rw [decide_eq_true hl2]
      refine iteT ?_
      refine ⟨_, hσj, _, _, rfl, .inl ⟨_, SqL.of hS2.hc, rfl⟩, _, 0, rfl, rfl, _, rfl, ?_⟩
      cases r with
      | nil =>
        refine iteF' ?_ ?_
        · simp
        · exact stop rfl
      | cons a r =>
        refine iteT' ?_ ?_
        · simp
        refine ⟨fun σ' H' => σ' = σ2 ∧ ∃ fps3, EnvOk X.K C Z0 B Z H' σ2 (env1.set i (some (srcD r.reverse a x' t))) fps3 ∧ fps3 i = [q, c] ∧ SrcAt H' q c r.reverse a x' t, ?_, ?_⟩
        · intro σ' H' hh
          obtain ⟨h1, fps3, I3, hf3, hS3⟩ := hh
          refine ⟨r.length, Nat.lt_succ_self _, h1, r, a, fps3, rfl, I3, hf3, hS3, ?_⟩
          rw [← hd2]
          conv => rhs; unfold drain
          rw [if_pos hl2]
        · obtain ⟨hp1, hp3⟩ := popped (r := r) (a := a)
          refine ⟨_, hσj, .inl ⟨rfl, _, SqL.of hS2.hc⟩, c, _, _, rfl, rfl, hS2.hc, hp1, ?_⟩
          rw [hp3]
          have hne := hS2.ne
          have S3 : SrcAt (upd H2 c (.lst (r.reverse.map V.int))) q c r.reverse l2 x' t := ⟨by rw [upd_ne hne]; exact hS2.hq, upd_same⟩
          have I3 := I2.srcSet hu hσi hf2 (p := c) (by simp) S3
          have hpt := DPut.k (k := .inr "left") (v := .int a) S3.hq (by rw [sizeLine_eq]; show 4 < _; decide)
          refine ⟨_, hσi, q, _, rfl, hpt, rfl, setFp (setFp fps2 i [q, c]) i [q, c], ?_⟩
          have S4 : SrcAt (upd (upd H2 c (.lst (r.reverse.map V.int))) q (.dK (putK (srcK c l2 x' t) (.inr "left") (.int a)))) q c r.reverse a x' t := ⟨upd_same, by rw [upd_ne (Ne.symm hne)]; exact S3.hc⟩
          have I4 := I3.srcSet hu hσi (c := c) (by unfold setFp; rw [if_pos rfl]) (p := q) (by simp) S4
          rw [List.set_set, List.set_set] at I4
          exact ⟨I4, by unfold setFp; rw [if_pos rfl], S4⟩
    · rw [decide_eq_false hl2]
      refine iteF ?_
      refine iteF ?_
      refine stop ?_
      cases r with
      | nil => rfl
      | cons a r => unfold drain; rw [if_neg hl2]
end Dz

set_option maxRecDepth 100000
set_option maxHeartbeats 2000000
namespace Dz
open PySem PySem.Spec PyProof.Rows L2
/-! ## the making of a source -/
section
variable {K : PySem.W.Frag} {H H' : Hp} {a : Addr} {xs : List V}
theorem Rd.same {u : HO} (e : Same H H') (h : Rd H a u) : Rd H' a u := by
  rcases h with h | ⟨o, h⟩
  · exact .inl (e _ _ h)
  · exact .inr ⟨o, e _ _ h⟩
theorem sqL_same (e : Same H H') (h : SqL K H a xs) : SqL K H' a xs := h.imp (Rd.same e) id
theorem EnvU.nil : EnvU K [] H H [] [] := ⟨rfl, fun i d _ h => (nomatch h), fun i d h => (nomatch h)⟩
theorem EnvU.consN {σ : L2.St} {env : Env} {o : Option V} (h : EnvU K [] H H σ env) : EnvU K [] H H (o :: σ) (none :: env) := by
  have key : ∀ (i : Nat) d, (none :: env)[i]? = some (some d) → ∃ v, (o :: σ)[i]? = some (some v) ∧ Rep K H v d := fun i d e => by
    cases i with
    | zero => simp at e
    | succ i =>
      rw [List.getElem?_cons_succ] at e ⊢
      exact h.vis i d e
  exact ⟨by simp [h.len], fun i d _ e => key i d e, key⟩
theorem EnvU.consI {σ : L2.St} {env : Env} {c : Int} (h : EnvU K [] H H σ env) : EnvU K [] H H (some (.int c) :: σ) (some (.int c) :: env) := by
  have key : ∀ (i : Nat) d, (some (.int c) :: env)[i]? = some (some d) → ∃ v, (some (.int c) :: σ : L2.St)[i]? = some (some v) ∧ Rep K H v d := fun i d e => by
    cases i with
    | zero =>
      simp at e
      subst e
      exact ⟨_, rfl, .int c⟩
    | succ i =>
      rw [List.getElem?_cons_succ] at e ⊢
      exact h.vis i d e
  exact ⟨by simp [h.len], fun i d _ e => key i d e, key⟩
end
/-- the script is told, a source comes back -/
def spS (K : PySem.W.Frag) : Sp := fun vs H Q _ => ∃ (a : Addr) (ns : List Int), vs = [.ref a] ∧ SqL K H a (ns.map V.int) ∧ ns.length ≤ 63 ∧ ∀ q c H' cs l x t, SrcAt H' q c cs l x t → Q (.ref q) H'
def fStir : PF := cBin gMod (cCall gInt1 (aCons (cBin gAdd (cBin gAdd (cBin gMulI (cV 1) (cC (.int 69069))) (cBin gMulI (cV 2) (cC (.int 31)))) (cC (.int 5))) aNil)) (cC (.int 2147483629))
def fAbs : PF := cCall gAbs (aCons (cV 2) aNil)
def tSrcA (K : PySem.W.Frag) : TS := tSeq (tAsg (tC (.int 11)) (gName 1)) (tSeq (tFor (iList K (tVar 0)) (gName 2) (tAsg (semP K [] fStir) (gName 1)))
  (tSeq (tAsg (tLc (iList K (tVar 0)) (gName 2) (semT K [] cYes) (semP K [] fAbs) [2]) (gName 3))
    (tRet (tDisp [(tC (.str "cells"), tRevL K (tVar 3)), (tC (.str "left"), tC (.int 1)), (tC (.str "mixed"), tVar 1), (tC (.str "turn"), tC (.int 0))]))))
def tSrcB (K : PySem.W.Frag) : TS := tSeq (tAsg (tC (.int 11)) (gName 1)) (tSeq (tFor (iList K (tVar 0)) (gName 2) (tAsg (semP K [] fStir) (gName 1)))
    (tRet (tDisp [(tC (.str "cells"), tRevL K (tLc (iList K (tVar 0)) (gName 2) (semT K [] cYes) (semP K [] fAbs) [2])), (tC (.str "left"), tC (.int 1)), (tC (.str "mixed"), tVar 1), (tC (.str "turn"), tC (.int 0))])))
theorem fStir_ok (s c : Int) (r : Env) (x : Option D) : ∃ y, fStir (x :: some (.int s) :: some (.int c) :: r) = .ok (.int y) := by
  refine ⟨(s * 69069 + c * 31 + 5) % 2147483629, ?_⟩
  simp [fStir, cBin, cCall, aCons, aNil, cV, cC, gMulI, gAdd, gInt1, gMod]
theorem fAbs_ok (c : Int) (r : Env) (x y : Option D) : fAbs (x :: y :: some (.int c) :: r) = .ok (.int (if c < 0 then -c else c)) := rfl
theorem EnvU.nones {K : PySem.W.Frag} {H : Hp} : ∀ tl : L2.St, EnvU K [] H H tl (tl.map fun _ => none)
  | [] => EnvU.nil
  | _ :: tl => (EnvU.nones tl).consN
section
variable {K : PySem.W.Frag} {H : Hp} {a : Addr} {ns : List Int} {D : Ends}
theorem sq_at {H' : Hp} {i : Nat} {x : V} (hs : SqL K H' a (ns.map V.int)) (hy : ∀ xs, SqL K H' a xs → xs[i]? = some x) : ∃ n, ns[i]? = some n ∧ x = .int n := by
  have := hy _ hs
  rw [List.getElem?_map] at this
  cases q : ns[i]? with
  | none => rw [q] at this; cases this
  | some n =>
    rw [q] at this
    cases this
    exact ⟨n, rfl, rfl⟩
theorem stir_loop {tl : L2.St} (hs : SqL K H a (ns.map V.int)) {c0 : Option V} {s0 : Int}
    (hq : ∀ s c' H', Same H H' → D.nx (some (.ref a) :: some (.int s) :: c' :: tl) H') : tFor (iList K (tVar 0)) (gName 2) (tAsg (semP K [] fStir) (gName 1)) D (some (.ref a) :: some (.int s0) :: c0 :: tl) H := by
  refine ⟨_, rfl, a, rfl, ⟨_, hs⟩, ?_⟩
  refine ⟨fun i m σ H' => m = ns.length - i ∧ i ≤ ns.length ∧ Same H H' ∧ ∃ s c', σ = some (.ref a) :: some (.int s) :: c' :: tl, ⟨_, rfl, Nat.zero_le _, Same.refl _, s0, c0, rfl⟩, fun i m σ H' hW => ?_⟩
  obtain ⟨rfl, hile, hh, s, c', rfl⟩ := hW
  have hs' := sqL_same hh hs
  by_cases hlt : i < ns.length
  · refine .inr ⟨⟨_, _, hs', by rw [List.getElem?_map, List.getElem?_eq_getElem hlt]; rfl⟩, fun σ H' => Same H H' ∧ ∃ s c', σ = some (.ref a) :: some (.int s) :: c' :: tl, fun σ' H2 ⟨h1, h2⟩ => ⟨ns.length - (i + 1), by omega, rfl, hlt, h1, h2⟩, fun x H2 y => ?_⟩
    obtain ⟨rfl, y⟩ := y
    obtain ⟨n, _, rfl⟩ := sq_at hs' y
    obtain ⟨z, hz⟩ := fStir_ok s n (tl.map fun _ => none) none
    refine ⟨H2, _, _, Same.refl _, ((EnvU.nones tl).consI.consI.consN : EnvU K [] H2 H2 (some (.ref a) :: some (.int s) :: some (.int n) :: tl) _), hz, fun v Z1 H1 g r => ?_⟩
    cases r
    exact ⟨hh.trans g.hh, z, some (.int n), rfl⟩
  · have : i = ns.length := by omega
    subst this
    exact .inl ⟨⟨_, hs', by simp⟩, hq s c' H' hh⟩
def absI (c : Int) : Int := if c < 0 then -c else c
theorem abs_loop {tl : L2.St} {Q : VK} (hs : SqL K H a (ns.map V.int)) (hn : ns.length ≤ 63) {c0 : Option V} {s0 : Int}
    (hq : ∀ p H', Same H H' → H' p = some (.lst ((ns.map absI).map V.int)) → Q (.ref p) H') : tLc (iList K (tVar 0)) (gName 2) (semT K [] cYes) (semP K [] fAbs) [2] (some (.ref a) :: some (.int s0) :: c0 :: tl) H Q := by
  refine ⟨_, rfl, a, rfl, ⟨_, hs⟩, fun p np => ?_⟩
  refine ⟨fun i m H' => m = ns.length - i ∧ i ≤ ns.length ∧ Same H H' ∧ H' p = some (.lst (((ns.take i).map absI).map V.int)), ⟨_, rfl, Nat.zero_le _, same_upd np, upd_same⟩, fun i m H' hW => ?_⟩
  obtain ⟨rfl, hile, hh, hp⟩ := hW
  have hs' := sqL_same hh hs
  by_cases hlt : i < ns.length
  · refine .inr ⟨⟨_, _, hs', by rw [List.getElem?_map, List.getElem?_eq_getElem hlt]; rfl⟩, fun H' => Same H H' ∧ H' p = some (.lst (((ns.take (i + 1)).map absI).map V.int)), fun H2 ⟨h1, h2⟩ => ⟨ns.length - (i + 1), by omega, rfl, hlt, h1, h2⟩, fun x H2 y => ?_⟩
    obtain ⟨rfl, y⟩ := y
    obtain ⟨n, hn1, rfl⟩ := sq_at hs' y
    refine ⟨rfl, H2, _, true, Same.refl _, EnvU.nones (some (.ref a) :: some (.int s0) :: some (.int n) :: tl), rfl, fun Z1 H1 g => ?_⟩
    refine iteT ?_
    refine ⟨H1, _, _, Same.refl _, ((EnvU.nones tl).consI.consN.consN : EnvU K [] H1 H1 (some (.ref a) :: some (.int s0) :: some (.int n) :: tl) _), fAbs_ok n _ _ _, fun v Z3 H3 g3 r => ?_⟩
    cases r
    have s13 := g.hh.trans g3.hh
    have s03 := hh.trans s13
    have e3 := s13 _ _ hp
    refine ⟨_, e3, by simp [sizeLine_eq]; omega, ?_, ?_⟩
    · intro b o hb
      rw [upd_ne (ne_of_none hb np)]
      exact s03 _ _ hb
    · rw [upd_same, List.take_succ, hn1]
      simp [absI]
  · have : i = ns.length := by omega
    subst this
    rw [List.take_length] at hp
    exact .inl ⟨⟨_, hs', by simp⟩, hq p H' hh hp⟩
theorem merged_src (c : Addr) (l x t : Int) : mergeK [] [(.inr "cells", .ref c), (.inr "left", .int l), (.inr "mixed", .int x), (.inr "turn", .int t)] = srcK c l x t := by rfl
theorem tSrcA_ok {Q : VK} (hs : SqL K H a (ns.map V.int)) (hn : ns.length ≤ 63) (hD : ∀ v H', D.rt v H' = Q v H') (hq : ∀ q c H' cs l x t, SrcAt H' q c cs l x t → Q (.ref q) H') : tSrcA K D [some (.ref a), none, none, none] H := by
  refine stir_loop (tl := [none]) hs fun s c' H1 h1 => ?_
  dsimp only [tSeq, tAsg]
  refine abs_loop (tl := [none]) (sqL_same h1 hs) hn fun p H2 h2 hp => ?_
  show tDisp _ [some (.ref a), some (.int s), c', some (.ref p)] H2 _
  intro q nq
  have hpq : p ≠ q := ne_of_none hp nq
  refine ⟨_, rfl, p, _, rfl, .inl (.inl (by rw [upd_ne hpq]; exact hp)), fun c nc => ?_⟩
  have hcq : q ≠ c := fun e => by rw [e, upd_same] at nc; cases nc
  refine ⟨_, rfl, by rw [upd_ne hcq, upd_same], [(.inr "cells", .ref c), (.inr "left", .int 1), (.inr "mixed", .int s), (.inr "turn", .int 0)], rfl, by show 4 ≤ 15; decide, ?_⟩
  rw [merged_src]
  show D.rt _ _
  rw [hD]
  refine hq q c _ (ns.map absI).reverse 1 s 0 ⟨upd_same, ?_⟩
  rw [upd_ne (Ne.symm hcq), upd_same, List.map_reverse]
theorem tSrcB_ok {Q : VK} (hs : SqL K H a (ns.map V.int)) (hn : ns.length ≤ 63) (hD : ∀ v H', D.rt v H' = Q v H') (hq : ∀ q c H' cs l x t, SrcAt H' q c cs l x t → Q (.ref q) H') : tSrcB K D [some (.ref a), none, none] H := by
  refine stir_loop (tl := []) hs fun s c' H1 h1 => ?_
  show tDisp _ [some (.ref a), some (.int s), c'] H1 _
  intro q nq
  dsimp only [tPairs, tRevL, tC]
  refine abs_loop (tl := []) (sqL_same (same_upd nq) (sqL_same h1 hs)) hn fun p H2 h2 hp => ?_
  refine ⟨p, _, rfl, .inl (.inl hp), fun c nc => ?_⟩
  have hq2 : H2 q = some (.dK []) := h2 _ _ upd_same
  have hcq : q ≠ c := fun e => by rw [e, nc] at hq2; cases hq2
  refine ⟨_, rfl, by rw [upd_ne hcq]; exact hq2, [(.inr "cells", .ref c), (.inr "left", .int 1), (.inr "mixed", .int s), (.inr "turn", .int 0)], rfl, by show 4 ≤ 15; decide, ?_⟩
  rw [merged_src]
  show D.rt _ _
  rw [hD]
  refine hq q c _ (ns.map absI).reverse 1 s 0 ⟨upd_same, ?_⟩
  rw [upd_ne (Ne.symm hcq), upd_same, List.map_reverse]
end
/-- the def that makes a source -/
structure HasSrc (P : Program) (w : World) (K : PySem.W.Frag) (mg : Str → Option Value) (base : Heap) (x : Str) (k : Nat) : Prop where
  ex : ∃ f fd ps, FnG P w K mg base CX0 k f fd ps (spS K) ∧ mg x = some (.ref f) ∧ PySem.W.keepIn K (.ref f) = true ∧ Binds K fd ps []
section
variable {P : Program} {w : World} {K : PySem.W.Frag} {mg : Str → Option Value} {base : Heap}
theorem mkSrcA {x : Str} {st : Stmt} {N ps : List Str} {k : Nat} (F : FunAt K mg x st) (S : FnScope N ps (defScope st)) (h1 : ps.length = 1) (hN : N.length = 4)
    (hb : ∀ (kV doc pm : Value) (an : Option Addr) (cdv ct : Value) (us : List Value), us.length = ps.length → bindArgs (PySem.W.fnOf x x (defArgs st) (defBody st) (defScope st) .none kV doc pm an cdv ct) ⟨us, []⟩ = pure (ps.zip us))
    (hbody : ∀ (f : Addr) (cdv : Value) (A : Around) (outer : List PySem.Env) (s : Shared) (H : Hp) (E : XK), RmG k (A.deeper (envOfC x (defScope st) s.heap.objs.size f cdv)) → PSs (cxOf CX0 P w K mg base N x (defScope st) f cdv A outer s H E).nox (defBody st) (tSrcA K)) :
    HasSrc P w K mg base x (k + 1) := by
  obtain ⟨fa, fd, F, hm⟩ := F.ex
  refine ⟨fa, fd, ps, ?_, hm, F.kp, F.bindsN hb⟩
  refine fnG_of F S (fun vs H Q E h => ?_) fun cdv A outer s H vs Q E hr h => ?_
  · obtain ⟨a, ns, rfl, _⟩ := h
    exact h1.symm
  · obtain ⟨a, ns, rfl, hs, hn, hq⟩ := h
    refine ⟨_, (hbody fa cdv A outer s H E hr).nox, ?_⟩
    have : L2.start N [V.ref a] = [some (.ref a), none, none, none] := by
      unfold L2.start
      rw [hN]
      rfl
    rw [this]
    exact tSrcA_ok hs hn (fun _ _ => rfl) hq
theorem mkSrcB {x : Str} {st : Stmt} {N ps : List Str} {k : Nat} (F : FunAt K mg x st) (S : FnScope N ps (defScope st)) (h1 : ps.length = 1) (hN : N.length = 3)
    (hb : ∀ (kV doc pm : Value) (an : Option Addr) (cdv ct : Value) (us : List Value), us.length = ps.length → bindArgs (PySem.W.fnOf x x (defArgs st) (defBody st) (defScope st) .none kV doc pm an cdv ct) ⟨us, []⟩ = pure (ps.zip us))
    (hbody : ∀ (f : Addr) (cdv : Value) (A : Around) (outer : List PySem.Env) (s : Shared) (H : Hp) (E : XK), RmG k (A.deeper (envOfC x (defScope st) s.heap.objs.size f cdv)) → PSs (cxOf CX0 P w K mg base N x (defScope st) f cdv A outer s H E).nox (defBody st) (tSrcB K)) :
    HasSrc P w K mg base x (k + 1) := by
  obtain ⟨fa, fd, F, hm⟩ := F.ex
  refine ⟨fa, fd, ps, ?_, hm, F.kp, F.bindsN hb⟩
  refine fnG_of F S (fun vs H Q E h => ?_) fun cdv A outer s H vs Q E hr h => ?_
  · obtain ⟨a, ns, rfl, _⟩ := h
    exact h1.symm
  · obtain ⟨a, ns, rfl, hs, hn, hq⟩ := h
    refine ⟨_, (hbody fa cdv A outer s H E hr).nox, ?_⟩
    have : L2.start N [V.ref a] = [some (.ref a), none, none] := by
      unfold L2.start
      rw [hN]
      rfl
    rw [this]
    exact tSrcB_ok hs hn (fun _ _ => rfl) hq
end
/-! ## the law itself -/
/-- the script is told, True comes back -/
def spLaw (K : PySem.W.Frag) : Sp := fun vs H Q _ => ∃ (a : Addr) (ns : List Int), vs = [.ref a] ∧ SqL K H a (ns.map V.int) ∧ ns.length ≤ 63 ∧ ∀ H', Q (.bl true) H'
/-- what is behind source = ..: from any source the text tells True -/
def LawTrue (i n : Nat) (g : SF) : Prop := ∀ cs l x t, ∃ env', g ((List.replicate n none).set i (some (srcD cs l x t))) = .ok (.rt (.bool true), env')
def oE : Hp := fun _ => none
theorem oE_same {H : Hp} : Same oE H := fun _ _ e => (nomatch e)
section
variable {P : Program} {w : World} {K : PySem.W.Frag} {mg : Str → Option Value} {base : Heap}
theorem ps_src {X : Cx} {i j k : Nat} {y src : Str} {p1 p2 p3 p4 p5 : Pos} (hS : HasSrc X.prog X.w X.K X.mg X.base src j) (hr : RmG k X.A) (hj : j ≤ k) (hg : Gl X src) (hN : X.N.Nodup) (hi : X.N[i]? = some y) (hx : Loc X.env.scope y) (h0 : X.N[0]? = some ("script" : Str)) (hv : Vis X.env.scope "script")
    (hdb : (src == ("__debug__" : Str)) = false := by decide) (he : starEach (.Name "script" p3 :: []) X.env = (false, eval (.Name "script" p3) X.env) :: starEach [] X.env := by rfl) (hs : swapsWith (.Call (.Name src p2) [.Name "script" p3] [] p4) (some (.Name y p1)) p5.line X.env = pure false := by rfl)
    (hf : X.fn y = true ∨ X.env.scope.names.lookup y = some .local := by first | exact .inl rfl | exact .inr rfl | assumption) :
    PS X (.Assign [.Name y p1] (.Call (.Name src p2) [.Name "script" p3] [] p4) p5) (tAsg (tCall (spS X.K) [] E0 (tCons (tVar 0) tNil)) (gName i)) := by
  obtain ⟨f, fd, ps, G1, m1, m2, m3⟩ := hS.ex
  exact ps_set hN hi hx (pe_callG G1 (hr.mono hj) hg m1 m2 m3 .nil pass0 (pa_cons (pe_var h0 hv) pa_nil he) hdb he) hs hf
theorem mkLaw {x : Str} {st first : Stmt} {rest : List Stmt} {N : List Str} {k i : Nat} {g : SF} {fa : Addr} {fd : FuncData} (ms : List (Nat × Mode)) (F : FunD K x x (defArgs st) (defBody st) (defScope st) [] [] fa fd) (S : FnScope N ["script"] (defScope st)) (hst : defBody st = first :: rest) (hi : 0 < i) (hin : i < N.length)
    (hfirst : ∀ (f : Addr) (cdv : Value) (A : Around) (outer : List PySem.Env) (s : Shared) (H : Hp) (E : XK), RmG k (A.deeper (envOfC x (defScope st) s.heap.objs.size f cdv)) → PS (cxOf CX0 P w K mg base N x (defScope st) f cdv A outer s H E).nox first (tAsg (tCall (spS K) [] E0 (tCons (tVar 0) tNil)) (gName i)))
    (hrest : ∀ (f : Addr) (cdv : Value) (A : Around) (outer : List PySem.Env) (s : Shared) (H : Hp) (E : XK), RmG k (A.deeper (envOfC x (defScope st) s.heap.objs.size f cdv)) → DSs (cxOf CX0 P w K mg base N x (defScope st) f cdv A outer s H E).nox (cf0 ((i, mSrc) :: ms)) rest g)
    (hlaw : LawTrue i N.length g) : FnG P w K mg base CX0 (k + 1) fa fd ["script"] (spLaw K) := by
  refine fnG_of F S (fun vs H Q E h => ?_) fun cdv A outer s H vs Q E hr h => ?_
  · obtain ⟨a, ns, rfl, _⟩ := h
    rfl
  · obtain ⟨a, ns, rfl, hs, hn, hq⟩ := h
    obtain ⟨t, h1, h2⟩ := (hrest fa cdv A outer s H E hr).ex
    rw [hst]
    refine ⟨_, (pss_cons (hfirst fa cdv A outer s H E hr) h1).nox, ?_⟩
    have hlen : (L2.start N [V.ref a]).length = N.length := by
      unfold L2.start
      simp
      omega
    refine ⟨_, start_get (i := 0) rfl, a, ns, rfl, hs, hn, fun q c H' cs l x' t' hS => ?_⟩
    obtain ⟨env', he⟩ := hlaw cs l x' t'
    have hget : ∀ (j : Nat) d, ((List.replicate N.length none).set i (some (srcD cs l x' t')))[j]? = some (some d) → j = i ∧ d = srcD cs l x' t' := fun j d e => by
      by_cases hj : i = j
      · subst hj
        rw [List.getElem?_set_self (by simpa using hin)] at e
        cases e
        exact ⟨rfl, rfl⟩
      · rw [List.getElem?_set_ne hj, List.getElem?_replicate] at e
        split at e <;> cases e
    have hso : ((L2.start N [V.ref a]).set i (some (.ref q)))[i]? = some (some (.ref q)) := List.getElem?_set_self (by rw [hlen]; exact hin)
    have hli : ((i, mSrc) :: ms).lookup i = some mSrc := by simp [List.lookup_cons]
    refine h2 _ oE oE oE H' ((List.replicate N.length none).set i (some (srcD cs l x' t'))) (fun j => if j = i then [q, c] else []) _ ⟨⟨Same.refl _, oE_same, oE_same, fun _ _ e => (nomatch e)⟩, by simp [hlen], fun j d hu e => ?_, fun j m hm d e => ?_, fun j b hb => ?_, fun j j' b h1 h2 => ?_, fun j v hv => (nomatch hv)⟩ ?_
    · obtain ⟨rfl, _⟩ := hget j d e
      simp [cf0] at hu
    · obtain ⟨rfl, rfl⟩ := hget j d e
      have : m = mSrc := by
        have : ((j, mSrc) :: ms).lookup j = some m := hm
        rw [hli] at this
        cases this; rfl
      subst this
      exact ⟨_, hso, q, c, cs, l, x', t', rfl, rfl, by rw [if_pos rfl], hS⟩
    · split at hb
      · refine ⟨rfl, rfl, ?_⟩
        rcases List.mem_cons.mp hb with rfl | hb
        · exact ⟨_, hS.hq, fun _ z => by cases z⟩
        · obtain rfl : b = c := by simpa using hb
          exact ⟨_, hS.hc, fun _ z => by cases z⟩
      · cases hb
    · split at h1
      · split at h2
        · rename_i e1 e2; rw [e1, e2]
        · cases h2
      · cases h1
    · rw [he]
      intro v σ' Z' H2 fps' fp _ ho _ _
      cases ho.2
      exact hq H2
end
end Dz

set_option maxRecDepth 100000
set_option maxHeartbeats 2000000
namespace Dz
open PySem PySem.Spec PyProof.Rows L2
def sDrainB (i j : Nat) : SF := fun env => (slotAt env j).bindP fun m => (intOf m).bindP fun m => (slotAt env i).bindP fun s => (srcOf s).bindP fun r => .ok (.nx, if 1 < m then env.set i (some (srcD (drain r.1.reverse r.2.1).1.reverse (drain r.1.reverse r.2.1).2 r.2.2.1 r.2.2.2)) else env)
theorem set_self {i : Nat} {d : D} {env : Env} (h : env[i]? = some (some d)) : env.set i (some d) = env := by
  apply List.ext_getElem?
  intro n
  by_cases hn : i = n
  · subst hn
    rw [List.getElem?_set, h]
    have hlt := (List.getElem?_eq_some_iff.mp h).1
    simp [hlt]
  · rw [List.getElem?_set_ne hn]
/-- while many > 1 and source["left"] < 2 and len(source["cells"]) > 0: source["left"] = source["cells"].pop() -/
theorem ds_drainB {X : Cx} {C : Cf} {i j k k0 k1 k2 k3 k4 k5 k6 : Nat} {x y : Str} {p1 p2 p3 p4 p5 p6 p7 p8 p9 p10 p11 p12 p13 p14 p15 p16 p17 p18 p19 p20 p21 p22 p23 p24 p25 p26 : Pos} (hr : RmG k X.A) (hp : PassesOwn (model X.prog X.w) X.A X.env X.xe) (hi : X.N[i]? = some x) (hj : X.N[j]? = some y)
    (hv : Vis X.env.scope x) (hy : Vis X.env.scope y) (hg : Gl X "len") (hm : X.mg "len" = none) (hu : C.ms.lookup i = some mSrc) (hu2 : C.us.contains j = false) (hij : i ≠ j)
    (hd : (x == ("__debug__" : Str)) = false) (hcd : (x == ("__classdict__" : Str)) = false) (hd2 : (y == ("__debug__" : Str)) = false) (hcd2 : (y == ("__classdict__" : Str)) = false)
    (hs2 : swapsWith (.Call (.Attribute (.Subscript (.Name x p1) (.Constant (.str "cells") k0 p2) p3) "pop" p7) [] [] p8) (some (.Subscript (.Name x p9) (.Constant (.str "left") k1 p10) p11)) p12.line X.env = pure false)
    (hbase : attributeBase (.Subscript (.Name x p1) (.Constant (.str "cells") k0 p2) p3) "pop" X.env (eval (.Subscript (.Name x p1) (.Constant (.str "cells") k0 p2) p3) X.env) = eval (.Subscript (.Name x p1) (.Constant (.str "cells") k0 p2) p3) X.env) (hline : (p7.endLine == p8.line) = true)
    (hst : starEach [.Subscript (.Name x p18) (.Constant (.str "cells") k5 p19) p20] X.env = (false, eval (.Subscript (.Name x p18) (.Constant (.str "cells") k5 p19) p20) X.env) :: starEach [] X.env) :
    DS X C (.While (.BoolOp .And [.Compare (.Name y p4) [.Gt] [.Constant (.int 1) k4 p5] p6, .Compare (.Subscript (.Name x p13) (.Constant (.str "left") k2 p14) p15) [.Lt] [.Constant (.int 2) k3 p16] p17, .Compare (.Call (.Name "len" p21) [.Subscript (.Name x p18) (.Constant (.str "cells") k5 p19) p20] [] p22) [.Gt] [.Constant (.int 0) k p23] p24] p25)
        [.Assign [.Subscript (.Name x p9) (.Constant (.str "left") k1 p10) p11] (.Call (.Attribute (.Subscript (.Name x p1) (.Constant (.str "cells") k0 p2) p3) "pop" p7) [] [] p8) p12] [] p26) (sDrainB i j) := by
  refine ⟨_, ps_while hp
    (pw_and (pt_cmpR op_gt (pe_var hj hy hd2 hcd2) pe_int (nomark _)) (pw_and (pt_cmpR op_lt (pe_dget (room1 hr) (pe_var hi hv hd hcd) pe_str (fun _ _ => rfl)) pe_int (nomark _))
      (pw_and1 (pt_cmpR op_gt (pe_callB call_len hg hm boot_len (pa_cons (pe_dget (room1 hr) (pe_var hi hv hd hcd) pe_str (fun _ _ => rfl)) pa_nil hst) (by decide) (by decide) hst) pe_int (nomark _))))).pt
    (pss_one (ps_dput (room1 hr) (pe_var hi hv hd hcd) pe_str (pe_bm0 PySem.F.plainAttrs_list PySem.F.slot_list_pop PySem.F.type_list_pop mt_pop (pe_dget (room1 hr) (pe_var hi hv hd hcd) pe_str (fun _ _ => rfl)) hbase hline) hs2)), fun σ Z0 B Z H env fps E I hh => ?_⟩
  obtain ⟨m, e0, hh1⟩ := post_bindP hh
  obtain ⟨mi, e1, hh2⟩ := post_bindP hh1
  obtain ⟨s, e2, hh3⟩ := post_bindP hh2
  obtain ⟨⟨cs, l, x', t⟩, e3, h⟩ := post_bindP hh3
  clear hh hh1 hh2 hh3
  cases m with
  | int mi' =>
    cases e1
    obtain ⟨q, c, hσi, hS, hfp, e5⟩ := I.src hu e2 e3
    simp only at hS e5
    subst e5
    obtain ⟨v, hσj, rv⟩ := I.frz j _ hu2 (of_slotAt e0)
    cases rv
    by_cases hm1 : 1 < mi
    · rw [if_pos hm1] at h
      have h : ∀ σ2 Z2 H2 fps2, EnvOk X.K C Z0 B Z2 H2 σ2 (env.set i (some (srcD (drain cs.reverse l).1.reverse (drain cs.reverse l).2 x' t))) fps2 → E.nx σ2 H2 := h
      refine ⟨fun m σ2 H2 => σ2 = σ ∧ ∃ r l2 fps2, m = r.length ∧ EnvOk X.K C Z0 B Z H2 σ (env.set i (some (srcD r.reverse l2 x' t))) fps2 ∧ fps2 i = [q, c] ∧ SrcAt H2 q c r.reverse l2 x' t ∧ drain r l2 = drain cs.reverse l, ⟨_, rfl, cs.reverse, l, fps, rfl, ?_, hfp, ?_, rfl⟩, fun m σ2 H2 hW => ?_⟩
      · rw [List.reverse_reverse, set_self (of_slotAt e2)]
        exact I
      · rw [List.reverse_reverse]; exact hS
      · obtain ⟨rfl, r, l2, fps2, rfl, I2, hf2, hS2, hd2⟩ := hW
        have g2 : DGet H2 q (.str "left") (some (.int l2)) := DGet.k (k := .inr "left") hS2.hq
        have g3 : DGet H2 q (.str "cells") (some (.ref c)) := DGet.k (k := .inr "cells") hS2.hq
        have stop : drain r l2 = (r, l2) → E.nx σ2 H2 := fun e => by
          rw [← hd2, e] at h
          exact h σ2 Z H2 fps2 I2
        refine ⟨_, hσj, mi, 1, rfl, rfl, _, rfl, ?_⟩
        rw [decide_eq_true hm1]
        refine iteT ?_
        refine ⟨_, hσi, q, _, rfl, g2, l2, 2, rfl, rfl, _, rfl, ?_⟩
        by_cases hl2 : l2 < 2
        · rw [decide_eq_true hl2]
          refine iteT ?_
          refine ⟨_, hσi, q, _, rfl, g3, _, _, rfl, .inl ⟨_, SqL.of hS2.hc, rfl⟩, _, 0, rfl, rfl, _, rfl, ?_⟩
          cases r with
          | nil =>
            refine iteF' ?_ ?_
            · simp
            · exact stop rfl
          | cons a r =>
            refine iteT' ?_ ?_
            · simp
            refine ⟨fun σ' H' => σ' = σ2 ∧ ∃ fps3, EnvOk X.K C Z0 B Z H' σ2 (env.set i (some (srcD r.reverse a x' t))) fps3 ∧ fps3 i = [q, c] ∧ SrcAt H' q c r.reverse a x' t, ?_, ?_⟩
            · intro σ' H' hh
              obtain ⟨h1, fps3, I3, hf3, hS3⟩ := hh
              refine ⟨r.length, Nat.lt_succ_self _, h1, r, a, fps3, rfl, I3, hf3, hS3, ?_⟩
              rw [← hd2]
              conv => rhs; unfold drain
              rw [if_pos hl2]
            · obtain ⟨hp1, hp3⟩ := popped (r := r) (a := a)
              refine ⟨_, hσi, q, _, rfl, g3, .inl ⟨rfl, _, SqL.of hS2.hc⟩, c, _, _, rfl, rfl, hS2.hc, hp1, ?_⟩
              rw [hp3]
              have hne := hS2.ne
              have S3 : SrcAt (upd H2 c (.lst (r.reverse.map V.int))) q c r.reverse l2 x' t := ⟨by rw [upd_ne hne]; exact hS2.hq, upd_same⟩
              have I3 := I2.srcSet hu hσi hf2 (p := c) (by simp) S3
              have hpt := DPut.k (k := .inr "left") (v := .int a) S3.hq (by rw [sizeLine_eq]; show 4 < _; decide)
              refine ⟨_, hσi, q, _, rfl, hpt, rfl, setFp (setFp fps2 i [q, c]) i [q, c], ?_⟩
              have S4 : SrcAt (upd (upd H2 c (.lst (r.reverse.map V.int))) q (.dK (putK (srcK c l2 x' t) (.inr "left") (.int a)))) q c r.reverse a x' t := ⟨upd_same, by rw [upd_ne (Ne.symm hne)]; exact S3.hc⟩
              have I4 := I3.srcSet hu hσi (c := c) (by unfold setFp; rw [if_pos rfl]) (p := q) (by simp) S4
              rw [List.set_set, List.set_set] at I4
              exact ⟨I4, by unfold setFp; rw [if_pos rfl], S4⟩
        · rw [decide_eq_false hl2]
          refine iteF ?_
          refine iteF ?_
          refine stop ?_
          cases r with
          | nil => rfl
          | cons a r => unfold drain; rw [if_neg hl2]
    · rw [if_neg hm1] at h
      refine ⟨fun m σ2 H2 => σ2 = σ ∧ H2 = H, ⟨0, rfl, rfl⟩, fun m σ2 H2 hW => ?_⟩
      obtain ⟨rfl, rfl⟩ := hW
      refine ⟨_, hσj, mi, 1, rfl, rfl, _, rfl, ?_⟩
      rw [decide_eq_false hm1]
      refine iteF ?_
      refine iteF ?_
      exact h σ2 Z H2 fps I
  | _ => cases e1
theorem dss_two {X : Cx} {C : Cf} {s1 s2 : Stmt} {rest : List Stmt} {g g' : SF} (h : ∃ t1 t2, PS X s1 t1 ∧ PS X s2 t2 ∧ SSem X.K C (tSeq t1 t2) g) (hr : DSs X C rest g') : DSs X C (s1 :: s2 :: rest) (sSeq g g') := by
  obtain ⟨t1, t2, a, b, c⟩ := h
  obtain ⟨t, d, e⟩ := hr.ex
  exact ⟨_, pss_cons a (pss_cons b d), fun σ Z0 B Z H env fps E I h => ssem_seq c e σ Z0 B Z H env fps E I h⟩
/-! ### picks -/
def gPickA : SF := sSeq (sIf (cTst (cBin (gCmp .lt) (cV 1) (cC (.int 2)))) (sRet (cC (.int 0))) sNil) (sSeq (sDrain 0 2) (sSeq (eSet 3 (eSrc 0 .left)) (sSeq (sIf (cTst (cBin (gCmp .gt) (cV 3) (cC (.int 1)))) (sSeq (eSrcPut 0 .left (eP (cBin gDiv (cV 3) (cV 1)))) (sRet (cBin gMod (cCall gInt1 (aCons (cV 3) aNil)) (cV 1)))) sNil) (sSeq (eSrcPut 0 .turn (eBin gAdd (eSrc 0 .turn) (eP (cC (.int 1))))) (sSeq (eSet 4 (eSrc 0 .turn)) (sSeq (eSet 5 (eBin gMod (eCall gInt1 (eaCons (eBin gAdd (eSrc 0 .mixed) (eP (cBin gMulI (cV 4) (cC (.int 104729))))) eaNil)) (eP (cC (.int 998244353))))) (sSeq (sSet 5 (cBin gMod (cCall gInt1 (aCons (cBin gAdd (cBin gMulI (cV 5) (cV 5)) (cBin gMulI (cV 4) (cC (.int 17)))) aNil)) (cC (.int 2147483647)))) (sRet (cBin gMod (cCall gInt1 (aCons (cBin gDiv (cV 5) (cC (.int 16))) aNil)) (cV 1))))))))))
def pickA : List D → R (D × D) := runM 6 gPickA
/-- what is known of a pick -/
def PickOk (F : List D → R (D × D)) : Prop := ∀ (cs : List Int) (l x t m : Int), m < 2 ^ 30 → ∃ r cs' l' x' t', F [srcD cs l x t, .int m] = .ok (.int r, srcD cs' l' x' t') ∧ 0 ≤ r ∧ (r < m ∨ m < 2 ∧ r = 0)
@[simp] theorem shaped_int (i : Int) : SeqAt.shaped (.int i) = true := rfl
@[simp] theorem shaped_bool (i : Bool) : SeqAt.shaped (.bool i) = true := rfl
@[simp] theorem shaped_none : SeqAt.shaped .none = true := rfl
@[simp] theorem gAdd_int (i j : Int) : gAdd (.int i) (.int j) = .ok (.int (i + j)) := rfl
@[simp] theorem gSub_int (i j : Int) : gSub (.int i) (.int j) = .ok (.int (i - j)) := rfl
@[simp] theorem gMulI_int (i j : Int) : gMulI (.int i) (.int j) = R.when (decide ((-(2 ^ 64) < i ∧ i < 2 ^ 64) ∨ (-(2 ^ 64) < j ∧ j < 2 ^ 64))) (.ok (.int (i * j))) := rfl
@[simp] theorem gDiv_int (i j : Int) : gDiv (.int i) (.int j) = R.when (decide (0 < j ∧ j < 1073741824)) (.ok (.int (i / j))) := rfl
@[simp] theorem gMod_int (i j : Int) : gMod (.int i) (.int j) = R.when (decide (0 < j)) (.ok (.int (i % j))) := rfl
@[simp] theorem gInt1_int (i : Int) : gInt1 [.int i] = .ok (.int i) := rfl
@[simp] theorem gCmp_int (c : Cop) (i j : Int) : gCmp c (.int i) (.int j) = .ok (.bool (c.i i j)) := by cases c <;> rfl
@[simp] theorem copi_lt (i j : Int) : Cop.lt.i i j = decide (i < j) := rfl
@[simp] theorem copi_le (i j : Int) : Cop.le.i i j = decide (i ≤ j) := rfl
@[simp] theorem copi_gt (i j : Int) : Cop.gt.i i j = decide (j < i) := rfl
@[simp] theorem copi_ge (i j : Int) : Cop.ge.i i j = decide (j ≤ i) := rfl
@[simp] theorem toB_bool (b : Bool) : toB (.bool b) = .ok b := rfl
@[simp] theorem intOf_int (i : Int) : intOf (.int i) = .ok i := rfl
theorem when_of {a : Type} {c : Bool} {r : R a} (h : c = true) : R.when c r = r := by rw [h]; rfl
theorem gMulI_of {i j : Int} (h : (-(2 ^ 64) < i ∧ i < 2 ^ 64) ∨ (-(2 ^ 64) < j ∧ j < 2 ^ 64)) : gMulI (.int i) (.int j) = .ok (.int (i * j)) := by rw [gMulI_int, when_of (decide_eq_true h)]
theorem pickA_ok : PickOk pickA := by
  intro cs l x t m hm
  by_cases h2 : m < 2
  · refine ⟨0, cs, l, x, t, ?_, Int.le_refl _, .inr ⟨h2, rfl⟩⟩
    simp [pickA, runM, gPickA, sSeq, sIf, cTst, cBin, cV, cC, sRet, slotAt, h2]
  · generalize hd : drain cs.reverse l = dr
    obtain ⟨cs2, l2⟩ := dr
    have hm0 : 0 < m := by omega
    by_cases h3 : 1 < l2
    · refine ⟨l2 % m, cs2.reverse, l2 / m, x, t, ?_, Int.emod_nonneg _ (by omega), .inl (Int.emod_lt_of_pos _ hm0)⟩
      simp [pickA, runM, gPickA, sSeq, sIf, cTst, cBin, cV, cC, sRet, slotAt, h2, sDrain, sNil, hd, eSet, eSrc, SK.get, h3, eSrcPut, eP, SK.put, cCall, aCons, aNil, hm0, hm]
      have hm' : m < 1073741824 := by simpa using hm
      simp [when_of, hm0, hm', h3, srcOf_srcD]
    · have ht : gMulI (.int (t + 1)) (.int 104729) = .ok (.int ((t + 1) * 104729)) := gMulI_of (.inr (by decide))
      have ht2 : gMulI (.int (t + 1)) (.int 17) = .ok (.int ((t + 1) * 17)) := gMulI_of (.inr (by decide))
      generalize he : (x + (t + 1) * 104729) % 998244353 = e
      have e0 : 0 ≤ e := by omega
      have e1 : e < 998244353 := by omega
      have ht3 : gMulI (.int e) (.int e) = .ok (.int (e * e)) := gMulI_of (.inr (by omega))
      refine ⟨(e * e + (t + 1) * 17) % 2147483647 / 16 % m, cs2.reverse, l2, x, t + 1, ?_, Int.emod_nonneg _ (by omega), .inl (Int.emod_lt_of_pos _ hm0)⟩
      simp [pickA, runM, gPickA, sSeq, sIf, cTst, cBin, cV, cC, sRet, slotAt, h2, sDrain, sNil, hd, eSet, eSrc, SK.get, h3, eSrcPut, eP, SK.put, cCall, aCons, aNil, hm0, hm, eBin, eCall, eaCons, eaNil, sSet, ht, ht2, ht3, he, -gMulI_int]

@[simp] theorem gMax2_int (i j : Int) : gMax2 [.int i, .int j] = .ok (.int (max i j)) := rfl
@[simp] theorem gMin2_int (i j : Int) : gMin2 [.int i, .int j] = .ok (.int (min i j)) := rfl
def gPickB : SF := sSeq (sDrainB 0 1) (sSeq (eSet 2 (eSrc 0 .left)) (sSeq (sIf (cOr (cTst (cBin (gCmp .lt) (cV 1) (cC (.int 2)))) (cTst (cBin (gCmp .gt) (cV 2) (cC (.int 1))))) (sSeq (eSrcPut 0 .left (eP (cBin gDiv (cV 2) (cCall gMax2 (aCons (cC (.int 1)) (aCons (cV 1) aNil)))))) (sRet (cBin gMod (cCall gInt1 (aCons (cV 2) aNil)) (cCall gMax2 (aCons (cC (.int 1)) (aCons (cV 1) aNil)))))) sNil)
  (sSeq (eSrcPut 0 .turn (eBin gAdd (eSrc 0 .turn) (eP (cC (.int 1))))) (sSeq (eSet 3 (eBin gMod (eCall gInt1 (eaCons (eBin gAdd (eSrc 0 .mixed) (eBin gMulI (eSrc 0 .turn) (eP (cC (.int 104729))))) eaNil)) (eP (cC (.int 998244353)))))
  (sSeq (eSet 3 (eBin gMod (eCall gInt1 (eaCons (eBin gAdd (eP (cBin gMulI (cV 3) (cV 3))) (eBin gMulI (eSrc 0 .turn) (eP (cC (.int 17))))) eaNil)) (eP (cC (.int 2147483647))))) (sSeq (eSrcPut 0 .mixed (eP (cV 3))) (sRet (cBin gMod (cCall gInt1 (aCons (cBin gDiv (cV 3) (cC (.int 16))) aNil)) (cV 1)))))))))
def pickB : List D → R (D × D) := runM 4 gPickB
theorem pickB_ok : PickOk pickB := by
  intro cs l x t m hm
  have hm' : m < 1073741824 := by simpa using hm
  by_cases h2 : m < 2
  · have hmx : max 1 m = 1 := by omega
    have h1 : ¬ 1 < m := by omega
    refine ⟨0, cs, l, x, t, ?_, Int.le_refl _, .inr ⟨h2, rfl⟩⟩
    simp [pickB, runM, gPickB, sSeq, sIf, cTst, cBin, cV, cC, sRet, slotAt, h2, h1, sDrainB, sNil, eSet, eSrc, SK.get, eSrcPut, eP, SK.put, cCall, aCons, aNil, cOr, hmx]
  · generalize hd : drain cs.reverse l = dr
    obtain ⟨cs2, l2⟩ := dr
    have hm0 : 0 < m := by omega
    have h1 : 1 < m := by omega
    have hmx : max 1 m = m := by omega
    by_cases h3 : 1 < l2
    · refine ⟨l2 % m, cs2.reverse, l2 / m, x, t, ?_, Int.emod_nonneg _ (by omega), .inl (Int.emod_lt_of_pos _ hm0)⟩
      simp [pickB, runM, gPickB, sSeq, sIf, cTst, cBin, cV, cC, sRet, slotAt, h2, h1, hd, h3, sDrainB, sNil, eSet, eSrc, SK.get, eSrcPut, eP, SK.put, cCall, aCons, aNil, cOr, hmx, hm0, hm']
    · have ht : gMulI (.int (t + 1)) (.int 104729) = .ok (.int ((t + 1) * 104729)) := gMulI_of (.inr (by decide))
      have ht2 : gMulI (.int (t + 1)) (.int 17) = .ok (.int ((t + 1) * 17)) := gMulI_of (.inr (by decide))
      generalize he : (x + (t + 1) * 104729) % 998244353 = e
      have e0 : 0 ≤ e := by omega
      have e1 : e < 998244353 := by omega
      have ht3 : gMulI (.int e) (.int e) = .ok (.int (e * e)) := gMulI_of (.inr (by omega))
      refine ⟨(e * e + (t + 1) * 17) % 2147483647 / 16 % m, cs2.reverse, l2, (e * e + (t + 1) * 17) % 2147483647, t + 1, ?_, Int.emod_nonneg _ (by omega), .inl (Int.emod_lt_of_pos _ hm0)⟩
      simp [pickB, runM, gPickB, sSeq, sIf, cTst, cBin, cV, cC, sRet, slotAt, h2, h1, hd, h3, sDrainB, sNil, eSet, eSrc, SK.get, eSrcPut, eP, SK.put, cCall, aCons, aNil, cOr, hmx, hm0, hm', eBin, eCall, eaCons, eaNil, ht, ht2, ht3, he, -gMulI_int]
end Dz

set_option maxRecDepth 100000
set_option maxHeartbeats 2000000
namespace Dz
open PySem PySem.Spec PyProof.Rows L2
/-! ## loops in plain Lean -/
/-- a loop that goes through, with what stays true -/
theorem forL_inv {gt : GF} {g : SF} {P : Env → Prop} : ∀ {ds : List D}, (∀ d ∈ ds, ∀ e, P e → ∃ e1 e2, gt d e = .ok e1 ∧ (g e1 = .ok (.nx, e2) ∨ g e1 = .ok (.ct, e2)) ∧ P e2) → ∀ e, P e → ∃ e', forL gt g ds e = .ok (.nx, e') ∧ P e'
  | [], _, e, he => ⟨e, rfl, he⟩
  | d :: ds, h, e, he => by
    obtain ⟨e1, e2, h1, h2, h3⟩ := h d List.mem_cons_self e he
    obtain ⟨e', h4, h5⟩ := forL_inv (fun d' hd => h d' (List.mem_cons_of_mem _ hd)) e2 h3
    refine ⟨e', ?_, h5⟩
    rw [forL, h1, R.bindP_ok]
    rcases h2 with h2 | h2
    · rw [h2, R.bind_ok]; exact h4
    · rw [h2, R.bind_ok]; exact h4
theorem mem_chunk {α : Type} {l : List α} {m c : Nat} (hm : 0 < m) (hl : l.length ≤ m * c) {w : α} (h : w ∈ l) : ∃ i, i < c ∧ w ∈ (l.drop (m * i)).take m := by
  obtain ⟨j, hj, rfl⟩ := List.getElem_of_mem h
  refine ⟨j / m, ?_, ?_⟩
  · exact Nat.div_lt_of_lt_mul (Nat.lt_of_lt_of_le hj hl)
  · have h1 : m * (j / m) + j % m = j := Nat.div_add_mod j m
    have h2 : j % m < m := Nat.mod_lt _ hm
    have h3 : ((l.drop (m * (j / m))).take m)[j % m]? = some l[j] := by
      rw [List.getElem?_take, if_pos h2, List.getElem?_drop, h1]
      exact List.getElem?_eq_getElem hj
    exact List.mem_of_getElem? h3
theorem cFn_ok {n : Nat} {F : List D → R D} {fa : AF} {env : Env} {ds : List D} {d : D} (h1 : fa env = .ok ds) (h2 : ds.length = n) (h3 : F ds = .ok d) : cFn n F fa env = .ok d := by
  unfold cFn
  rw [h1, R.bind_ok, decide_eq_true h2, R.when_true, h3]
theorem eFn_ok {n : Nat} {F : List D → R D} {fa : EAF} {env env' : Env} {ds : List D} {d : D} (h1 : fa env = .ok (ds, env')) (h2 : ds.length = n) (h3 : F ds = .ok d) : eFn n F fa env = .ok (d, env') := by
  unfold eFn
  rw [h1, R.bind_ok, decide_eq_true h2, R.when_true, h3]
  rfl
theorem eFnM_ok {i n : Nat} {F : List D → R (D × D)} {fa : EAF} {env env' : Env} {ds : List D} {s0 s s' d : D} (h0 : slotAt env i = .ok s0) (h1 : fa env = .ok (ds, env')) (h2 : slotAt env' i = .ok s) (h3 : ds.length + 1 = n) (h4 : F (s :: ds) = .ok (d, s')) : eFnM i n F fa env = .ok (d, env'.set i (some s')) := by
  unfold eFnM
  rw [h0, R.bind_ok, h1, R.bind_ok, h2, R.bind_ok, decide_eq_true h3, R.when_true, h4]
  rfl
theorem cItX_ok {f : PF} {env : Env} {d : D} {ds : List D} (h : f env = .ok d) (h2 : itemsOf d = .ok ds) : cItX f env = .ok ds := by
  unfold cItX
  rw [h, R.bind_ok, h2]
theorem sFor_ok {fi : IF} {gt : GF} {g : SF} {env : Env} {ds : List D} {r : R (Flo × Env)} (h : fi env = .ok ds) (h2 : forL gt g ds env = r) : sFor fi gt g env = r := by
  unfold sFor
  rw [h, R.bindP_ok, h2]
theorem sSeq_ok {g g' : SF} {env env' : Env} {r : R (Flo × Env)} (h : g env = .ok (.nx, env')) (h2 : g' env' = r) : sSeq g g' env = r := by
  unfold sSeq
  rw [h, R.bind_ok]
  exact h2
/-- a law's answer -/
def isT : R (Flo × Env) → Bool
  | .ok (.rt (.bool b), _) => b
  | _ => false
theorem isT_of {r : R (Flo × Env)} (h : isT r = true) : ∃ e, r = .ok (.rt (.bool true), e) := by
  unfold isT at h
  split at h
  · subst h; exact ⟨_, rfl⟩
  · cases h
def getR (r : R (Flo × Env)) (i : Nat) : Option D := match r with
  | .ok (_, e) => (e[i]?).getD none
  | _ => none
/-- all words of n letters below k -/
def wl (k : Nat) : Nat → List (List Int)
  | 0 => [[]]
  | n + 1 => (wl k n).flatMap fun w => (List.range k).map fun (a : Nat) => w ++ [(a : Int)]
def wD (w : List Int) : D := .tuple (w.map PyData.int)
def wlD (k n : Nat) : List D := (wl k n).map wD
end Dz

set_option maxRecDepth 100000
set_option maxHeartbeats 4000000
namespace Dz
open PySem PySem.Spec PyProof.Rows L2
/-! ## a tuple times an int -/
theorem tup_mulSame (l : Addr) (items : Array Value) (n : Nat) (dd : Option Addr) (sl : Array (Option Value)) (x : Int) (u : Tok) (c0 : (decide (x < -(2 ^ 63)) || decide (x ≥ 2 ^ 63)) = false) (c1 : (items.isEmpty || x == 1) = true) :
    Meets (Builtin.«tuple.__mul__» ⟨[.ref l, .int x u], []⟩) (fun _ R s => s.heap.get? l = some { cls := .type "tuple", dict := dd, data := .seq items n, slots := sl } ∧ R (.ok (.ret (Value.ref l))) s) :=
  .of_wp fun prog w A R s h => by
    obtain ⟨hp, g, d, tk, os⟩ := s
    obtain ⟨hl, h⟩ := h
    have f1 := AutoSeq1.idx_int
    wp_walk using wpAny_loadPart' hl
    repeat (first
      | (refine wpAny_ite_false (decide_eq_false (by rw [c0]; exact Bool.false_ne_true)) ?_; wp_walk using wpAny_loadPart' hl)
      | (refine wpAny_ite_true (decide_eq_true c1) ?_; wp_walk using wpAny_loadPart' hl))
    all_goals first | exact ⟨_, rfl, h⟩ | skip
theorem tup_mulZero (l : Addr) (items : Array Value) (n : Nat) (dd : Option Addr) (sl : Array (Option Value)) (x : Int) (u : Tok) (c0 : (decide (x < -(2 ^ 63)) || decide (x ≥ 2 ^ 63)) = false) (c1 : (items.isEmpty || x == 1) = false) (c2 : (decide (x ≤ 0) || items.isEmpty) = true) :
    Meets (Builtin.«tuple.__mul__» ⟨[.ref l, .int x u], []⟩) (fun _ R s => s.heap.get? l = some { cls := .type "tuple", dict := dd, data := .seq items n, slots := sl } ∧
      R (.ok (.ret (Value.ref s.heap.objs.size))) { s with heap := s.heap.push { cls := Value.type "tuple", data := Data.seq #[] }, toks := s.toks }) :=
  .of_wp fun prog w A R s h => by
    obtain ⟨hp, g, d, tk, os⟩ := s
    obtain ⟨hl, h⟩ := h
    have f1 := AutoSeq1.idx_int
    wp_walk using wpAny_loadPart' hl
    repeat (first
      | (refine wpAny_ite_false (decide_eq_false (by rw [c0]; exact Bool.false_ne_true)) ?_; wp_walk using wpAny_loadPart' hl)
      | (refine wpAny_ite_false (decide_eq_false (by rw [c1]; exact Bool.false_ne_true)) ?_; wp_walk using wpAny_loadPart' hl)
      | (refine wpAny_ite_true (decide_eq_true c2) ?_; wp_walk using wpAny_loadPart' hl))
    all_goals first | exact ⟨_, rfl, h⟩ | skip
def rRepA (K : PySem.W.Frag) : R2 := fun x y H Q => ∃ l k xs, x = .ref l ∧ y = .int k ∧ SqT K H l xs ∧ -(2 ^ 63) ≤ k ∧ k ≤ 1000 ∧ xs.length ≤ 1000 ∧ ((xs = [] ∨ k = 1) → Q (.ref l) H) ∧ (xs ≠ [] → k ≠ 1 → ∀ p, H p = none → Q (.ref p) (upd H p (.tup (List.replicate k.toNat xs).flatten)))
theorem op_repA {X : Cx} : OpR X (binaryOp .Mult) (rRepA X.K) := by
  intro pins s σ H x y v u Q I rx ry h
  obtain ⟨l, k, xs, rfl, rfl, hT, h1, h2, hz, qs, qn⟩ := h
  by_cases hk2 : xs ≠ [] ∧ 2 ≤ k
  · exact op_repT pins s σ H (.ref l) (.int k) v u Q I rx ry ⟨l, k, xs, rfl, rfl, hT, hk2.1, hk2.2, h2, hz, qn hk2.1 (by omega)⟩
  cases rx
  obtain ⟨t, rfl⟩ := ry
  obtain ⟨its, r, ⟨⟨cls, dd, data, sl⟩, ho, hc, n, hd⟩, hs⟩ := I.tuple hT
  simp only at hc hd
  subst hc hd
  have hle : its.length = xs.length := r.length.symm
  have c0 : (decide (k < -(2 ^ 63)) || decide (k ≥ 2 ^ 63)) = false := by
    rw [decide_eq_false (by omega), decide_eq_false (by omega)] <;> rfl
  refine wpAny_binaryOp_repeat_ref (T := "tuple") (U := "int") (by decide) ⟨_, ho, rfl⟩ (fun s' => typeIs_int s' k t) noFill_tuple_mul F.fills_int_mul F.slot_int_rmul repeat_tuple F.slot_int_index.lookup
    (call_meets F.slot_int_rmul (typeIs_int s k t) F.entry_int_rmul (F.args_int_rmul_2 _ _) (int_rmul_tuple k t l its.toArray n dd sl) ⟨ho, rfl, ⟨_, ho, rfl⟩, ?_⟩)
  by_cases hs1 : xs = [] ∨ k = 1
  · have c1 : (its.toArray.isEmpty || k == 1) = true := by
      rcases hs1 with e | e
      · subst e
        have : its = [] := List.eq_nil_of_length_eq_zero hle
        subst this; rfl
      · subst e
        simp
    exact call_meets F.slot_tuple_mul ⟨_, ho, rfl⟩ F.entry_tuple_mul (F.args_tuple_mul_2 _ _) (tup_mulSame l its.toArray n dd sl k t c0 c1) ⟨ho, .ref l, H, I, rfl, qs hs1⟩
  · have hne : xs ≠ [] := fun e => hs1 (.inl e)
    have hk1 : k ≠ 1 := fun e => hs1 (.inr e)
    have hk0 : k ≤ 0 := by
      have : ¬ (2 ≤ k) := fun z => hk2 ⟨hne, z⟩
      omega
    have hi : its.toArray.isEmpty = false := by
      cases its with
      | nil => exact absurd (List.eq_nil_of_length_eq_zero hle.symm) hne
      | cons a b => rfl
    have c1 : (its.toArray.isEmpty || k == 1) = false := by
      rw [hi, Bool.false_or]
      exact beq_eq_false_iff_ne.mpr hk1
    have c2 : (decide (k ≤ 0) || its.toArray.isEmpty) = true := by
      rw [decide_eq_true hk0]; rfl
    refine call_meets F.slot_tuple_mul ⟨_, ho, rfl⟩ F.entry_tuple_mul (F.args_tuple_mul_2 _ _) (tup_mulZero l its.toArray n dd sl k t c0 c1 c2) ⟨ho, ?_⟩
    have hk : k.toNat = 0 := by omega
    have q := qn hne hk1 s.heap.objs.size (I.hok.fresh (Nat.le_refl _))
    rw [hk] at q
    refine ⟨.ref s.heap.objs.size, _, I.laid (t' := s.toks) (o := .tup []) (fun b ob q => Heap.get?_push_of_some _ q) (Nat.le_refl _) ?_, rfl, q⟩
    exact ⟨by show 0 ≤ _; omega, [], .nil, IsTup.new _ _⟩
/-- a * b -/
def gMulW : D → D → R D
  | .int i, .int j => R.when (decide (((-(2 ^ 64) < i ∧ i < 2 ^ 64) ∨ (-(2 ^ 64) < j ∧ j < 2 ^ 64)) ∨ i.natAbs.log2 + j.natAbs.log2 < 1000)) (.ok (.int (i * j)))
  | _, _ => .no
theorem gMulW_of {i j : Int} (h : (-(2 ^ 64) < i ∧ i < 2 ^ 64) ∨ (-(2 ^ 64) < j ∧ j < 2 ^ 64)) : gMulW (.int i) (.int j) = .ok (.int (i * j)) := by
  show R.when (decide _) _ = _
  rw [decide_eq_true (.inl h)]; rfl
theorem gMulW_big {i j : Int} (h : i.natAbs.log2 + j.natAbs.log2 < 1000) : gMulW (.int i) (.int j) = .ok (.int (i * j)) := by
  show R.when (decide _) _ = _
  rw [decide_eq_true (.inr h)]; rfl
def rMulI2 : R2 := fun x y H Q => rI CMul (fun i j => .int (i * j)) x y H Q ∨ rI CMulW (fun i j => .int (i * j)) x y H Q
theorem op_mulI2 {X : Cx} : OpR X (binaryOp .Mult) rMulI2 := op_mul.or op_mulW
theorem v_mulW {K : PySem.W.Frag} : Op2 K rMulI2 gMulW := fun x y H Z a b c Q hz r1 r2 h hq => by
  unfold gMulW at h
  split at h
  · obtain ⟨h1, h2⟩ := R.of_when h
    cases h2
    cases r1
    cases r2
    rcases of_decide_eq_true h1 with h3 | h3
    · exact .inl ⟨_, _, rfl, rfl, h3, hq _ _ _ (Gr.refl hz) (.int _)⟩
    · refine .inr ⟨_, _, rfl, rfl, ?_, hq _ _ _ (Gr.refl hz) (.int _)⟩
      show _ < 1000000
      omega
  · cases h
def gMul : D → D → R D
  | .int i, b => gMulW (.int i) b
  | .tuple xs, .int k => R.when (decide (-(2 ^ 63) ≤ k ∧ k ≤ 1000 ∧ xs.length ≤ 1000)) (.ok (.tuple (List.replicate k.toNat xs).flatten))
  | .list xs, .int k => R.when (decide (-(2 ^ 63) ≤ k ∧ k < 2 ^ 63 ∧ xs.length * k.toNat ≤ sizeLine)) (.ok (.list (List.replicate k.toNat xs).flatten))
  | _, _ => .no
def rMulD (K : PySem.W.Frag) : R2 := fun x y H Q => rMulI2 x y H Q ∨ (rRepA K x y H Q ∨ rRep x y H Q)
theorem op_mulD {X : Cx} : OpR X (binaryOp .Mult) (rMulD X.K) := op_mulI2.or (op_repA.or op_rep)
theorem v_mul {K : PySem.W.Frag} : Op2 K (rMulD K) gMul := fun x y H Z a b c Q hz r1 r2 h hq => by
  unfold gMul at h
  split at h
  · exact .inl (v_mulW x y H Z _ _ _ Q hz r1 r2 h hq)
  · obtain ⟨h1, h2⟩ := R.of_when h
    have h3 := of_decide_eq_true h1
    cases h2
    cases r2
    cases r1 with
    | tup t q =>
      refine .inr (.inl ⟨_, _, _, rfl, rfl, same_seqT hz t, h3.1, h3.2.1, by rw [q.length]; exact h3.2.2, fun e => ?_, fun e e2 p np => ?_⟩)
      · rcases e with e | e
        · subst e
          cases q
          refine hq _ _ _ (Gr.refl hz) (.tup t ?_)
          have : ∀ n : Nat, (List.replicate n ([] : List D)).flatten = [] := fun n => by simp
          rw [this]
          exact .nil
        · subst e
          refine hq _ _ _ (Gr.refl hz) (.tup t ?_)
          show Reps K Z _ (List.replicate 1 _).flatten
          simpa using q
      · exact hq _ _ _ (Gr.new hz np) (.tup (.inl upd_same) ((q.rep _).mono (same_upd (hz.free np))))
  · obtain ⟨h1, h2⟩ := R.of_when h
    have h3 := of_decide_eq_true h1
    cases h2
    cases r2
    cases r1 with
    | lst t q => exact .inr (.inr ⟨_, _, _, rfl, rfl, hz _ _ t, h3.1, h3.2.1, by rw [q.length]; exact h3.2.2, fun p np => hq _ _ _ (Gr.new hz np) (.lst upd_same ((q.rep _).mono (same_upd (hz.free np))))⟩)
  · cases h
theorem dp_mul {X : Cx} {us : List Nat} {a b : Expr} {fa fb : PF} {pos : Pos} (ha : DP X us a fa) (hb : DP X us b fb) : DP X us (.BinOp a .Mult b pos) (cBin gMul fa fb) := dp_op op_mulD v_mul ha hb
end Dz

set_option maxRecDepth 100000
set_option maxHeartbeats 2000000
namespace Dz
open PySem PySem.Spec PyProof.Rows L2 HT
/-! ## xs[::-1] -/
section
variable {prog : Program} {w : World} {A : Around} {E : Value → Shared → Prop} {s : Shared}
theorem adjust_rev (n : Nat) : Builtin.Slice.sliceAdjust none none (-1) (n : Int) = ((n : Int) - 1, -1) := rfl
theorem places_rev (n : Nat) : Builtin.Slice.slicePlaces ((n : Int) - 1) (-1) (-1) = n := by
  unfold Builtin.Slice.slicePlaces
  have h1 : ¬ ((-1 : Int) > 0) := by omega
  simp only [h1, if_false]
  rw [show (-(-1) : Int) = 1 from rfl, Int.ediv_one]
  split <;> omega
theorem sliceApplied_rev {sl : Addr} {t : Tok} {n : Nat} {Q : Int × Int × Nat → Shared → Prop} (hs : s.heap.IsSliceOf sl .none .none (.int (-1) t)) (h : Q ((n : Int) - 1, -1, n) s) : wpAny (model prog w) A (Builtin.Slice.sliceApplied (.ref sl) (pure (n : Int))) Q E s := by
  obtain ⟨os, hos, hcs, hds⟩ := id hs
  unfold Builtin.Slice.sliceApplied Builtin.Slice.sliceFields
  refine wpAny_bind (wpAny_bind (wpAny_field hos hds (x := .none) rfl (wpAny_bind (wpAny_field hos hds (x := .none) rfl (wpAny_bind (wpAny_field hos hds (x := .int (-1) t) rfl (wpAny_pure ?_)))))))
  refine wpAny_bind (slicePart_int ?_)
  show wpAny _ _ (if ((-1 : Int) == 0) = true then _ else _) _ _ s
  rw [if_neg (by decide)]
  refine wpAny_bind (slicePart_none (wpAny_bind (slicePart_none (wpAny_bind (wpAny_pure ?_)))))
  show wpAny _ _ (match Builtin.Slice.sliceAdjust none none (-1) (n : Int) with | (lo, hi) => pure (lo, (-1 : Int), Builtin.Slice.slicePlaces lo hi (-1))) _ _ s
  rw [adjust_rev n]
  show wpAny _ _ (pure (((n : Int) - 1), (-1 : Int), Builtin.Slice.slicePlaces ((n : Int) - 1) (-1) (-1))) _ _ s
  rw [places_rev]
  exact wpAny_pure h
theorem filter_range {α : Type} : ∀ (l : List α) (f : Nat → Option α) (n : Nat), l.length = n → (∀ i, i < n → f i = l[i]?) → (List.range n).filterMap f = l
  | [], f, n, hn, h => by
    subst hn; rfl
  | a :: l, f, n, hn, h => by
    subst hn
    have h0 : f 0 = some a := h 0 (Nat.succ_pos _)
    rw [List.length_cons, List.range_succ_eq_map, List.filterMap_cons, h0, List.filterMap_map]
    exact congrArg (a :: ·) (filter_range l (f ∘ Nat.succ) _ rfl fun i hi => h (i + 1) (Nat.succ_lt_succ hi))
theorem pick_rev (xs : Array Value) : ((List.range xs.size).filterMap fun (k : Nat) => xs[(((xs.size : Nat) : Int) - 1 + (k : Int) * (-1)).toNat]?).toArray = xs.toList.reverse.toArray := by
  congr 1
  refine filter_range xs.toList.reverse _ _ (by simp) fun i hi => ?_
  have : (((xs.size : Nat) : Int) - 1 + (i : Int) * (-1)).toNat = xs.size - 1 - i := by omega
  rw [this, ← Array.getElem?_toList, List.getElem?_reverse (by simpa using hi)]
  simp
theorem getItem_tuple_rev {t sl : Addr} {items : Array Value} {u : Tok} {Q : Value → Shared → Prop} (ht : IsTup s.heap t items) (hs : s.heap.IsSliceOf sl .none .none (.int (-1) u))
    (h : Q (.ref s.heap.objs.size) { s with heap := s.heap.push { cls := .type "tuple", data := .seq items.toList.reverse.toArray } })
    (hsz : items.size ≤ sizeLine) : wpAny (model prog w) A (getItem (.ref t) (.ref sl)) Q E s := by
  have htake : sizeOk (.seq items.toList.reverse.toArray) := by
    show items.toList.reverse.toArray.size ≤ sizeLine
    rw [List.size_toArray, List.length_reverse, Array.length_toList]
    exact hsz
  obtain ⟨os, hos, hcs, hds⟩ := id hs
  have hTs : s.TypeIs (.ref sl) "slice" := ⟨os, hos, hcs⟩
  unfold getItem
  try with_reducible refine wpAny_holding ?_
  first | refine wpAny_bind (wpAny_pure ?_) | skip
  refine wpAny_bind (wpAny_sequenceKey ht.typeIs (by decide) ?_)
  refine wpAny_bind (wpAny_callSpecial?_slot (name := Str.ofString "__getitem__") ht.typeIs PyProof.Rows.slot_tuple_getitem
    (wpAny_call_entry PyProof.Rows.slot_tuple_getitem ht.typeIs entry_tuple_getitem ?_ (args_tuple_getitem _ _)))
  show wpAny _ _ (Builtin.Tuple.tupleItemsOf (.ref t) >>= _) _ _ s
  refine wpAny_bind (tupleItemsOf_ ht ?_)
  refine wpAny_bind (wpAny_typeOf hTs ?_)
  rw [if_pos (by decide)]
  refine wpAny_bind (sliceApplied_rev hs ?_)
  show wpAny _ _ (if ((((items.size : Nat) : Int) - 1) == 0 && (-1 : Int) == 1 && items.size == items.size) = true then _ else _) _ _ s
  rw [if_neg (by simp), pick_rev]
  first
    | exact wpAny_bind (m := Builtin.Tuple.tupleExact _) (wpAny_newObj_type (wpAny_pure ⟨_, rfl, wpAny_pure h⟩) htake)
    | exact wpAny_bind (m := Builtin.Tuple.tupleExact _) (wpAny_newObj_type (wpAny_bind (wpAny_pure (wpAny_pure ⟨_, rfl, wpAny_pure h⟩))) htake)
    | exact wpAny_bind (wpAny_bind (m := Builtin.Tuple.tupleExact _) (wpAny_newObj_type (wpAny_pure (wpAny_pure ⟨_, rfl, wpAny_pure h⟩)) htake))
    | exact wpAny_bind (wpAny_bind (m := Builtin.Tuple.tupleExact _) (wpAny_newObj_type (wpAny_pure ⟨_, rfl, wpAny_pure h⟩) htake))
end
def tRevA (K : PySem.W.Frag) (te : TE) : TE := fun σ H Q => te σ H fun x H1 => (∃ a xs, x = .ref a ∧ SqL K H1 a xs ∧ ∀ p, H1 p = none → Q (.ref p) (upd H1 p (.lst xs.reverse))) ∨ (∃ a xs, x = .ref a ∧ SqT K H1 a xs ∧ ∀ p, H1 p = none → Q (.ref p) (upd H1 p (.tup xs.reverse)))
theorem pe_revA {X : Cx} {e : Expr} {te : TE} {k : Nat} {p1 p2 p3 pos : Pos} (he : PE X e te) : PE X (.Subscript e (.Slice none none (some (.UnaryOp .USub (.Constant (.int 1) k p1) p2)) p3) pos) (tRevA X.K te) := by
  refine ⟨fun pins s σ H Q I h => ?_⟩
  refine Subscript_ (thn (he.run pins s σ H _ I h) fun v s1 ⟨x, H1, I1, r1, q1⟩ => ?_)
  have hst : PO X (some (.UnaryOp .USub (.Constant (.int 1) k p1) p2)) (tPart (tUn (rU fun i => .int (-i)) (tC (.int 1)))) := po_some (pe_un un_neg pe_int)
  refine wpAny_Slice (thn (po_none.run pins s1 σ H1 (fun o H2 => o = none ∧ H2 = H1) I1 ⟨rfl, rfl⟩) fun vl s2 ⟨l, H2, I2, pl, el, e2⟩ => ?_)
  subst el e2
  refine thn (po_none.run pins s2 σ H2 (fun o H3 => o = none ∧ H3 = H2) I2 ⟨rfl, rfl⟩) fun vu s3 ⟨u, H3, I3, pu, eu, e3⟩ => ?_
  subst eu e3
  refine thn (hst.run pins s3 σ H3 (fun o H4 => o = some (-1) ∧ H4 = H3) I3 ⟨1, rfl, -1, rfl, rfl, rfl⟩) fun vs s4 ⟨o, H4, I4, ps, eo, e4⟩ => ?_
  subst eo e4
  have I5 : Inv X pins σ H4 { s4 with heap := s4.heap.push { cls := .type "slice", data := .fields #[vl, vu, vs] } } := I4.kept (t' := s4.toks) fun b ob q => Heap.get?_push_of_some _ q
  rcases q1 with ⟨a, xs, ex, hx, q⟩ | ⟨a, xs, ex, hx, q⟩
  · subst ex
    cases r1
    obtain ⟨its, r, ht, hz⟩ := I5.list hx
    have hlen := r.length
    show wpAny (model X.prog X.w) X.A (subscriptTail e (.Slice none none (some (.UnaryOp .USub (.Constant (.int 1) k p1) p2)) p3) (.ref a) (.ref s4.heap.objs.size)) (EP X pins σ Q) X.xe { s4 with heap := s4.heap.push { cls := .type "slice", data := .fields #[vl, vu, vs] } }
    refine tail_any (ops := [.ref a, .ref s4.heap.objs.size]) ht.isList.typeIs (PySem.slot_list_getitem.lookup) ?_ (by with_unfolding_all rfl)
    refine wpAny_getItem_list_slice ht.isList (Heap.IsSliceOf.new _ vl vu vs) pl pu ps (by decide) ?_ (by rw [List.size_toArray]; omega)
    rw [PySem.W.krv_pick]
    refine ⟨.ref _, _, I5.laid (t' := s4.toks) (o := .lst xs.reverse) (fun b ob q => Heap.get?_push_of_some _ q) (Nat.le_refl _) ?_, rfl, q _ (I5.hok.fresh (Nat.le_refl _))⟩
    exact ⟨by rw [List.length_reverse]; exact hz, _, 0, r.reverse, Heap.get?_push_size _ rfl⟩
  · subst ex
    cases r1
    cases pl
    cases pu
    obtain ⟨its, r, ht, hz⟩ := I5.tuple hx
    have hlen := r.length
    cases ps with
    | int i u =>
      show wpAny (model X.prog X.w) X.A (subscriptTail e (.Slice none none (some (.UnaryOp .USub (.Constant (.int 1) k p1) p2)) p3) (.ref a) (.ref s4.heap.objs.size)) (EP X pins σ Q) X.xe { s4 with heap := s4.heap.push { cls := .type "slice", data := .fields #[.none, .none, .int (-1) u] } }
      refine tail_any (ops := [.ref a, .ref s4.heap.objs.size]) ht.typeIs (PyProof.Rows.slot_tuple_getitem.lookup) ?_ (by with_unfolding_all rfl)
      refine getItem_tuple_rev ht (Heap.IsSliceOf.new _ .none .none (.int (-1) u)) ?_ (by rw [List.size_toArray]; omega)
      refine ⟨.ref _, _, I5.laid (t' := s4.toks) (o := .tup xs.reverse) (fun b ob q => Heap.get?_push_of_some _ q) (Nat.le_refl _) ?_, rfl, q _ (I5.hok.fresh (Nat.le_refl _))⟩
      exact ⟨by rw [List.length_reverse]; exact hz, _, r.reverse, IsTup.new _ _⟩
def gRev : D → R D
  | .list xs => .ok (.list xs.reverse)
  | .tuple xs => .ok (.tuple xs.reverse)
  | _ => .no
theorem rev_sem {K : PySem.W.Frag} {H Z : Hp} {v : V} {d z : D} {Q : VK} (hz : Same Z H) (r : Rep K Z v d) (h : gRev d = .ok z) (hq : ∀ v Z' H', Gr Z H Z' H' → Rep K Z' v z → Q v H') :
    (∃ a xs, v = .ref a ∧ SqL K H a xs ∧ ∀ p, H p = none → Q (.ref p) (upd H p (.lst xs.reverse))) ∨ (∃ a xs, v = .ref a ∧ SqT K H a xs ∧ ∀ p, H p = none → Q (.ref p) (upd H p (.tup xs.reverse))) := by
  unfold gRev at h
  split at h
  · cases h
    cases r with
    | lst t q => exact .inl ⟨_, _, rfl, .inl (.inl (hz _ _ t)), fun p np => hq _ _ _ (Gr.new hz np) (.lst upd_same (q.reverse.mono (same_upd (hz.free np))))⟩
  · cases h
    cases r with
    | tup t q => exact .inr ⟨_, _, rfl, same_seqT hz t, fun p np => hq _ _ _ (Gr.new hz np) (.tup (.inl upd_same) (q.reverse.mono (same_upd (hz.free np))))⟩
  · cases h
theorem dp_rev {X : Cx} {us : List Nat} {e : Expr} {f : PF} {k : Nat} {p1 p2 p3 pos : Pos} (h : DP X us e f) : DP X us (.Subscript e (.Slice none none (some (.UnaryOp .USub (.Constant (.int 1) k p1) p2)) p3) pos) (cUn gRev f) := by
  obtain ⟨t, h1, h2⟩ := h.ex
  refine ⟨_, pe_revA h1, fun σ H Z env d Q hz he hf hq => ?_⟩
  obtain ⟨x, e1, e2⟩ := R.of_bind hf
  exact h2 σ H Z env x _ hz he e1 fun v Z1 H1 g r => rev_sem g.zh r e2 fun w Z2 H2 g2 r2 => hq w Z2 H2 (g.trans g2) r2
theorem de_rev {X : Cx} {C : Cf} {e : Expr} {f : EF} {k : Nat} {p1 p2 p3 pos : Pos} (h : DE X C e f) : DE X C (.Subscript e (.Slice none none (some (.UnaryOp .USub (.Constant (.int 1) k p1) p2)) p3) pos) (eUn gRev f) := by
  obtain ⟨t, h1, h2⟩ := h.ex
  refine ⟨_, pe_revA h1, fun σ Z0 B Z H env fps d env' Q I hf hq => ?_⟩
  obtain ⟨⟨x, env1⟩, e1, e2⟩ := R.of_bind hf
  obtain ⟨z, e3, e4⟩ := R.of_bind e2
  cases e4
  exact h2 σ Z0 B Z H env fps x env1 _ I e1 fun v Z1 H1 fps1 I1 s1 r => rev_sem I1.zh r e3 fun w Z2 H2 g2 r2 => hq w Z2 H2 fps1 (I1.grow g2) (s1.trans g2.zz) r2
end Dz

set_option maxRecDepth 100000
set_option maxHeartbeats 2000000
namespace Dz
open PySem PySem.Spec PyProof.Rows L2
/-! ## repr -/
mutual
theorem noDict_of : ∀ {d : D}, d.canLay0 = true → d.hasDict = false
  | .none, _ => rfl
  | .bool _, _ => rfl
  | .int _, _ => rfl
  | .str _, _ => rfl
  | .list xs, h => by
    rw [PyData.hasDict]
    exact noDictAll_of (by simpa only [PyData.canLay0] using h)
  | .tuple xs, h => by
    rw [PyData.hasDict]
    exact noDictAll_of (by simpa only [PyData.canLay0] using h)
  | .dict _, h => by simp only [PyData.canLay0] at h; cases h
theorem noDictAll_of : ∀ {xs : List D}, PyData.canLayAll0 xs = true → PyData.hasDictAll xs = false
  | [], _ => rfl
  | x :: xs, h => by
    obtain ⟨h1, h2⟩ := Bool.and_eq_true_iff.mp (by simpa only [PyData.canLayAll0] using h)
    rw [PyData.hasDictAll, noDict_of h1, noDictAll_of h2]
    rfl
end
def canShow (d : D) : Bool := SeqAt.shaped d && d.showable && decide (d.shown.length ≤ sizeLine)
def rRepr (K : PySem.W.Frag) : List V → Hp → VK → Prop := fun xs H Q => ∃ x d, xs = [x] ∧ Dp K H x d ∧ canShow d = true ∧ Q (.str d.shown) H
theorem cr_repr {X : Cx} {k : Nat} (hr : RmG k X.A) : CallR X (.builtin "repr") (rRepr X.K) := by
  intro pins s σ H xs us Q I r h
  obtain ⟨x, d, rfl, hd, hc, q⟩ := h
  cases r with
  | cons rx rr =>
    cases rr
    unfold canShow at hc
    rw [Bool.and_eq_true, Bool.and_eq_true] at hc
    obtain ⟨⟨h1, h2⟩, h3⟩ := hc
    have h3 := of_decide_eq_true h3
    obtain ⟨as, rd⟩ := Dp.reads I d x _ hd rx
    have hdep := SeqAt.depth_of_shaped h1
    have hun := hr.un
    cases rd with
    | none => exact P.repr_of_none ⟨.str _, H, I.tok _, ⟨_, rfl⟩, q⟩
    | bool => exact P.repr_of_bool ⟨.str _, H, I.tok _, ⟨_, rfl⟩, q⟩
    | int => exact P.repr_of_int (by simpa [PyData.showable] using h2) ⟨.str _, H, I.tok _, ⟨_, rfl⟩, q⟩
    | str => exact P.repr_of_str ⟨.str _, H, I.tok _, ⟨_, rfl⟩, q⟩ (by simpa only [PyData.shown] using h3)
    | list a b c e => exact repr_of_reads' (.list a b c e) h2 (PyData.noDict_hsm (noDict_of (SeqAt.canLay_of_shaped h1))) hr.gd (by omega) (fun _ _ e => e) (fun h' u tk hk => ⟨.str _, H, I.kept hk, ⟨_, rfl⟩, q⟩) h3
    | tuple a b c e => exact repr_of_reads' (.tuple a b c e) h2 (PyData.noDict_hsm (noDict_of (SeqAt.canLay_of_shaped h1))) hr.gd (by omega) (fun _ _ e => e) (fun h' u tk hk => ⟨.str _, H, I.kept hk, ⟨_, rfl⟩, q⟩) h3
    | dict a b c e f =>
      have := SeqAt.canLay_of_shaped h1
      simp only [PyData.canLay0] at this
      cases this
def gRepr : List D → R D
  | [d] => R.when (canShow d) (.ok (.str d.shown))
  | _ => .no
theorem v_repr {K : PySem.W.Frag} : OpN K (rRepr K) gRepr := fun xs H Z as c Q hz r h hq => by
  unfold gRepr at h
  split at h
  · obtain ⟨h1, h2⟩ := R.of_when h
    cases h2
    cases r with
    | cons r t =>
      cases t
      have h3 := h1
      unfold canShow at h3
      rw [Bool.and_eq_true, Bool.and_eq_true] at h3
      exact ⟨_, _, rfl, r.dp hz (SeqAt.canLay_of_shaped h3.1.1), h1, hq _ _ _ (Gr.refl hz) (.str _)⟩
  · cases h
end Dz

set_option maxRecDepth 100000
set_option maxHeartbeats 2000000
namespace Dz
open PySem PySem.Spec PyProof.Rows L2
/-! ## values of one's own -/
def Cf.md (C : Cf) (i : Nat) : Mode := (C.ms.lookup i).getD mF
/-- things kept from change -/
def over (fp : List Addr) (H B : Hp) : Hp := fun a => if a ∈ fp then H a else B a
section
variable {K : PySem.W.Frag} {C : Cf} {Z0 B Z H Z' H' : Hp} {σ σ' : L2.St} {env env' : Env} {fps fps' : Nat → List Addr} {fp : List Addr}
/-- a footprint that nobody else knows -/
structure Fresh (B Z H : Hp) (fps : Nat → List Addr) (fp : List Addr) : Prop where
  b : ∀ a ∈ fp, B a = none
  z : ∀ a ∈ fp, Z a = none
  f : ∀ a ∈ fp, ∀ j, a ∉ fps j
  h : ∀ a ∈ fp, ∃ o, H a = some o ∧ ∀ xs, o ≠ .tup xs
theorem EnvOk.guards (I : EnvOk K C Z0 B Z H σ env fps) (F : Fresh B Z H fps fp) : EnvOk K C Z (over fp H B) Z H σ env fps where
  gr := ⟨Same.refl _, I.gr.zh, fun a u e => by
    unfold over at e; split at e
    · exact e
    · exact I.gr.hh _ _ e, fun _ _ e => .inl e⟩
  len := I.len
  frz := I.frz
  own := I.own
  fp := fun i a ha => by
    obtain ⟨h1, h2, h3⟩ := I.fp i a ha
    refine ⟨?_, h2, h3⟩
    unfold over
    rw [if_neg fun e => F.f a e i ha]
    exact h1
  dj := I.dj
  pin := I.pin
theorem over_b (F : Fresh B Z H fps fp) {a : Addr} (h : over fp H B a = none) : B a = none ∧ a ∉ fp := by
  unfold over at h
  split at h
  · rename_i hm
    obtain ⟨o, ho, _⟩ := F.h a hm
    rw [ho] at h; cases h
  · rename_i hm; exact ⟨h, hm⟩
theorem EnvOk.unguards (g0 : Gr Z0 B Z H) (F : Fresh B Z H fps fp) (I : EnvOk K C Z (over fp H B) Z' H' σ' env' fps') : EnvOk K C Z0 B Z' H' σ' env' fps' ∧ Fresh B Z' H' fps' fp ∧ ∀ a ∈ fp, ∀ o, H a = some o → H' a = some o := by
  have kp : ∀ a ∈ fp, ∀ o, H a = some o → H' a = some o := fun a ha o e => I.gr.hh _ _ (by unfold over; rw [if_pos ha]; exact e)
  refine ⟨⟨⟨g0.zz.trans I.gr.zz, I.gr.zh, fun a u e => ?_, fun a u e => ?_⟩, I.len, I.frz, I.own, fun i a ha => ?_, I.dj, I.pin⟩, ⟨F.b, fun a ha => ?_, fun a ha j hj => ?_, fun a ha => ?_⟩, kp⟩
  · refine I.gr.hh _ _ ?_
    unfold over
    rw [if_neg fun hm => by rw [F.b a hm] at e; cases e]
    exact e
  · rcases I.gr.fr a u e with z | z | z
    · exact g0.fr a u z
    · exact .inr (.inl (over_b F z).1)
    · exact .inr (.inr z)
  · obtain ⟨h1, h2, h3⟩ := I.fp i a ha
    exact ⟨(over_b F h1).1, h2, h3⟩
  · obtain ⟨o, ho, hn⟩ := F.h a ha
    cases q : Z' a with
    | none => rfl
    | some u =>
      rcases I.gr.fr a u q with z | z | ⟨xs, z⟩
      · rw [F.z a ha] at z; cases z
      · exact absurd ha (over_b F z).2
      · have h1 := kp a ha o ho
        rw [I.gr.zh _ _ q] at h1
        cases h1
        exact absurd z (hn xs)
  · exact (over_b F (I.fp j a hj).1).2 ha
  · obtain ⟨o, ho, hn⟩ := F.h a ha
    exact ⟨o, kp a ha o ho, hn⟩
theorem Cf.md_some {i : Nat} {m : Mode} (h : C.ms.lookup i = some m) : C.md i = m := by unfold Cf.md; rw [h]; rfl
theorem Cf.md_none {i : Nat} (h : C.ms.lookup i = none) : C.md i = mF := by unfold Cf.md; rw [h]; rfl
/-- a slot takes a value of its kind -/
theorem EnvOk.setM {i : Nat} {v : V} {d : D} (I : EnvOk K C Z0 B Z H σ env fps) (hp : C.pins.lookup i = none) (r : (C.md i).own K Z H v d fp) (F : Fresh B Z H fps fp) :
    ∃ fps', EnvOk K C Z0 B Z H (σ.set i (some v)) (env.set i (some d)) fps' ∧ ∀ j a, a ∈ fps' j → a ∈ fps j ∨ a ∈ fp := by
  cases q : C.ms.lookup i with
  | none =>
    rw [Cf.md_none q] at r
    obtain ⟨_, r⟩ := r
    refine ⟨fps, I.setF ?_ hp r, fun j a h => .inl h⟩
    cases q2 : C.us.contains i with
    | false => rfl
    | true =>
      obtain ⟨m, hm⟩ := lookup_of_contains q2
      rw [q] at hm; cases hm
  | some m =>
    rw [Cf.md_some q] at r
    refine ⟨setFp fps i fp, I.setO q hp r (fun a ha => ⟨F.b a ha, F.z a ha⟩) fun j a _ ha => F.f a ha j, fun j a h => ?_⟩
    unfold setFp at h
    split at h
    · exact .inr h
    · exact .inl h
end
/-! ### expressions by kind -/
def OvSem (K : PySem.W.Frag) (C : Cf) (m : Mode) (t : TE) (f : EF) : Prop :=
  ∀ (σ : L2.St) (Z0 B Z H : Hp) (env : Env) (fps : Nat → List Addr) (d : D) (env' : Env) (Q : VK), EnvOk K C Z0 B Z H σ env fps → f env = .ok (d, env') →
    (∀ v Z' H' fps' fp, EnvOk K C Z0 B Z' H' σ env' fps' → Same Z Z' → m.own K Z' H' v d fp → Fresh B Z' H' fps' fp → Q v H') → t σ H Q
structure DOv (X : Cx) (C : Cf) (m : Mode) (e : Expr) (f : EF) : Prop where
  ex : ∃ t, PE X e t ∧ OvSem X.K C m t f
theorem Fresh.nil {B Z H : Hp} {fps : Nat → List Addr} : Fresh B Z H fps [] := ⟨fun _ h => (nomatch h), fun _ h => (nomatch h), fun _ h => (nomatch h), fun _ h => (nomatch h)⟩
section
variable {X : Cx} {C : Cf} {e : Expr} {es : List Expr} {f : EF} {m : Mode}
theorem DE.ov (h : DE X C e f) : DOv X C mF e f := by
  obtain ⟨t, a, b⟩ := h.ex
  exact ⟨t, a, fun σ Z0 B Z H env fps d env' Q I hf hq => b σ Z0 B Z H env fps d env' Q I hf fun v Z1 H1 fps1 I1 s1 r => hq v Z1 H1 fps1 [] I1 s1 ⟨rfl, r⟩ Fresh.nil⟩
theorem DEO.ov {fo : EAF} (h : DEO X C e fo) : DOv X C mL e (eList fo) := by
  obtain ⟨t, a, b⟩ := h.ex
  refine ⟨t, a, fun σ Z0 B Z H env fps d env' Q I hf hq => ?_⟩
  obtain ⟨⟨ds, env1⟩, e1, e2⟩ := R.of_bind hf
  cases e2
  refine b σ Z0 B Z H env fps ds _ Q I e1 fun p vs Z1 H1 fps1 I1 s1 nb nz nf hp r => hq _ Z1 H1 fps1 [p] I1 s1 ⟨p, vs, ds, rfl, rfl, rfl, hp, r⟩ ⟨fun a ha => ?_, fun a ha => ?_, fun a ha => ?_, fun a ha => ?_⟩
  all_goals obtain rfl : a = p := by simpa using ha
  · exact nb
  · exact nz
  · exact nf
  · exact ⟨_, hp, fun _ z => by cases z⟩
/-! ### several of them -/
/-- values for the slots is -/
inductive Owns (K : PySem.W.Frag) (C : Cf) (B Z H : Hp) (fps : Nat → List Addr) : List Addr → List Nat → List V → List D → Prop
  | nil {bad : List Addr} : Owns K C B Z H fps bad [] [] []
  | cons {bad : List Addr} {i : Nat} {is : List Nat} {v : V} {vs : List V} {d : D} {ds : List D} (fp : List Addr) : (C.md i).own K Z H v d fp → Fresh B Z H fps fp → (∀ a ∈ fp, a ∉ bad) → Owns K C B Z H fps (bad ++ fp) is vs ds → Owns K C B Z H fps bad (i :: is) (v :: vs) (d :: ds)
def MsSem (K : PySem.W.Frag) (C : Cf) (is : List Nat) (t : TA) (f : EAF) : Prop :=
  ∀ (σ : L2.St) (Z0 B Z H : Hp) (env : Env) (fps : Nat → List Addr) (bad : List Addr) (ds : List D) (env' : Env) (Q : List V → Hp → Prop), EnvOk K C Z0 B Z H σ env fps → Fresh B Z H fps bad → f env = .ok (ds, env') →
    (∀ vs Z' H' fps', EnvOk K C Z0 B Z' H' σ env' fps' → Same Z Z' → Fresh B Z' H' fps' bad → (∀ a ∈ bad, ∀ o, H a = some o → H' a = some o) → Owns K C B Z' H' fps' bad is vs ds → Q vs H') → t σ H Q
structure DMs (X : Cx) (C : Cf) (is : List Nat) (es : List Expr) (f : EAF) : Prop where
  ex : ∃ t, PA X es t ∧ MsSem X.K C is t f
theorem dms_nil : DMs X C [] [] eaNil := ⟨_, pa_nil, fun σ Z0 B Z H env fps bad ds env' Q I F hf hq => by cases hf; exact hq _ _ _ _ I (Same.refl _) F (fun _ _ _ e => e) .nil⟩
theorem Fresh.app {B Z H : Hp} {fps : Nat → List Addr} {a b : List Addr} (h1 : Fresh B Z H fps a) (h2 : Fresh B Z H fps b) : Fresh B Z H fps (a ++ b) :=
  ⟨fun x hx => (List.mem_append.mp hx).elim (h1.b x) (h2.b x), fun x hx => (List.mem_append.mp hx).elim (h1.z x) (h2.z x), fun x hx => (List.mem_append.mp hx).elim (h1.f x) (h2.f x), fun x hx => (List.mem_append.mp hx).elim (h1.h x) (h2.h x)⟩
theorem Fresh.left {B Z H : Hp} {fps : Nat → List Addr} {a b : List Addr} (h : Fresh B Z H fps (a ++ b)) : Fresh B Z H fps a :=
  ⟨fun x hx => h.b x (List.mem_append_left _ hx), fun x hx => h.z x (List.mem_append_left _ hx), fun x hx => h.f x (List.mem_append_left _ hx), fun x hx => h.h x (List.mem_append_left _ hx)⟩
theorem Fresh.right {B Z H : Hp} {fps : Nat → List Addr} {a b : List Addr} (h : Fresh B Z H fps (a ++ b)) : Fresh B Z H fps b :=
  ⟨fun x hx => h.b x (List.mem_append_right _ hx), fun x hx => h.z x (List.mem_append_right _ hx), fun x hx => h.f x (List.mem_append_right _ hx), fun x hx => h.h x (List.mem_append_right _ hx)⟩
theorem dms_cons {i : Nat} {is : List Nat} {g : EAF} (h : DOv X C m e f) (h' : DMs X C is es g) (hm : C.md i = m := by rfl) (hs : starEach (e :: es) X.env = (false, eval e X.env) :: starEach es X.env := by rfl) : DMs X C (i :: is) (e :: es) (eaCons f g) := by
  obtain ⟨t, h1, h2⟩ := h.ex
  obtain ⟨u, h3, h4⟩ := h'.ex
  refine ⟨_, pa_cons h1 h3 hs, fun σ Z0 B Z H env fps bad ds env' Q I F hf hq => ?_⟩
  obtain ⟨⟨d, env1⟩, e1, e2⟩ := R.of_bind hf
  obtain ⟨⟨ds', env2⟩, e3, e4⟩ := R.of_bind e2
  cases e4
  refine h2 σ Z (over bad H B) Z H env fps d env1 _ (I.guards F) e1 fun v Z1 H1 fps1 fp J1 s1 r1 F1 => ?_
  obtain ⟨I1, Fb, k1⟩ := EnvOk.unguards I.gr F J1
  have F1' : Fresh B Z1 H1 fps1 fp := ⟨fun a ha => (over_b F (F1.b a ha)).1, F1.z, F1.f, F1.h⟩
  refine h4 σ Z0 B Z1 H1 env1 fps1 (bad ++ fp) ds' env2 _ I1 (Fb.app F1') e3 fun vs Z2 H2 fps2 I2 s2 F2 k2 ow => ?_
  refine hq _ Z2 H2 fps2 I2 (s1.trans s2) F2.left (fun a ha o e => k2 a (List.mem_append_left _ ha) o (k1 a ha o e)) (.cons fp ?_ F2.right (fun a ha => (over_b F (F1.b a ha)).2) ow)
  rw [hm]
  exact m.frame r1 s2 fun a ha o e => k2 a (List.mem_append_right _ ha) o e
def storeV : L2.St → List Nat → List V → L2.St
  | σ, i :: is, v :: vs => storeV (σ.set i (some v)) is vs
  | σ, _, _ => σ
def storeE : Env → List Nat → List D → Env
  | e, i :: is, d :: ds => storeE (e.set i (some d)) is ds
  | e, _, _ => e
theorem EnvOk.stores {K : PySem.W.Frag} {Z0 B Z H : Hp} : ∀ {is : List Nat} {vs : List V} {ds : List D} {bad : List Addr} {σ : L2.St} {env : Env} {fps fps0 : Nat → List Addr}, EnvOk K C Z0 B Z H σ env fps → (∀ j a, a ∈ fps j → a ∈ fps0 j ∨ a ∈ bad) → Owns K C B Z H fps0 bad is vs ds → is.all (fun i => (C.pins.lookup i).isNone) = true →
    ∃ fps', EnvOk K C Z0 B Z H (storeV σ is vs) (storeE env is ds) fps'
  | _, _, _, _, _, _, _, _, I, hf, .nil, _ => ⟨_, I⟩
  | _, _, _, bad, σ, env, fps, fps0, I, hf, .cons (i := i) (v := v) (d := d) fp r F hb ow, hp => by
    rw [List.all_cons, Bool.and_eq_true] at hp
    have F' : Fresh B Z H fps fp := ⟨F.b, F.z, fun a ha j hj => (hf j a hj).elim (F.f a ha j) (hb a ha), F.h⟩
    obtain ⟨fps1, I1, h1⟩ := I.setM (i := i) (by simpa using hp.1) r F'
    exact I1.stores (fun j a h => by
      rcases h1 j a h with z | z
      · rcases hf j a z with z | z
        · exact .inl z
        · exact .inr (List.mem_append_left _ z)
      · exact .inr (List.mem_append_right _ z)) ow hp.2
/-- a, b, .. = e1, e2, .. -/
def eStore (is : List Nat) (f : EAF) : SF := fun env => (f env).bindP fun a => .ok (.nx, storeE a.2 is a.1)
theorem Owns.len {K : PySem.W.Frag} {B Z H : Hp} {fps : Nat → List Addr} : ∀ {bad : List Addr} {is : List Nat} {vs : List V} {ds : List D}, Owns K C B Z H fps bad is vs ds → vs.length = is.length
  | _, _, _, _, .nil => rfl
  | _, _, _, _, .cons _ _ _ _ o => congrArg Nat.succ o.len
theorem ds_store2 {pos : Pos} {i j : Nat} {x y : Str} {a b : Expr} {fa : EAF} {px py pt : Pos} {kt k2 pt2} (hc : X.calm = true) (hN : X.N.Nodup) (hi : X.N[i]? = some x) (hj : X.N[j]? = some y) (hij : i ≠ j)
    (hx : X.env.scope.names.lookup x = some .local) (hy : X.env.scope.names.lookup y = some .local) (ha : DMs X C [i, j] [a, b] fa)
    (hw : swappedStores [.Tuple [.Name x px, .Name y py] kt pt] (.Tuple [a, b] k2 pt2) X.env = pure (some [x, y]))
    (hp : [i, j].all (fun i => (C.pins.lookup i).isNone) = true := by rfl)
    (hs : swapsWithSole [.Tuple [.Name x px, .Name y py] kt pt] (.Tuple [a, b] k2 pt2) pos.line X.env = pure false := by rfl) :
    DS X C (.Assign [.Tuple [.Name x px, .Name y py] kt pt] (.Tuple [a, b] k2 pt2) pos) (eStore [i, j] fa) := by
  obtain ⟨t, a1, a2⟩ := ha.ex
  refine ⟨_, ps_par hc hN hi hj hij hx hy a1 hw hs, fun σ Z0 B Z H env fps E I h => ?_⟩
  obtain ⟨⟨ds, env1⟩, e1, h⟩ := post_bindP h
  refine a2 σ Z0 B Z H env fps [] ds env1 _ I Fresh.nil e1 fun vs Z1 H1 fps1 I1 s1 _ _ ow => ?_
  obtain ⟨fps2, I2⟩ := I1.stores (fun j a h => .inl h) ow hp
  have hl := ow.len
  match vs, hl with
  | [v, w], _ => exact ⟨v, w, rfl, h _ Z1 H1 fps2 I2⟩
theorem ds_store3 {pos : Pos} {i j l : Nat} {x y z : Str} {a b c : Expr} {fa : EAF} {px py pz pt : Pos} {kt k2 pt2} (hc : X.calm = true) (hN : X.N.Nodup) (hi : X.N[i]? = some x) (hj : X.N[j]? = some y) (hl : X.N[l]? = some z) (hij : i ≠ j) (hil : i ≠ l) (hjl : j ≠ l)
    (hx : X.env.scope.names.lookup x = some .local) (hy : X.env.scope.names.lookup y = some .local) (hz : X.env.scope.names.lookup z = some .local) (ha : DMs X C [i, j, l] [a, b, c] fa)
    (hw : swappedStores [.Tuple [.Name x px, .Name y py, .Name z pz] kt pt] (.Tuple [a, b, c] k2 pt2) X.env = pure (some [x, y, z]))
    (hp : [i, j, l].all (fun i => (C.pins.lookup i).isNone) = true := by rfl)
    (hs : swapsWithSole [.Tuple [.Name x px, .Name y py, .Name z pz] kt pt] (.Tuple [a, b, c] k2 pt2) pos.line X.env = pure false := by rfl) :
    DS X C (.Assign [.Tuple [.Name x px, .Name y py, .Name z pz] kt pt] (.Tuple [a, b, c] k2 pt2) pos) (eStore [i, j, l] fa) := by
  obtain ⟨t, a1, a2⟩ := ha.ex
  refine ⟨_, ps_par3 hc hN hi hj hl hij hil hjl hx hy hz a1 hw hs, fun σ Z0 B Z H env fps E I h => ?_⟩
  obtain ⟨⟨ds, env1⟩, e1, h⟩ := post_bindP h
  refine a2 σ Z0 B Z H env fps [] ds env1 _ I Fresh.nil e1 fun vs Z1 H1 fps1 I1 s1 _ _ ow => ?_
  obtain ⟨fps2, I2⟩ := I1.stores (fun j a h => .inl h) ow hp
  have hl := ow.len
  match vs, hl with
  | [u, v, w], _ => exact ⟨u, v, w, rfl, h _ Z1 H1 fps2 I2⟩
/-- targets that are plain names, some seen by inner blocks: stored by way of a tuple -/
inductive TNames (X : Cx) : List Expr → List Nat → Prop
  | nil : TNames X [] []
  | cons {x : Str} {p : Pos} {i : Nat} {es : List Expr} {is : List Nat} : X.N[i]? = some x → Loc X.env.scope x → (X.fn x = true ∨ X.env.scope.names.lookup x = some .local) → TNames X es is →
      (assignEach (.Name x p :: es) X.env).map (·.2) = assign (.Name x p) X.env :: (assignEach es X.env).map (·.2) → TNames X (.Name x p :: es) (i :: is)
theorem TNames.pgs (hN : X.N.Nodup) : ∀ {es : List Expr} {is : List Nat}, TNames X es is → ∃ t, PGs X es t ∧ ∀ vs σ H Q, vs.length = is.length → Q (storeV σ is vs) H → t vs σ H Q
  | _, _, .nil => ⟨_, pgs_nil, fun vs σ H Q hl h => by
    cases vs with
    | nil => exact ⟨rfl, h⟩
    | cons _ _ => cases hl⟩
  | _, _, .cons hi hx hf t hs => by
    obtain ⟨u, h1, h2⟩ := t.pgs hN
    refine ⟨_, pgs_cons (pg_name hN hi hx hf) h1 hs, fun vs σ H Q hl h => ?_⟩
    cases vs with
    | nil => cases hl
    | cons v vs => exact ⟨v, vs, rfl, h2 vs _ H Q (by simpa using hl) h⟩
theorem ds_storeT {pos : Pos} {ts es : List Expr} {is : List Nat} {fa : EAF} {pt : Pos} {kt k2 pt2} (hc : X.calm = true) (hN : X.N.Nodup) (T : TNames X ts is) (ha : DMs X C is es fa) (hn : (assignEach ts X.env).length = is.length := by rfl) (hst : (assignEach ts X.env).findIdx? (·.1) = none := by rfl) (hz : is.length ≤ 16 := by decide)
    (hw : swappedStores [.Tuple ts kt pt] (.Tuple es k2 pt2) X.env = pure none := by rfl) (hp : is.all (fun i => (C.pins.lookup i).isNone) = true := by rfl)
    (hs : swapsWithSole [.Tuple ts kt pt] (.Tuple es k2 pt2) pos.line X.env = pure false := by rfl) (h1 : (assignEach [.Tuple ts kt pt] X.env).map (·.2) = [assign (.Tuple ts kt pt) X.env] := by rfl) :
    DS X C (.Assign [.Tuple ts kt pt] (.Tuple es k2 pt2) pos) (eStore is fa) := by
  obtain ⟨t, a1, a2⟩ := ha.ex
  obtain ⟨u, g1, g2⟩ := T.pgs hN
  refine ⟨_, ps_asg (pe_tup a1) (pg_tup hc g1 hn hst) hs hw h1, fun σ Z0 B Z H env fps E I h => ?_⟩
  obtain ⟨⟨ds, env1⟩, e1, h⟩ := post_bindP h
  refine a2 σ Z0 B Z H env fps [] ds env1 _ I Fresh.nil e1 fun vs Z1 H1 fps1 I1 s1 _ _ ow => ?_
  have hl := ow.len
  refine ⟨by rw [hl, sizeLine_eq]; omega, fun p np => ?_⟩
  obtain ⟨fps2, I2⟩ := I1.stores (fun j a h => .inl h) ow hp
  refine ⟨p, vs, rfl, .inl (.inl upd_same), hl, g2 vs σ _ _ hl ?_⟩
  exact h _ Z1 _ fps2 (I2.grow (Gr.own I1.zh np))
end
end Dz

set_option maxRecDepth 100000
set_option maxHeartbeats 2000000
namespace Dz
open PySem PySem.Spec PyProof.Rows L2
/-! ## sorted(xs) of alike data -/
def tup1 : D → Bool
  | .tuple (_ :: _) => true
  | _ => false
def noTup : D → Bool
  | .tuple _ => false
  | .none => false
  | _ => true
def sortOk (ds : List D) : Bool := ds.all (fun d => ds.all fun e => PySem.W.alike d e) && (ds.all tup1 || ds.all noTup) && ds.all (fun d => SeqAt.shaped d)
def sortD (ds : List D) : List D := ds.mergeSort (PySem.W.dataLe false id)
theorem sortOk_alike {ds : List D} (h : sortOk ds = true) : PySem.W.AllAlike ds := by
  unfold sortOk at h
  rw [Bool.and_eq_true, Bool.and_eq_true] at h
  intro d hd d' hd'
  exact List.all_eq_true.mp (List.all_eq_true.mp h.1.1 d hd) d' hd'
theorem sortOk_sortable {ds : List D} (h : sortOk ds = true) : PySem.W.Sortable ds := by
  unfold sortOk at h
  rw [Bool.and_eq_true, Bool.and_eq_true, Bool.or_eq_true] at h
  rcases h.1.2 with h | h
  · refine .inl fun d hd => ?_
    have := List.all_eq_true.mp h d hd
    cases d with
    | tuple xs =>
      cases xs with
      | nil => cases this
      | cons x r => exact ⟨x, r, rfl⟩
    | _ => cases this
  · refine .inr fun d hd => ?_
    have := List.all_eq_true.mp h d hd
    cases d with
    | tuple xs => cases this
    | none => cases this
    | _ => exact ⟨fun e => (nomatch e), fun xs e => (nomatch e)⟩
theorem sortOk_shaped {ds : List D} (h : sortOk ds = true) : ∀ d ∈ ds, SeqAt.shaped d = true := by
  unfold sortOk at h
  rw [Bool.and_eq_true] at h
  exact List.all_eq_true.mp h.2
def rSortX (K : PySem.W.Frag) : List V → Hp → VK → Prop := fun xs H Q => ∃ (a : Addr) (zs : List (V × D)), xs = [.ref a] ∧ SqL K H a (zs.map (·.1)) ∧ (∀ z ∈ zs, Dp K H z.1 z.2) ∧ sortOk (zs.map (·.2)) = true ∧
  ∀ p, H p = none → Q (.ref p) (upd H p (.lst ((zs.mergeSort (PySem.W.dataLe false (·.2))).map (·.1))))
theorem each_zip {vs : List V} {us : List Value} (r : Vals vs us) : ∀ {zs : List (V × D)}, vs = zs.map (·.1) → PySem.W.EachIs (fun (u : Value) (z : V × D) => L2.RelV z.1 u) us zs := by
  induction r with
  | nil =>
    intro zs e
    cases zs with
    | nil => exact .nil
    | cons _ _ => cases e
  | cons h t ih =>
    intro zs e
    cases zs with
    | nil => cases e
    | cons z zs =>
      rw [List.map_cons, List.cons.injEq] at e
      exact .cons (by rw [← e.1]; exact h) (ih e.2)
theorem vals_each : ∀ {us : List Value} {zs : List (V × D)}, PySem.W.EachIs (fun (u : Value) (z : V × D) => L2.RelV z.1 u) us zs → Vals (zs.map (·.1)) us
  | _, _, .nil => .nil
  | _, _, .cons h t => .cons h (vals_each t)
theorem each_mem {us : List Value} {zs : List (V × D)} {P : Value → V × D → Prop} (e : PySem.W.EachIs (fun (u : Value) (z : V × D) => L2.RelV z.1 u) us zs) (h : ∀ u z, z ∈ zs → L2.RelV z.1 u → P u z) : PySem.W.EachIs P us zs := by
  induction e with
  | nil => exact .nil
  | cons a t ih => exact .cons (h _ _ List.mem_cons_self a) (ih fun u z hz r => h u z (List.mem_cons_of_mem _ hz) r)
theorem cr_sortX {X : Cx} {k : Nat} (hr : RmG k X.A) : CallR X (.builtin "sorted") (rSortX X.K) := by
  intro pins s σ H vs us Q I r h
  obtain ⟨a, zs, rfl, hs, hd, hk, q⟩ := h
  obtain ⟨its, rv, hl, hz⟩ := I.list hs
  rw [Vals.ref1 r]
  have e := each_zip rv rfl
  have hun := hr.un
  have hlen : zs.length = its.length := by rw [← rv.length, List.length_map]
  refine PySem.W.sorted_data (enc := fun z : V × D => z.2) (R := fun u z => L2.RelV z.1 u) hl.isList e (each_mem e fun u z hz rz => Dp.reads I z.2 z.1 u (hd z hz) rz) (sortOk_alike hk) (sortOk_sortable hk) (by rw [List.length_map] at hz; exact hz) (fun z hz => ?_) fun out ho he => ?_
  · have := SeqAt.depth_of_shaped (sortOk_shaped hk z.2 (List.mem_map_of_mem hz))
    omega
  · obtain ⟨ep, he'⟩ := PyProof.Rows.sortedAll_at s.heap its out.toArray
    have hv := vals_each he
    have hl2 : ((zs.mergeSort (PySem.W.dataLe false fun z : V × D => z.2)).map (·.1)).length ≤ sizeLine := by
      rw [List.length_map, List.length_mergeSort]
      rw [List.length_map] at hz
      exact hz
    refine ⟨.ref _, upd H (s.heap.objs.size + 1) (.lst ((zs.mergeSort (PySem.W.dataLe false fun z : V × D => z.2)).map (·.1))), I.laid (t' := s.toks) (fun _ _ => PyProof.Rows.sortedAll_old) (Nat.le_succ _) ⟨hl2, out, ep, hv, he'⟩, rfl, q _ (I.hok.fresh (Nat.le_succ _))⟩
theorem zip_reps {K : PySem.W.Frag} {Z : Hp} : ∀ {vs : List V} {ds : List D}, Reps K Z vs ds → (vs.zip ds).map (·.1) = vs ∧ (vs.zip ds).map (·.2) = ds ∧ ∀ z ∈ vs.zip ds, Rep K Z z.1 z.2
  | _, _, .nil => ⟨rfl, rfl, fun _ h => (nomatch h)⟩
  | _, _, .cons h t => by
    obtain ⟨h1, h2, h3⟩ := zip_reps t
    refine ⟨congrArg (_ :: ·) h1, congrArg (_ :: ·) h2, fun z hz => ?_⟩
    rcases List.mem_cons.mp hz with rfl | hz
    · exact h
    · exact h3 z hz
theorem reps_of {K : PySem.W.Frag} {Z : Hp} : ∀ {zs : List (V × D)}, (∀ z ∈ zs, Rep K Z z.1 z.2) → Reps K Z (zs.map (·.1)) (zs.map (·.2))
  | [], _ => .nil
  | z :: zs, h => .cons (h z List.mem_cons_self) (reps_of fun w hw => h w (List.mem_cons_of_mem _ hw))
def gSorted : List D → R D
  | [.list ds] => R.when (sortOk ds) (.ok (.list (sortD ds)))
  | _ => .no
theorem v_sorted {K : PySem.W.Frag} : OpN K (rSortX K) gSorted := fun xs H Z as c Q hz r h hq => by
  unfold gSorted at h
  split at h
  · rename_i ds
    obtain ⟨h1, h2⟩ := R.of_when h
    cases h2
    cases r with
    | cons r t =>
      cases t
      cases r with
      | @lst a0 vs0 _ tt q =>
        obtain ⟨z1, z2, z3⟩ := zip_reps q
        refine ⟨_, _, rfl, .inl (.inl (by rw [z1]; exact hz _ _ tt)), fun z hzm => ?_, by rw [z2]; exact h1, fun p np => ?_⟩
        · refine (z3 z hzm).dp hz (SeqAt.canLay_of_shaped (sortOk_shaped h1 _ ?_))
          have := List.mem_map_of_mem (f := (·.2)) hzm
          rw [z2] at this
          exact this
        · have g := Gr.new (o := .lst (((vs0.zip ds).mergeSort (PySem.W.dataLe false fun z : V × D => z.2)).map (·.1))) hz np
          refine hq _ _ _ g (.lst upd_same ?_)
          have r2 := reps_of (K := K) (Z := Z) (zs := (vs0.zip ds).mergeSort (PySem.W.dataLe false fun z : V × D => z.2)) fun z hzm => z3 z ((List.mergeSort_perm (vs0.zip ds) (PySem.W.dataLe false fun z : V × D => z.2)).mem_iff.mp hzm)
          have e2 : ((vs0.zip ds).mergeSort (PySem.W.dataLe false fun z : V × D => z.2)).map (·.2) = sortD ds := by
            have := List.map_mergeSort (l := vs0.zip ds) (f := fun z : V × D => z.2) (r := PySem.W.dataLe false fun z : V × D => z.2) (s := PySem.W.dataLe false id) fun a _ b _ => rfl
            unfold sortD
            rw [this, z2]
          rw [e2] at r2
          exact r2.mono g.zz
  · cases h
/-! ## list(x) of a list of one's own, x.pop(i) -/
section
variable {X : Cx} {C : Cf} {e : Expr} {f : EF} {i : Nat} {x : Str} {p' pos cpos apos p : Pos}
def eListOwn (i : Nat) : EAF := fun env => (lstAt env i).bind fun ds => .ok (ds, env)
theorem deo_listOwn (hN : X.N[i]? = some x) (hv : Vis X.env.scope x) (hg : Gl X "list") (hm : X.mg "list" = none) (hu : C.ms.lookup i = some mL := by rfl) (hd : (x == ("__debug__" : Str)) = false := by decide) (hcd : (x == ("__classdict__" : Str)) = false := by decide)
    (he : starEach (.Name x p' :: []) X.env = (false, eval (.Name x p') X.env) :: starEach [] X.env := by rfl) (hpl : (backTo pos (starEach [] X.env)).any (·.1) = false := by rfl) : DEO X C (.Call (.Name "list" p) [.Name x p'] [] pos) (eListOwn i) := by
  refine ⟨_, pe_callTy call_list_of hg hm (by decide +kernel) (pa_cons (pe_var hN hv hd hcd) pa_nil he) (by decide) (by decide) he hpl, fun σ Z0 B Z H env fps ds env' Q I hf hq => ?_⟩
  obtain ⟨ds', e1, e2⟩ := R.of_bind hf
  cases e2
  obtain ⟨q, vs, hσ, _, hH, r, hfp⟩ := I.lst hu (of_lstAt e1)
  refine ⟨_, hσ, q, vs, rfl, .inl (.inl (.inl hH)), fun l nl => ?_⟩
  refine hq l vs Z _ fps (I.grow (Gr.own I.zh nl)) (Same.refl _) (I.gr.hh.free nl) (I.zh.free nl) (fun j hj => ?_) upd_same r
  obtain ⟨_, _, o, ho, _⟩ := I.fp j l hj
  rw [nl] at ho; cases ho
def eListC (f : EF) : EAF := fun env => (f env).bind fun d => (itemsOf d.1).bind fun ds => .ok (ds, d.2)
/-- list(e): a list of one's own -/
theorem deo_listC (h : DE X C e f) (hg : Gl X "list") (hm : X.mg "list" = none) (he : starEach (e :: []) X.env = (false, eval e X.env) :: starEach [] X.env := by rfl) (hpl : (backTo pos (starEach [] X.env)).any (·.1) = false := by rfl) : DEO X C (.Call (.Name "list" p) [e] [] pos) (eListC f) := by
  obtain ⟨t, a, b⟩ := h.ex
  refine ⟨_, pe_callTy call_list_of hg hm (by decide +kernel) (pa_cons a pa_nil he) (by decide) (by decide) he hpl, fun σ Z0 B Z H env fps ds env' Q I hf hq => ?_⟩
  obtain ⟨⟨d, env1⟩, e1, e2⟩ := R.of_bind hf
  obtain ⟨ds', e3, e4⟩ := R.of_bind e2
  cases e4
  refine b σ Z0 B Z H env fps d env1 _ I e1 fun v Z1 H1 fps1 I1 s1 r => ?_
  have fin : ∀ {l : Addr} {vs : List V}, Reps X.K Z1 vs ds → H1 l = none → Q (.ref l) (upd H1 l (.lst vs)) := fun {l vs} q nl =>
    hq l vs Z1 _ fps1 (I1.grow (Gr.own I1.zh nl)) s1 (I1.gr.hh.free nl) (I1.zh.free nl) (fun j hj => by
      obtain ⟨_, _, o, ho, _⟩ := I1.fp j l hj
      rw [nl] at ho; cases ho) upd_same q
  unfold itemsOf at e3
  split at e3
  · rename_i hdd
    obtain rfl : d = _ := hdd
    cases e3
    cases r with
    | lst tt q => exact ⟨_, _, rfl, .inl (.inl (.inl (I1.zh _ _ tt))), fun l nl => fin q nl⟩
  · rename_i hdd
    obtain rfl : d = _ := hdd
    cases e3
    cases r with
    | tup tt q => exact ⟨_, _, rfl, .inr (same_seqT I1.zh tt), fun l nl => fin q nl⟩
  · cases e3
def popD (ds : List D) : D → R (D × List D)
  | .int k => if -(2 ^ 63) ≤ k ∧ k < 2 ^ 63 then (match seqIndex? k ds.length with
    | some j => (match ds[j]? with
      | some d => .ok (d, ds.eraseIdx j)
      | none => .no)
    | none => .no) else .no
  | _ => .no
def ePopAt (i : Nat) (f : EF) : EF := fun env => (lstAt env i).bind fun _ => (f env).bind fun k => (lstAt k.2 i).bind fun ds => (popD ds k.1).bind fun r => .ok (r.1, k.2.set i (some (.list r.2)))
theorem de_popAt (hN : X.N[i]? = some x) (hv : Vis X.env.scope x) (h : DE X C e f) (hu : C.ms.lookup i = some mL := by rfl) (hd : (x == ("__debug__" : Str)) = false := by decide) (hcd : (x == ("__classdict__" : Str)) = false := by decide)
    (he : starEach (e :: []) X.env = (false, eval e X.env) :: starEach [] X.env := by rfl) (hbase : attributeBase (.Name x p') "pop" X.env (eval (.Name x p') X.env) = eval (.Name x p') X.env := by rfl) (hfew : ((backTo cpos (starEach (e :: []) X.env)).all (fun x => !x.1) && (backToKw cpos (keywordEach [] X.env)).all (fun x => x.1.isSome) && decide ((e :: []).length + ([] : List Keyword).length + (if ([] : List Keyword).isEmpty then 0 else 1) < 30)) = true := by rfl) (hline : (apos.endLine == cpos.line) = true := by rfl) (hpl : (backTo cpos (starEach [] X.env)).any (·.1) = false := by rfl) :
    DE X C (.Call (.Attribute (.Name x p') "pop" apos) [e] [] cpos) (ePopAt i f) := by
  obtain ⟨t, a, b⟩ := (dea_cons h dea_nil he).ex
  refine ⟨_, pe_bm PySem.F.plainAttrs_list PySem.F.slot_list_pop PySem.F.type_list_pop mt_popAt (pe_var hN hv hd hcd) a hbase hfew hline he hpl, fun σ Z0 B Z H env fps d env' Q I hf hq => ?_⟩
  obtain ⟨ds0, e0, hf⟩ := R.of_bind hf
  obtain ⟨⟨k, env1⟩, e1, hf⟩ := R.of_bind hf
  obtain ⟨ds, e2, hf⟩ := R.of_bind hf
  obtain ⟨⟨y, ds2⟩, e3, hf⟩ := R.of_bind hf
  cases hf
  obtain ⟨q0, vs0, hσ0, _, hH0, _, _⟩ := I.lst hu (of_lstAt e0)
  refine ⟨_, hσ0, .inl ⟨rfl, _, SqL.of hH0⟩, ?_⟩
  refine b σ Z0 B Z H env fps [k] env1 _ I (by simp [eaCons, eaNil, e1]) fun ws Z1 H1 fps1 I1 s1 r1 => ?_
  obtain ⟨q, vs, hσ, _, hH, r, hfp⟩ := I1.lst hu (of_lstAt e2)
  have hqq : q0 = q := by
    rw [hσ] at hσ0
    cases hσ0; rfl
  subst hqq
  cases k with
  | int k =>
    unfold popD at e3
    dsimp only at e3
    split at e3
    · rename_i hb
      split at e3
      · rename_i j hj
        split at e3
        · rename_i y' hy
          cases e3
          cases r1 with
          | cons r1 rr =>
            cases rr
            cases r1
            obtain ⟨v, hvj, rv⟩ := r.get hy
            refine ⟨q0, vs, k, j, v, rfl, rfl, hH, hb.1, hb.2, by rw [r.length]; exact hj, hvj, ?_⟩
            exact hq v Z1 _ _ (I1.lstSet hu hσ hfp (r.eraseIdx j)) s1 rv
        · cases e3
      · cases e3
    · cases e3
  | _ => cases e3
end
end Dz

set_option maxRecDepth 100000
set_option maxHeartbeats 2000000
namespace Dz
open PySem PySem.Spec PyProof.Rows L2
/-! ## plain lemmas: comprehensions and loops -/
theorem lcGo_map {tgt : GF} {ff : Env → R Bool} {fe : PF} {env : Env} (p : D → Bool) (g : D → D) : ∀ {ds : List D}, (∀ d ∈ ds, ∃ e1, tgt d env = .ok e1 ∧ ff e1 = .ok (p d) ∧ (p d = true → fe e1 = .ok (g d))) → lcGo tgt ff fe env ds = .ok ((ds.filter p).map g)
  | [], _ => rfl
  | d :: ds, h => by
    obtain ⟨e1, h1, h2, h3⟩ := h d List.mem_cons_self
    have ih := lcGo_map p g fun d' hd => h d' (List.mem_cons_of_mem _ hd)
    unfold lcGo
    rw [h1, R.bind_ok, h2, R.bind_ok]
    cases hp : p d with
    | true =>
      rw [if_pos rfl, h3 hp, R.bind_ok, ih, R.bind_ok, List.filter_cons, if_pos hp]
      rfl
    | false =>
      rw [if_neg Bool.false_ne_true, ih, List.filter_cons, if_neg (by rw [hp]; exact Bool.false_ne_true)]
theorem cLc_ok {fi : IF} {vs : List Nat} {tgt : GF} {ff : Env → R Bool} {fe : PF} {env : Env} {ds : List D} (p : D → Bool) (g : D → D) (hi : fi env = .ok ds) (hz : ds.length ≤ sizeLine)
    (h : ∀ d ∈ ds, ∃ e1, tgt d (wipeE env vs) = .ok e1 ∧ ff e1 = .ok (p d) ∧ (p d = true → fe e1 = .ok (g d))) : cLc fi vs tgt ff fe env = .ok ((ds.filter p).map g) := by
  unfold cLc
  rw [hi, R.bind_ok, lcGo_map p g h, R.bind_ok, decide_eq_true, R.when_true]
  rw [List.length_map]
  exact Nat.le_trans (List.length_filter_le _ _) hz
theorem cLcM_ok {fi : IF} {vs : List Nat} {tgt : GF} {fe : PF} {env : Env} {ds : List D} (g : D → D) (hi : fi env = .ok ds) (hz : ds.length ≤ sizeLine)
    (h : ∀ d ∈ ds, ∃ e1, tgt d (wipeE env vs) = .ok e1 ∧ fe e1 = .ok (g d)) : cLc fi vs tgt cYes fe env = .ok (ds.map g) := by
  have := cLc_ok (fi := fi) (vs := vs) (tgt := tgt) (ff := cYes) (fe := fe) (env := env) (fun _ => true) g hi hz fun d hd => by
    obtain ⟨e1, h1, h2⟩ := h d hd
    exact ⟨e1, h1, rfl, fun _ => h2⟩
  rw [this, List.filter_eq_self.mpr fun _ _ => rfl]
theorem cList_ok {f : Env → R (List D)} {env : Env} {ds : List D} (h : f env = .ok ds) : cList f env = .ok (.list ds) := by
  unfold cList
  rw [h, R.bind_ok]
theorem lcGoE_fold {vs : List Nat} {tgt : GF} {ff : ETF} {fe : EF} {P : List D → Env → Prop} : ∀ {ds : List D} {done : List D} {env : Env}, P done env →
    (∀ done' env d, d ∈ ds → done'.length < done.length + ds.length → P done' env → ∃ e1 e2 y e3, tgt d env = .ok e1 ∧ ff e1 = .ok (true, e2) ∧ fe e2 = .ok (y, e3) ∧ P (done' ++ [y]) (wipeE e3 vs)) → ∃ ys e', lcGoE vs tgt ff fe env ds = .ok (ys, e') ∧ ys.length = ds.length ∧ P (done ++ ys) e'
  | [], done, env, hp, _ => ⟨[], env, rfl, rfl, by rw [List.append_nil]; exact hp⟩
  | d :: ds, done, env, hp, h => by
    obtain ⟨e1, e2, y, e3, h1, h2, h3, h4⟩ := h done env d List.mem_cons_self (by simp) hp
    obtain ⟨ys, e', h5, h6, h7⟩ := lcGoE_fold h4 fun done env d hd hl => h done env d (List.mem_cons_of_mem _ hd) (by simp at hl ⊢; omega)
    refine ⟨y :: ys, e', ?_, by rw [List.length_cons, h6, List.length_cons], by rw [List.append_assoc] at h7; exact h7⟩
    unfold lcGoE
    rw [h1, R.bind_ok, h2, R.bind_ok, if_pos rfl]
    show ((fe e2).bind _) = _
    rw [h3, R.bind_ok]
    show ((lcGoE vs tgt ff fe (wipeE e3 vs) ds).bind _) = _
    rw [h5]
    rfl
theorem eLc_ok {fi : EIF} {vs : List Nat} {tgt : GF} {ff : ETF} {fe : EF} {P : List D → Env → Prop} {env e0 : Env} {ds : List D} (hi : fi env = .ok (ds, e0)) (hz : ds.length ≤ sizeLine) (hp : P [] (wipeE e0 vs))
    (h : ∀ done env d, d ∈ ds → done.length < ds.length → P done env → ∃ e1 e2 y e3, tgt d env = .ok e1 ∧ ff e1 = .ok (true, e2) ∧ fe e2 = .ok (y, e3) ∧ P (done ++ [y]) (wipeE e3 vs)) : ∃ ys e', eLc fi vs tgt ff fe env = .ok (ys, restE e0 e' vs) ∧ ys.length = ds.length ∧ P ys e' := by
  obtain ⟨ys, e', h1, h2, h3⟩ := lcGoE_fold (ds := ds) hp fun done env d hd hl => h done env d hd (by simpa using hl)
  refine ⟨ys, e', ?_, h2, h3⟩
  unfold eLc
  rw [hi, R.bind_ok]
  show ((lcGoE vs tgt ff fe (wipeE e0 vs) ds).bind _) = _
  rw [h1, R.bind_ok, decide_eq_true (by rw [h2]; exact hz), R.when_true]
theorem eList_ok {f : EAF} {env e' : Env} {ds : List D} (h : f env = .ok (ds, e')) : eList f env = .ok (.list ds, e') := by
  unfold eList
  rw [h, R.bind_ok]
theorem forL_fold {gt : GF} {g : SF} {P : List D → Env → Prop} : ∀ {ds done : List D} {env : Env}, P done env → (∀ done d env, d ∈ ds → P done env → ∃ e1 e2, gt d env = .ok e1 ∧ (g e1 = .ok (.nx, e2) ∨ g e1 = .ok (.ct, e2)) ∧ P (done ++ [d]) e2) →
    ∃ e', forL gt g ds env = .ok (.nx, e') ∧ P (done ++ ds) e'
  | [], done, env, hp, _ => ⟨env, rfl, by rw [List.append_nil]; exact hp⟩
  | d :: ds, done, env, hp, h => by
    obtain ⟨e1, e2, h1, h2, h3⟩ := h done d env List.mem_cons_self hp
    obtain ⟨e', h4, h5⟩ := forL_fold h3 fun done d env hd => h done d env (List.mem_cons_of_mem _ hd)
    refine ⟨e', ?_, by rw [List.append_assoc] at h5; exact h5⟩
    rw [forL, h1, R.bindP_ok]
    rcases h2 with h2 | h2
    · rw [h2, R.bind_ok]; exact h4
    · rw [h2, R.bind_ok]; exact h4
theorem eFor_ok {fi : EIF} {gt : GF} {g : SF} {env e0 : Env} {ds : List D} {r : R (Flo × Env)} (h : fi env = .ok (ds, e0)) (h2 : forL gt g ds e0 = r) : eFor fi gt g env = r := by
  unfold eFor
  rw [h, R.bindP_ok]
  exact h2
theorem sSet_ok {i : Nat} {f : PF} {env : Env} {d : D} (h : f env = .ok d) : sSet i f env = .ok (.nx, env.set i (some d)) := by
  unfold sSet
  rw [h, R.bindP_ok]
theorem eSet_ok {i : Nat} {f : EF} {env e' : Env} {d : D} (h : f env = .ok (d, e')) : eSet i f env = .ok (.nx, e'.set i (some d)) := by
  unfold eSet
  rw [h, R.bindP_ok]
theorem sIf_false {c : Env → R Bool} {g g' : SF} {env : Env} {r : R (Flo × Env)} (h : c env = .ok false) (h2 : g' env = r) : sIf c g g' env = r := by
  unfold sIf
  rw [h, R.bindP_ok, if_neg Bool.false_ne_true, h2]
theorem sIf_true {c : Env → R Bool} {g g' : SF} {env : Env} {r : R (Flo × Env)} (h : c env = .ok true) (h2 : g env = r) : sIf c g g' env = r := by
  unfold sIf
  rw [h, R.bindP_ok, if_pos rfl, h2]
theorem cOr_ff {f g : Env → R Bool} {env : Env} (h : f env = .ok false) (h2 : g env = .ok false) : cOr f g env = .ok false := by
  unfold cOr
  rw [h, R.bind_ok, if_neg Bool.false_ne_true, h2]
theorem cTst_ok {f : PF} {env : Env} {b : Bool} (h : f env = .ok (.bool b)) : cTst f env = .ok b := by
  unfold cTst
  rw [h, R.bind_ok]
  rfl
theorem cBin_ok {g : D → D → R D} {fa fb : PF} {env : Env} {a b c : D} (h1 : fa env = .ok a) (h2 : fb env = .ok b) (h3 : g a b = .ok c) : cBin g fa fb env = .ok c := by
  unfold cBin
  rw [h1, R.bind_ok, h2, R.bind_ok, h3]
theorem cCall1_ok {g : List D → R D} {f : PF} {env : Env} {a c : D} (h1 : f env = .ok a) (h3 : g [a] = .ok c) : cCall g (aCons f aNil) env = .ok c := by
  unfold cCall aCons aNil
  rw [h1]
  exact h3
theorem cFn1_ok {F : List D → R D} {f : PF} {env : Env} {a c : D} (h1 : f env = .ok a) (h3 : F [a] = .ok c) : cFn 1 F (aCons f aNil) env = .ok c := cFn_ok (ds := [a]) (by unfold aCons aNil; rw [h1]; rfl) rfl h3
theorem cFn2_ok {F : List D → R D} {f g : PF} {env : Env} {a b c : D} (h1 : f env = .ok a) (h2 : g env = .ok b) (h3 : F [a, b] = .ok c) : cFn 2 F (aCons f (aCons g aNil)) env = .ok c := cFn_ok (ds := [a, b]) (by unfold aCons aNil; rw [h1, R.bind_ok, h2]; rfl) rfl h3
theorem cRng1_ok {f : PF} {env : Env} {j : Int} (h : f env = .ok (.int j)) (h1 : -(2 ^ 62) ≤ j) (h2 : j < 2 ^ 62) : cRng1 f env = .ok (rgD 0 j.toNat) := by
  unfold cRng1
  rw [h, R.bind_ok]
  show R.when (decide (-(2 ^ 62) ≤ j ∧ j < 2 ^ 62)) _ = _
  rw [decide_eq_true ⟨h1, h2⟩, R.when_true]
theorem cRng2_ok {f g : PF} {env : Env} {i j : Int} (h : f env = .ok (.int i)) (h' : g env = .ok (.int j)) (h1 : -(2 ^ 62) ≤ i ∧ i < 2 ^ 62 ∧ -(2 ^ 62) ≤ j ∧ j < 2 ^ 62) : cRng2 f g env = .ok (rgD i (j - i).toNat) := by
  unfold cRng2
  rw [h, R.bind_ok, h', R.bind_ok]
  show R.when (decide (-(2 ^ 62) ≤ i ∧ i < 2 ^ 62 ∧ -(2 ^ 62) ≤ j ∧ j < 2 ^ 62)) _ = _
  rw [decide_eq_true h1, R.when_true]
theorem eI_ok {fi : IF} {env : Env} {ds : List D} (h : fi env = .ok ds) : eI fi env = .ok (ds, env) := by
  unfold eI
  rw [h, R.bind_ok]
theorem eP_ok {f : PF} {env : Env} {d : D} (h : f env = .ok d) : eP f env = .ok (d, env) := by
  unfold eP
  rw [h, R.bind_ok]
theorem eT_ok {f : Env → R Bool} {env : Env} {d : Bool} (h : f env = .ok d) : eT f env = .ok (d, env) := by
  unfold eT
  rw [h, R.bind_ok]
theorem cScal_ok {f : PF} {env : Env} {d : D} (h : f env = .ok d) (hn : noRef d = true) : cScal f env = .ok d := by
  unfold cScal
  rw [h, R.bind_ok, hn, R.when_true]
theorem ea1_ok {f : EF} {env e' : Env} {d : D} (h : f env = .ok (d, e')) : eaCons f eaNil env = .ok ([d], e') := by
  unfold eaCons eaNil
  rw [h, R.bind_ok]
  rfl
theorem ea2_ok {f g : EF} {env e' e'' : Env} {d d' : D} (h : f env = .ok (d, e')) (h' : g e' = .ok (d', e'')) : eaCons f (eaCons g eaNil) env = .ok ([d, d'], e'') := by
  unfold eaCons
  rw [h, R.bind_ok]
  show R.bind ((g e').bind _) _ = _
  rw [h', R.bind_ok]
  rfl
theorem eBin_ok {g : D → D → R D} {fa fb : EF} {env e1 e2 : Env} {a b c : D} (h1 : fa env = .ok (a, e1)) (h2 : fb e1 = .ok (b, e2)) (h3 : g a b = .ok c) : eBin g fa fb env = .ok (c, e2) := by
  unfold eBin
  rw [h1, R.bind_ok]
  show R.bind (fb e1) _ = _
  rw [h2, R.bind_ok]
  show R.bind (g a b) _ = _
  rw [h3]
  rfl
theorem ePopAt_ok {i : Nat} {f : EF} {env e1 : Env} {k y : D} {ds ds' : List D} (h0 : env[i]? = some (some (.list ds))) (h1 : f env = .ok (k, e1)) (h2 : e1[i]? = some (some (.list ds))) (h3 : popD ds k = .ok (y, ds')) : ePopAt i f env = .ok (y, e1.set i (some (.list ds'))) := by
  have l0 : lstAt env i = .ok ds := by unfold lstAt; rw [h0]
  have l1 : lstAt e1 i = .ok ds := by unfold lstAt; rw [h2]
  unfold ePopAt
  rw [l0, R.bind_ok, h1, R.bind_ok]
  show R.bind (lstAt e1 i) _ = _
  rw [l1, R.bind_ok]
  show R.bind (popD ds k) _ = _
  rw [h3]
  rfl
theorem eRng_ok {g : List D → R (List D)} {f : EAF} {env e' : Env} {as ds : List D} (h : f env = .ok (as, e')) (h2 : g as = .ok ds) : eRng g f env = .ok (ds, e') := by
  unfold eRng
  rw [h, R.bind_ok]
  show R.bind (g as) _ = _
  rw [h2]
  rfl
theorem rng1_ok {j : Int} (h1 : -(2 ^ 62) ≤ j) (h2 : j < 2 ^ 62) : rng1 [.int j] = .ok (rgD 0 j.toNat) := by
  show R.when (decide (-(2 ^ 62) ≤ j ∧ j < 2 ^ 62)) _ = _
  rw [decide_eq_true ⟨h1, h2⟩, R.when_true]
theorem eTst_ok {f : EF} {env e' : Env} {b : Bool} (h : f env = .ok (.bool b, e')) : eTst f env = .ok (b, e') := by
  unfold eTst
  rw [h, R.bind_ok]
  rfl
theorem eIfS_t {c : ETF} {g g' : SF} {env e' : Env} {r : R (Flo × Env)} (h : c env = .ok (true, e')) (h2 : g e' = r) : eIfS c g g' env = r := by
  unfold eIfS
  rw [h, R.bindP_ok, if_pos rfl]
  exact h2
theorem eIfS_f {c : ETF} {g g' : SF} {env e' : Env} {r : R (Flo × Env)} (h : c env = .ok (false, e')) (h2 : g' e' = r) : eIfS c g g' env = r := by
  unfold eIfS
  rw [h, R.bindP_ok, if_neg Bool.false_ne_true]
  exact h2
theorem run_ok {n : Nat} {g : SF} {args : List D} {d : D} {e' : Env} (h : g (args.map some ++ List.replicate (n - args.length) none) = .ok (.rt d, e')) : run n g args = .ok d := by
  unfold run
  rw [h]
  rfl
theorem runM_ok {n : Nat} {g : SF} {args : List D} {d s : D} {e' : Env} (h : g (args.map some ++ List.replicate (n - args.length) none) = .ok (.rt d, e')) (h0 : slotAt e' 0 = .ok s) : runM n g args = .ok (d, s) := by
  unfold runM
  rw [h, R.bind_ok]
  show R.bind (slotAt e' 0) _ = _
  rw [h0]
  rfl
theorem sRet_ok {f : PF} {env : Env} {d : D} (h : f env = .ok d) : sRet f env = .ok (.rt d, env) := by
  unfold sRet
  rw [h, R.bindP_ok]
theorem eRet_ok {f : EF} {env e' : Env} {d : D} (h : f env = .ok (d, e')) : eRet f env = .ok (.rt d, e') := by
  unfold eRet
  rw [h, R.bindP_ok]
theorem seqIx {r : Int} {n : Nat} (h0 : 0 ≤ r) (h1 : r < n) : seqIndex? r n = some r.toNat := by
  unfold seqIndex?
  simp
  omega
theorem popD_ok {ds : List D} {r : Int} (h0 : 0 ≤ r) (h1 : r < ds.length) (h2 : ds.length < 2 ^ 30) : ∃ y, y ∈ ds ∧ popD ds (.int r) = .ok (y, ds.eraseIdx r.toNat) := by
  have hlt : r.toNat < ds.length := by omega
  refine ⟨ds[r.toNat], List.getElem_mem hlt, ?_⟩
  unfold popD
  show (if _ then _ else _) = _
  rw [if_pos (by omega), seqIx h0 h1]
  show (match ds[r.toNat]? with | some d => _ | none => _) = _
  rw [List.getElem?_eq_getElem hlt]
/-! ### words as data -/
theorem wD_inj {a b : List Int} : (wD a = wD b) ↔ a = b := by
  unfold wD
  constructor
  · intro h
    have h : a.map PyData.int = b.map PyData.int := by injection h
    exact List.map_inj_right (fun x y e => by injection e) |>.mp h
  · rintro rfl; rfl
theorem canLay_ints : ∀ (w : List Int), PyData.canLayAll0 (w.map PyData.int) = true
  | [] => rfl
  | _ :: w => by rw [List.map_cons, PyData.canLayAll0, canLay_ints w]; rfl
theorem depth_ints : ∀ (w : List Int), PyData.depthAll (w.map PyData.int) = 0
  | [] => rfl
  | _ :: w => by rw [List.map_cons, PyData.depthAll, depth_ints w]; rfl
@[simp] theorem shaped_wD (w : List Int) : SeqAt.shaped (wD w) = true := by
  unfold SeqAt.shaped wD
  rw [PyData.canLay0, canLay_ints, PyData.depth, depth_ints]
  rfl
theorem eqv_ints : ∀ (a b : List Int), PyData.eqvAll (a.map PyData.int) (b.map PyData.int) = decide (a = b)
  | [], [] => by simp [PyData.eqvAll]
  | [], _ :: _ => by simp [PyData.eqvAll]
  | _ :: _, [] => by simp [PyData.eqvAll]
  | x :: a, y :: b => by
    rw [List.map_cons, List.map_cons, PyData.eqvAll, eqv_ints a b]
    by_cases h : x = y
    · subst h
      simp [PyData.eqv]
    · simp [PyData.eqv, h]
@[simp] theorem eqv_wD (a b : List Int) : PyData.eqv (wD a) (wD b) = decide (a = b) := by
  unfold wD
  rw [PyData.eqv, eqv_ints]
@[simp] theorem gEq_wD (a b : List Int) : gEq (wD a) (wD b) = .ok (.bool (decide (a = b))) := by
  show R.when (SeqAt.shaped (wD a) && SeqAt.shaped (wD b)) (R.ok (PyData.bool (PyData.eqv (wD a) (wD b)))) = _
  simp
@[simp] theorem gNe_wD (a b : List Int) : gNe (wD a) (wD b) = .ok (.bool (!decide (a = b))) := by
  show R.when (SeqAt.shaped (wD a) && SeqAt.shaped (wD b)) (R.ok (PyData.bool (!PyData.eqv (wD a) (wD b)))) = _
  simp
theorem gAdd_wD {a b : List Int} (h : a.length + b.length ≤ sizeLine) : gAdd (wD a) (wD b) = .ok (wD (a ++ b)) := by
  unfold wD
  show R.when (decide ((a.map PyData.int).length + (b.map PyData.int).length ≤ sizeLine)) _ = _
  rw [when_of (decide_eq_true (by rw [List.length_map, List.length_map]; exact h)), List.map_append]
theorem forL_acc {α : Type} {gt : GF} {g : SF} (c : α → D) (h : α → List D) (P : List D → Env → Prop) : ∀ (l : List α) (acc : List D) (env : Env), acc.length + (l.flatMap h).length ≤ sizeLine → P acc env →
    (∀ x ∈ l, ∀ acc env, acc.length + (h x).length ≤ sizeLine → P acc env → ∃ e1 e2, gt (c x) env = .ok e1 ∧ g e1 = .ok (.nx, e2) ∧ P (acc ++ h x) e2) → ∃ e', forL gt g (l.map c) env = .ok (.nx, e') ∧ P (acc ++ l.flatMap h) e'
  | [], acc, env, _, hp, _ => ⟨env, rfl, by simpa using hp⟩
  | x :: l, acc, env, hz, hp, hs => by
    rw [List.flatMap_cons, List.length_append] at hz
    obtain ⟨e1, e2, h1, h2, h3⟩ := hs x List.mem_cons_self acc env (by omega) hp
    obtain ⟨e', h4, h5⟩ := forL_acc c h P l (acc ++ h x) e2 (by rw [List.length_append]; omega) h3 fun y hy => hs y (List.mem_cons_of_mem _ hy)
    refine ⟨e', ?_, by rw [List.flatMap_cons, ← List.append_assoc]; exact h5⟩
    rw [List.map_cons, forL, h1, R.bindP_ok, h2, R.bind_ok]
    exact h4
theorem rgD0 (n : Nat) : rgD 0 n = (List.range n).map fun (i : Nat) => PyData.int (i : Int) := by
  unfold rgD
  exact List.map_congr_left fun i _ => by rw [Int.zero_add]
theorem gAdd_list {a b : List D} (h : a.length + b.length ≤ sizeLine) : gAdd (.list a) (.list b) = .ok (.list (a ++ b)) := by
  show R.when (decide (a.length + b.length ≤ sizeLine)) _ = _
  rw [decide_eq_true h, R.when_true]
theorem cTup2_ok {f g : PF} {env : Env} {a b : D} (h1 : f env = .ok a) (h2 : g env = .ok b) : cTup (aCons f (aCons g aNil)) env = .ok (.tuple [a, b]) := by
  unfold cTup aCons aNil
  rw [h1, R.bind_ok, h2]
  rfl
theorem lcGo_mapA {α : Type} {tgt : GF} {ff : Env → R Bool} {fe : PF} {env : Env} (c : α → D) (p : α → Bool) (g : α → D) : ∀ {l : List α}, (∀ x ∈ l, ∃ e1, tgt (c x) env = .ok e1 ∧ ff e1 = .ok (p x) ∧ (p x = true → fe e1 = .ok (g x))) → lcGo tgt ff fe env (l.map c) = .ok ((l.filter p).map g)
  | [], _ => rfl
  | x :: l, h => by
    obtain ⟨e1, h1, h2, h3⟩ := h x List.mem_cons_self
    have ih := lcGo_mapA c p g fun y hy => h y (List.mem_cons_of_mem _ hy)
    rw [List.map_cons]
    unfold lcGo
    rw [h1, R.bind_ok, h2, R.bind_ok]
    cases hp : p x with
    | true =>
      rw [if_pos rfl, h3 hp, R.bind_ok, ih, R.bind_ok, List.filter_cons, if_pos hp]
      rfl
    | false =>
      rw [if_neg Bool.false_ne_true, ih, List.filter_cons, if_neg (by rw [hp]; exact Bool.false_ne_true)]
theorem cLc_mapA {α : Type} {fi : IF} {vs : List Nat} {tgt : GF} {ff : Env → R Bool} {fe : PF} {env : Env} {l : List α} (c : α → D) (p : α → Bool) (g : α → D) (hi : fi env = .ok (l.map c)) (hz : l.length ≤ sizeLine)
    (h : ∀ x ∈ l, ∃ e1, tgt (c x) (wipeE env vs) = .ok e1 ∧ ff e1 = .ok (p x) ∧ (p x = true → fe e1 = .ok (g x))) : cLc fi vs tgt ff fe env = .ok ((l.filter p).map g) := by
  unfold cLc
  rw [hi, R.bind_ok, lcGo_mapA c p g h, R.bind_ok, decide_eq_true, R.when_true]
  rw [List.length_map]
  exact Nat.le_trans (List.length_filter_le _ _) hz
theorem cTru_bool {f : PF} {env : Env} {b : Bool} (h : f env = .ok (.bool b)) : cTru f env = .ok b := by
  unfold cTru
  rw [h, R.bind_ok]
  rfl
@[simp] theorem gEq_int (i j : Int) : gEq (.int i) (.int j) = .ok (.bool (decide (i = j))) := rfl
@[simp] theorem gNe_int (i j : Int) : gNe (.int i) (.int j) = .ok (.bool (!decide (i = j))) := rfl
@[simp] theorem gNe_str (i j : Str) : gNe (.str i) (.str j) = .ok (.bool (!decide (i = j))) := rfl
theorem gRepr_ok {d : D} (h : canShow d = true) : gRepr [d] = .ok (.str d.shown) := by
  show R.when (canShow d) (R.ok (PyData.str d.shown)) = _
  rw [h, R.when_true]
/-- repr(a) != repr(b), the same data -/
theorem same_repr {f g : PF} {env : Env} {d : D} (h1 : f env = .ok d) (h2 : g env = .ok d) (hc : canShow d = true) : cTst (cBin gNe (cCall gRepr (aCons f aNil)) (cCall gRepr (aCons g aNil))) env = .ok false :=
  cTst_ok (cBin_ok (cCall1_ok h1 (gRepr_ok hc)) (cCall1_ok h2 (gRepr_ok hc)) (by rw [gNe_str]; simp))
theorem shownAll_map : ∀ ds : List D, PyData.shownAll ds = ds.map PyData.shown
  | [] => rfl
  | d :: ds => by rw [PyData.shownAll, shownAll_map ds]; rfl
theorem showableAll_of : ∀ {ds : List D}, (∀ d ∈ ds, d.showable = true) → PyData.showableAll ds = true
  | [], _ => rfl
  | d :: ds, h => by
    rw [PyData.showableAll, h d List.mem_cons_self, showableAll_of fun e he => h e (List.mem_cons_of_mem _ he)]
    rfl
theorem canLayAll_of : ∀ {ds : List D}, (∀ d ∈ ds, d.canLay0 = true) → PyData.canLayAll0 ds = true
  | [], _ => rfl
  | d :: ds, h => by
    rw [PyData.canLayAll0, h d List.mem_cons_self, canLayAll_of fun e he => h e (List.mem_cons_of_mem _ he)]
    rfl
theorem depthAll_of {n : Nat} : ∀ {ds : List D}, (∀ d ∈ ds, d.depth ≤ n) → PyData.depthAll ds ≤ n
  | [], _ => by rw [PyData.depthAll]; exact Nat.zero_le _
  | d :: ds, h => by
    rw [PyData.depthAll]
    exact Nat.max_le.mpr ⟨h d List.mem_cons_self, depthAll_of fun e he => h e (List.mem_cons_of_mem _ he)⟩
theorem sum_le {n : Nat} : ∀ {l : List Nat}, (∀ x ∈ l, x ≤ n) → l.sum ≤ n * l.length
  | [], _ => Nat.zero_le _
  | x :: l, h => by
    have := sum_le fun y hy => h y (List.mem_cons_of_mem _ hy)
    have h1 := h x List.mem_cons_self
    rw [List.sum_cons, List.length_cons, Nat.mul_succ]
    omega
/-- a tuple of things that can be shown -/
theorem canShow_tuple {ds : List D} {n : Nat} (h : ∀ d ∈ ds, d.showable = true ∧ d.canLay0 = true ∧ d.depth ≤ 63 ∧ d.shown.length ≤ n) (hz : n * ds.length + 2 * ds.length + 3 ≤ sizeLine) : canShow (.tuple ds) = true := by
  unfold canShow SeqAt.shaped
  rw [PyData.canLay0, canLayAll_of fun d hd => (h d hd).2.1, PyData.depth, PyData.showable, showableAll_of fun d hd => (h d hd).1, PyData.shown]
  have h1 := depthAll_of fun d hd => (h d hd).2.2.1
  have h2 := tupleText_len_le (PyData.shownAll ds)
  rw [shownAll_map, List.map_map, List.length_map] at h2
  have h3 := sum_le (l := ds.map ((fun x : Str => x.length) ∘ PyData.shown)) (n := n) fun x hx => by
    obtain ⟨d, hd, rfl⟩ := List.mem_map.mp hx
    exact (h d hd).2.2.2
  rw [List.length_map] at h3
  rw [decide_eq_true (by omega : PyData.depthAll ds + 1 ≤ 64), shownAll_map, decide_eq_true]
  · rfl
  · have e : ((fun x : Str => x.length) ∘ PyData.shown) = (Str.length ∘ PyData.shown) := rfl
    rw [e] at h3
    first
      | omega
      | (refine Nat.le_trans h2 (Nat.le_trans (Nat.add_le_add_right (Nat.add_le_add_right h3 _) _) hz))
theorem eSl_ok {f : EF} {fl fh : EOF'} {env e1 e2 e3 : Env} {d z : D} {l h : Option Int} (h1 : f env = .ok (d, e1)) (h2 : fl e1 = .ok (l, e2)) (h3 : fh e2 = .ok (h, e3)) (h4 : gSl d l h = .ok z) : eSl f fl fh env = .ok (z, e3) := by
  unfold eSl
  rw [h1, R.bind_ok]
  show R.bind (fl e1) _ = _
  rw [h2, R.bind_ok]
  show R.bind (fh e2) _ = _
  rw [h3, R.bind_ok]
  show R.bind (gSl d l h) _ = _
  rw [h4]
  rfl
theorem eItX_ok {f : EF} {env e1 : Env} {d : D} {ds : List D} (h : f env = .ok (d, e1)) (h2 : itemsOf d = .ok ds) : eItX f env = .ok (ds, e1) := by
  unfold eItX
  rw [h, R.bind_ok]
  show R.bind (itemsOf d) _ = _
  rw [h2]
  rfl
theorem cAnd_f {f g : Env → R Bool} {env : Env} (h : f env = .ok false) : cAnd f g env = .ok false := by
  unfold cAnd
  rw [h, R.bind_ok, if_neg Bool.false_ne_true]
theorem cAnd_t {f g : Env → R Bool} {env : Env} {b : Bool} (h : f env = .ok true) (h2 : g env = .ok b) : cAnd f g env = .ok b := by
  unfold cAnd
  rw [h, R.bind_ok, if_pos rfl, h2]
end Dz

set_option maxRecDepth 100000
set_option maxHeartbeats 2000000
namespace Dz
open PySem PySem.Spec PyProof.Rows L2
/-! ## a < b <= c -/
def cChain (g g' : D → D → R D) (fa fb fc : PF) : PF := fun env => (fa env).bind fun a => (fb env).bind fun b => (g a b).bind fun z => (toB z).bind fun k => if k = true then (fc env).bind fun c => g' b c else .ok (.bool false)
section
variable {X : Cx} {us : List Nat} {a b c : Expr} {fa fb fc : PF} {pos : Pos}
theorem psem_chain {K : PySem.W.Frag} {r r' : R2} {g g' : D → D → R D} {ta tb tc : TE} (hv : Op2 K r g) (hv' : Op2 K r' g') (ha : PSem K us ta fa) (hb : PSem K us tb fb) (hc : PSem K us tc fc) : PSem K us (tChain r r' ta tb tc) (cChain g g' fa fb fc) := fun σ H Z env d Q hz he hf hq => by
  obtain ⟨x, h1, hf1⟩ := R.of_bind hf
  obtain ⟨y, h2, hf2⟩ := R.of_bind hf1
  obtain ⟨z, h3, hf3⟩ := R.of_bind hf2
  obtain ⟨k, h4, hf4⟩ := R.of_bind hf3
  have ez := of_toB h4
  subst ez
  refine ha σ H Z env x _ hz he h1 fun v Z1 H1 g1 r1 => ?_
  refine hb σ H1 Z1 env y _ g1.zh (he.mono g1) h2 fun u Z2 H2 g2 r2 => ?_
  refine hv v u H2 Z2 x y _ _ g2.zh (r1.mono g2.zz) r2 h3 fun w Z3 H3 g3 r3 => ?_
  cases r3
  refine ⟨k, rfl, ?_⟩
  cases k with
  | false =>
    cases hf4
    exact iteF (hq _ _ _ ((g1.trans g2).trans g3) (.bl false))
  | true =>
    refine iteT ?_
    rw [if_pos rfl] at hf4
    obtain ⟨w', h5, h6⟩ := R.of_bind hf4
    refine hc σ H3 Z3 env w' _ g3.zh (((he.mono g1).mono g2).mono g3) h5 fun w2 Z4 H4 g4 r4 => ?_
    exact hv' u w2 H4 Z4 y w' d Q g4.zh ((r2.mono g3.zz).mono g4.zz) r4 h6 fun w3 Z5 H5 g5 r5 => hq w3 Z5 H5 ((((g1.trans g2).trans g3).trans g4).trans g5) r5
theorem dp_chain {op op' : CmpOp} {r r' : R2} {g g' : D → D → R D} (ho : OpR X (compareOp op) r) (hv : Op2 X.K r g) (ho' : OpR X (compareOp op') r') (hv' : Op2 X.K r' g') (ha : DP X us a fa) (hb : DP X us b fb) (hc : DP X us c fc)
    (hm : lastMarks [op, op'] [b, c] = false := by with_unfolding_all rfl) : DP X us (.Compare a [op, op'] [b, c] pos) (cChain g g' fa fb fc) := by
  obtain ⟨ta, h1, h2⟩ := ha.ex
  obtain ⟨tb, h3, h4⟩ := hb.ex
  obtain ⟨tc, h5, h6⟩ := hc.ex
  exact ⟨_, pe_chain ho ho' h1 h3 h5 hm, psem_chain hv hv' h2 h4 h6⟩
theorem dt_chain {op op' : CmpOp} {r r' : R2} {g g' : D → D → R D} (ho : OpR X (compareOp op) r) (hv : Op2 X.K r g) (ho' : OpR X (compareOp op') r') (hv' : Op2 X.K r' g') (ha : DP X us a fa) (hb : DP X us b fb) (hc : DP X us c fc)
    (hm : lastMarks [op, op'] [b, c] = false := by with_unfolding_all rfl) : DT X us (.Compare a [op, op'] [b, c] pos) (cTst (cChain g g' fa fb fc)) := by
  obtain ⟨ta, h1, h2⟩ := ha.ex
  obtain ⟨tb, h3, h4⟩ := hb.ex
  obtain ⟨tc, h5, h6⟩ := hc.ex
  exact ⟨_, pt_chain ho ho' h1 h3 h5 hm, tsem_test (psem_chain hv hv' h2 h4 h6)⟩
end
/-! ## list(range(..)) -/
def rgOkB (a b : Int) : Bool := decide (-(2 ^ 62) ≤ a ∧ a < 2 ^ 62 ∧ -(2 ^ 62) ≤ b ∧ b < 2 ^ 62 ∧ (b - a).toNat ≤ 2 ^ 24)
theorem rgOkB_ok {a b : Int} (h : rgOkB a b = true) : RgOk a b := by
  unfold rgOkB at h
  have h2 := of_decide_eq_true h
  exact h2
def cLR1 (f : PF) : Env → R (List D) := fun env => (f env).bind fun d => match d with
  | .int j => R.when (rgOkB 0 j) (.ok (rgD 0 j.toNat))
  | _ => .no
def cLR2 (f g : PF) : Env → R (List D) := fun env => (f env).bind fun d => (g env).bind fun d' => match d, d' with
  | .int i, .int j => R.when (rgOkB i j) (.ok (rgD i (j - i).toNat))
  | _, _ => .no
theorem reps_rg {K : PySem.W.Frag} {Z : Hp} (a b : Int) : Reps K Z (rgV a b) (rgD a (b - a).toNat) := by
  have h := Reps.ofInts (K := K) (Z := Z) ((List.range (b - a).toNat).map fun (i : Nat) => a + (i : Int))
  rw [List.map_map, List.map_map] at h
  exact h
section
variable {X : Cx} {us : List Nat} {e e2 : Expr} {f g : PF} {p p2 pos pos2 : Pos}
theorem do_listRg1 (hc : X.calm = true) (hg : Gl X "list") (hm : X.mg "list" = none) (hg2 : Gl X "range") (hm2 : X.mg "range" = none) (h : DP X us e f) (na : starEach [e] X.env = (false, eval e X.env) :: starEach [] X.env := by rfl)
    (nb : starEach [.Call (.Name "range" p) [e] [] pos] X.env = (false, eval (.Call (.Name "range" p) [e] [] pos) X.env) :: starEach [] X.env := by rfl) : DO X us (.Call (.Name "list" p2) [.Call (.Name "range" p) [e] [] pos] [] pos2) (cLR1 f) := by
  obtain ⟨t, h1, h2⟩ := h.ex
  refine ⟨_, pe_listRg hc hg hm (prg_1 hg2 hm2 h1 na) nb, fun σ H Z env ds Q hz he hf hq => ?_⟩
  obtain ⟨d, e1, e2⟩ := R.of_bind hf
  refine h2 σ H Z env d _ hz he e1 fun v Z1 H1 g1 r1 => ?_
  split at e2
  · obtain ⟨e3, e4⟩ := R.of_when e2
    cases e4
    cases r1
    refine ⟨_, rfl, rgOkB_ok e3, fun q nq => ?_⟩
    rename_i j
    have r := reps_rg (K := X.K) (Z := Z1) 0 j
    rw [Int.sub_zero] at r
    refine hq q _ Z1 _ (g1.trans (Gr.own g1.zh nq)) (g1.hh.free nq) (g1.zh.free nq) upd_same r
  · cases e2
theorem do_listRg2 (hc : X.calm = true) (hg : Gl X "list") (hm : X.mg "list" = none) (hg2 : Gl X "range") (hm2 : X.mg "range" = none) (h : DP X us e f) (h' : DP X us e2 g) (na : starEach [e, e2] X.env = (false, eval e X.env) :: starEach [e2] X.env := by rfl) (na2 : starEach [e2] X.env = (false, eval e2 X.env) :: starEach [] X.env := by rfl) (hp : (backTo pos (starEach [e2] X.env)).any (·.1) = false := by rfl)
    (nb : starEach [.Call (.Name "range" p) [e, e2] [] pos] X.env = (false, eval (.Call (.Name "range" p) [e, e2] [] pos) X.env) :: starEach [] X.env := by rfl) : DO X us (.Call (.Name "list" p2) [.Call (.Name "range" p) [e, e2] [] pos] [] pos2) (cLR2 f g) := by
  obtain ⟨t, h1, h2⟩ := h.ex
  obtain ⟨t', h3, h4⟩ := h'.ex
  refine ⟨_, pe_listRg hc hg hm (prg_2 hg2 hm2 h1 h3 na na2 hp) nb, fun σ H Z env ds Q hz he hf hq => ?_⟩
  obtain ⟨d, e1, hf1⟩ := R.of_bind hf
  obtain ⟨d', e5, e6⟩ := R.of_bind hf1
  refine h2 σ H Z env d _ hz he e1 fun v Z1 H1 g1 r1 => ?_
  refine h4 σ H1 Z1 env d' _ g1.zh (he.mono g1) e5 fun v' Z2 H2 g2 r2 => ?_
  split at e6
  · obtain ⟨e3, e4⟩ := R.of_when e6
    cases e4
    cases r1
    cases r2
    refine ⟨_, _, rfl, rfl, rgOkB_ok e3, fun q nq => ?_⟩
    have gg := g1.trans g2
    exact hq q _ Z2 _ (gg.trans (Gr.own g2.zh nq)) (gg.hh.free nq) (g2.zh.free nq) upd_same (reps_rg _ _)
  · cases e6
end
end Dz

set_option maxRecDepth 100000
set_option maxHeartbeats 2000000
namespace Dz
open PySem PySem.Spec PyProof.Rows L2
/-! ## plain lemmas: loops that seek, slices -/
theorem whileL_seek {fc : Env → R Bool} {g : SF} (E : Nat → Env) {stop : Nat} (hc : ∀ p, p < stop → fc (E p) = .ok true ∧ g (E p) = .ok (.nx, E (p + 1))) (hs : fc (E stop) = .ok false) : ∀ (fuel p : Nat), p ≤ stop → stop - p < fuel → whileL fc g fuel (E p) = .ok (.nx, E stop)
  | 0, p, _, h => absurd h (Nat.not_lt_zero _)
  | fuel + 1, p, hp, h => by
    rw [whileL]
    by_cases e : p = stop
    · subst e
      rw [hs, R.bindP_ok, if_neg Bool.false_ne_true]
    · obtain ⟨h1, h2⟩ := hc p (by omega)
      rw [h1, R.bindP_ok, if_pos rfl, h2, R.bind_ok]
      exact whileL_seek E hc hs fuel (p + 1) (by omega) (by omega)
theorem sIx_nat (n d p : Nat) : HT.sIx n d (some (p : Int)) = min p n := by
  unfold HT.sIx
  simp
  try omega
theorem cutD_from {a : Type} (xs : List a) (p : Nat) : cutD xs (some (p : Int)) none = xs.drop p := by
  unfold cutD
  rw [sIx_nat]
  show (xs.drop (min p xs.length)).take (xs.length - min p xs.length) = _
  rcases Nat.le_total p xs.length with h | h
  · rw [Nat.min_eq_left h, List.take_of_length_le (by rw [List.length_drop]; exact Nat.le_refl _)]
  · rw [Nat.min_eq_right h, List.drop_eq_nil_of_le h]
    simp
theorem cutD_to {a : Type} (xs : List a) (p : Nat) : cutD xs none (some (p : Int)) = xs.take p := by
  unfold cutD
  rw [sIx_nat]
  show (xs.drop 0).take (min p xs.length - 0) = _
  rw [List.drop_zero, Nat.sub_zero]
  rcases Nat.le_total p xs.length with h | h
  · rw [Nat.min_eq_left h]
  · rw [Nat.min_eq_right h, List.take_of_length_le (Nat.le_refl _), List.take_of_length_le h]
theorem cutD_mid {a : Type} (xs : List a) (p q : Nat) : cutD xs (some (p : Int)) (some (q : Int)) = (xs.take q).drop p := by
  unfold cutD
  rw [sIx_nat, sIx_nat, List.drop_take]
  rcases Nat.le_total p xs.length with h | h
  · rw [Nat.min_eq_left h]
    rcases Nat.le_total q xs.length with h2 | h2
    · rw [Nat.min_eq_left h2]
    · rw [Nat.min_eq_right h2, List.take_of_length_le (by rw [List.length_drop]; omega), List.take_of_length_le (by rw [List.length_drop]; omega)]
  · rw [Nat.min_eq_right h, List.drop_eq_nil_of_le h, List.drop_length]
    simp
theorem cSl_from {f g : PF} {env : Env} {w : List Int} {p : Nat} (h1 : f env = .ok (wD w)) (h2 : g env = .ok (.int p)) : cSl f (cPart g) cNoPart env = .ok (wD (w.drop p)) := by
  unfold cSl
  rw [h1, R.bind_ok]
  have : cPart g env = .ok (some (p : Int)) := by unfold cPart; rw [h2]; rfl
  rw [this, R.bind_ok]
  show gSl (wD w) (some (p : Int)) none = _
  unfold wD gSl
  dsimp only
  rw [cutD_from, List.map_drop]
theorem cSl_to {f g : PF} {env : Env} {w : List Int} {p : Nat} (h1 : f env = .ok (wD w)) (h2 : g env = .ok (.int p)) : cSl f cNoPart (cPart g) env = .ok (wD (w.take p)) := by
  unfold cSl
  rw [h1, R.bind_ok]
  show R.bind (.ok (none : Option Int)) _ = _
  rw [R.bind_ok]
  have : cPart g env = .ok (some (p : Int)) := by unfold cPart; rw [h2]; rfl
  rw [this, R.bind_ok]
  unfold wD gSl
  dsimp only
  rw [cutD_to, List.map_take]
theorem cSl_mid {f g g' : PF} {env : Env} {w : List Int} {p q : Nat} (h1 : f env = .ok (wD w)) (h2 : g env = .ok (.int p)) (h3 : g' env = .ok (.int q)) : cSl f (cPart g) (cPart g') env = .ok (wD ((w.take q).drop p)) := by
  unfold cSl
  rw [h1, R.bind_ok]
  have a : cPart g env = .ok (some (p : Int)) := by unfold cPart; rw [h2]; rfl
  have b : cPart g' env = .ok (some (q : Int)) := by unfold cPart; rw [h3]; rfl
  rw [a, R.bind_ok, b, R.bind_ok]
  unfold wD gSl
  dsimp only
  rw [cutD_mid, List.map_drop, List.map_take]
theorem gIx_wD {w : List Int} {i : Nat} (h : i < w.length) : gIx (wD w) (.int i) = .ok (.int (w.getD i 0)) := by
  have e : atI (w.map PyData.int) (i : Int) = some (.int (w.getD i 0)) := by
    unfold atI ixN
    rw [List.length_map, if_pos (by omega)]
    simp [List.getD, h]
  show (match atI (w.map PyData.int) (i : Int) with | some d => R.ok d | none => .no) = _
  rw [e]
theorem cCall2_ok {g : List D → R D} {f f' : PF} {env : Env} {a b c : D} (h1 : f env = .ok a) (h2 : f' env = .ok b) (h3 : g [a, b] = .ok c) : cCall g (aCons f (aCons f' aNil)) env = .ok c := by
  unfold cCall aCons aNil
  rw [h1, R.bind_ok, h2]
  exact h3
/-- a loop that returns at the first thing of its kind -/
theorem forL_ret {gt : GF} {g : SF} {P : Env → Prop} {v x : D} {l2 : List D} : ∀ {l1 : List D}, (∀ d ∈ l1, ∀ e, P e → ∃ e1 e2, gt d e = .ok e1 ∧ g e1 = .ok (.nx, e2) ∧ P e2) → (∀ e, P e → ∃ e1 e2, gt x e = .ok e1 ∧ g e1 = .ok (.rt v, e2)) → ∀ e, P e → ∃ e', forL gt g (l1 ++ x :: l2) e = .ok (.rt v, e')
  | [], _, hx, e, he => by
    obtain ⟨e1, e2, h1, h2⟩ := hx e he
    refine ⟨e2, ?_⟩
    rw [List.nil_append, forL, h1, R.bindP_ok, h2]
    rfl
  | d :: l1, h, hx, e, he => by
    obtain ⟨e1, e2, h1, h2, h3⟩ := h d List.mem_cons_self e he
    obtain ⟨e', h4⟩ := forL_ret (l2 := l2) (fun d' hd => h d' (List.mem_cons_of_mem _ hd)) hx e2 h3
    refine ⟨e', ?_⟩
    rw [List.cons_append, forL, h1, R.bindP_ok, h2, R.bind_ok]
    exact h4
theorem range_split {n s : Nat} (h : s < n) : ∃ l2, List.range n = List.range s ++ s :: l2 := by
  refine ⟨(List.range n).drop (s + 1), ?_⟩
  have e1 : (List.range n).take s = List.range s := by
    rw [List.take_range, Nat.min_eq_left (by omega)]
  have e2 : (List.range n).drop s = s :: (List.range n).drop (s + 1) := by
    rw [List.drop_eq_getElem_cons (by simpa using h)]
    simp
  rw [← e1, ← e2, List.take_append_drop]
theorem sIf_nx {c : Env → R Bool} {g : SF} {env : Env} (h : c env = .ok false) : sIf c g sNil env = .ok (.nx, env) := sIf_false h rfl
end Dz

set_option maxRecDepth 100000
set_option maxHeartbeats 2000000
namespace Dz
open PySem PySem.Spec PyProof.Rows L2
/-! ## what can be shown, by sizes -/
structure Shw (d : D) (h n : Nat) : Prop where
  s : d.showable = true
  c : d.canLay0 = true
  e : d.depth ≤ h
  l : d.shown.length ≤ n
theorem Shw.mono {d : D} {h n h' n' : Nat} (a : Shw d h n) (hh : h ≤ h') (hn : n ≤ n') : Shw d h' n' := ⟨a.s, a.c, Nat.le_trans a.e hh, Nat.le_trans a.l hn⟩
theorem Shw.ok {d : D} {h n : Nat} (a : Shw d h n) (hh : h ≤ 64) (hn : n ≤ sizeLine) : canShow d = true := by
  unfold canShow SeqAt.shaped
  rw [a.s, a.c, decide_eq_true (Nat.le_trans a.e hh), decide_eq_true (Nat.le_trans a.l hn)]
  rfl
theorem shw_sum {ds : List D} {h n : Nat} (H : ∀ d ∈ ds, Shw d h n) : ((PyData.shownAll ds).map Str.length).sum ≤ n * ds.length := by
  have h3 := sum_le (l := ds.map ((fun x : Str => x.length) ∘ PyData.shown)) (n := n) fun x hx => by
    obtain ⟨d, hd, rfl⟩ := List.mem_map.mp hx
    exact (H d hd).l
  rw [List.length_map] at h3
  rw [shownAll_map, List.map_map]
  exact h3
theorem Shw.tup {ds : List D} {h n : Nat} (H : ∀ d ∈ ds, Shw d h n) : Shw (.tuple ds) (h + 1) (n * ds.length + 2 * ds.length + 3) where
  s := by rw [PyData.showable]; exact showableAll_of fun d hd => (H d hd).s
  c := by rw [PyData.canLay0]; exact canLayAll_of fun d hd => (H d hd).c
  e := by
    rw [PyData.depth]
    have := depthAll_of fun d hd => (H d hd).e
    omega
  l := by
    rw [PyData.shown]
    have h2 := tupleText_len_le (PyData.shownAll ds)
    have h3 := shw_sum H
    have h4 : (PyData.shownAll ds).length = ds.length := by rw [shownAll_map, List.length_map]
    rw [h4] at h2
    exact Nat.le_trans h2 (Nat.add_le_add_right (Nat.add_le_add_right h3 _) _)
theorem listText_len_le : ∀ ts : List Str, (listText ts).length ≤ (ts.map Str.length).sum + 2 * ts.length + 3
  | [] => by decide
  | t :: r => by
    have h := textFrom_length_pos r 1 (("[" : Str) ++ (if (0 : Nat) > 0 then ", " else "" : String) ++ t) (Nat.succ_pos 0)
    have e : ((("[" : Str) ++ (if (0 : Nat) > 0 then ", " else "" : String) ++ t)).length = 1 + t.length := by
      rw [strLen_append, strLen_append]; rfl
    have hX : (listText (t :: r)).length = (textFrom 0 "[" (t :: r)).length + 1 := by
      show (textFrom 0 "[" (t :: r) ++ "]").length = _
      rw [strLen_append]; rfl
    have hY : (textFrom 0 "[" (t :: r)).length = (textFrom 1 (("[" : Str) ++ (if (0 : Nat) > 0 then ", " else "" : String) ++ t) r).length := rfl
    have hp : ∀ r : List Str, piled r = (r.map Str.length).sum + 2 * r.length := fun r => by
      induction r with
      | nil => rfl
      | cons a r ih => rw [piled_cons, ih, List.map_cons, List.sum_cons, List.length_cons]; omega
    rw [hX, hY, h, e, hp, List.map_cons, List.sum_cons, List.length_cons]
    omega
theorem Shw.lst {ds : List D} {h n : Nat} (H : ∀ d ∈ ds, Shw d h n) : Shw (.list ds) (h + 1) (n * ds.length + 2 * ds.length + 3) where
  s := by rw [PyData.showable]; exact showableAll_of fun d hd => (H d hd).s
  c := by rw [PyData.canLay0]; exact canLayAll_of fun d hd => (H d hd).c
  e := by
    rw [PyData.depth]
    have := depthAll_of fun d hd => (H d hd).e
    omega
  l := by
    rw [PyData.shown]
    have h2 := listText_len_le (PyData.shownAll ds)
    have h3 := shw_sum H
    have h4 : (PyData.shownAll ds).length = ds.length := by rw [shownAll_map, List.length_map]
    rw [h4] at h2
    exact Nat.le_trans h2 (Nat.add_le_add_right (Nat.add_le_add_right h3 _) _)
theorem shw_facts : ∀ k : Nat, k < 128 → (PyData.int (k : Int)).showable = true ∧ (PyData.int (k : Int)).canLay0 = true ∧ (PyData.int (k : Int)).depth = 0 ∧ (PyData.int (k : Int)).shown.length ≤ 3 := by decide +kernel
theorem Shw.int {i : Int} (h0 : 0 ≤ i) (h1 : i < 128) : Shw (.int i) 0 3 := by
  obtain ⟨k, rfl⟩ := Int.eq_ofNat_of_zero_le h0
  have h := shw_facts k (by omega)
  exact ⟨h.1, h.2.1, Nat.le_of_eq h.2.2.1, h.2.2.2⟩
theorem Shw.word {w : List Int} (h : ∀ n ∈ w, 0 ≤ n ∧ n < 128) : Shw (wD w) 1 (5 * w.length + 3) := by
  have := Shw.tup (ds := w.map PyData.int) (h := 0) (n := 3) fun d hd => by
    obtain ⟨n, hn, rfl⟩ := List.mem_map.mp hd
    exact Shw.int (h n hn).1 (h n hn).2
  exact this.mono (Nat.le_refl _) (by rw [List.length_map]; omega)
/-! ## lists of one's own from operators -/
def cBinL (g : D → D → R (List D)) (fa fb : PF) : Env → R (List D) := fun env => (fa env).bind fun a => (fb env).bind fun b => g a b
def Op2L (K : PySem.W.Frag) (r : R2) (g : D → D → R (List D)) : Prop := ∀ (x y : V) (H Z : Hp) (a b : D) (ds : List D) (Q : VK), Same Z H → Rep K Z x a → Rep K Z y b → g a b = .ok ds →
  (∀ p vs Z' H', Gr Z H Z' H' → H p = none → Z' p = none → H' p = some (.lst vs) → Reps K Z' vs ds → Q (.ref p) H') → r x y H Q
def gAddL : D → D → R (List D)
  | .list xs, .list ys => R.when (decide (xs.length + ys.length ≤ sizeLine)) (.ok (xs ++ ys))
  | _, _ => .no
def gMulL : D → D → R (List D)
  | .list xs, .int k => R.when (decide (-(2 ^ 63) ≤ k ∧ k < 2 ^ 63 ∧ xs.length * k.toNat ≤ sizeLine)) (.ok (List.replicate k.toNat xs).flatten)
  | _, _ => .no
theorem v_addL {K : PySem.W.Frag} : Op2L K (rAddD K) gAddL := fun x y H Z a b c Q hz r1 r2 h hq => by
  unfold gAddL at h
  split at h
  · obtain ⟨h1, h2⟩ := R.of_when h
    cases h2
    cases r1 with
    | lst t1 q1 =>
      cases r2 with
      | lst t2 q2 =>
        refine .inr (.inr (.inr ⟨_, _, _, _, rfl, rfl, hz _ _ t1, hz _ _ t2, by rw [q1.length, q2.length]; exact of_decide_eq_true h1, fun p np => ?_⟩))
        exact hq p _ Z _ (Gr.own hz np) np (hz.free np) upd_same (q1.append q2)
  · cases h
theorem v_mulL {K : PySem.W.Frag} : Op2L K (rMulD K) gMulL := fun x y H Z a b c Q hz r1 r2 h hq => by
  unfold gMulL at h
  split at h
  · obtain ⟨h1, h2⟩ := R.of_when h
    have h3 := of_decide_eq_true h1
    cases h2
    cases r2
    cases r1 with
    | lst t q => exact .inr (.inr ⟨_, _, _, rfl, rfl, hz _ _ t, h3.1, h3.2.1, by rw [q.length]; exact h3.2.2, fun p np => hq p _ Z _ (Gr.own hz np) np (hz.free np) upd_same (q.rep _)⟩)
  · cases h
theorem do_op {X : Cx} {us : List Nat} {a b : Expr} {fa fb : PF} {pos : Pos} {op : Operator} {r : R2} {g : D → D → R (List D)} (ho : OpR X (binaryOp op) r) (hv : Op2L X.K r g) (ha : DP X us a fa) (hb : DP X us b fb) : DO X us (.BinOp a op b pos) (cBinL g fa fb) := by
  obtain ⟨ta, h1, h2⟩ := ha.ex
  obtain ⟨tb, h3, h4⟩ := hb.ex
  refine ⟨_, pe_op ho h1 h3, fun σ H Z env ds Q hz he hf hq => ?_⟩
  obtain ⟨x, e1, hf1⟩ := R.of_bind hf
  obtain ⟨y, e2, hf2⟩ := R.of_bind hf1
  refine h2 σ H Z env x _ hz he e1 fun v Z1 H1 g1 r1 => ?_
  refine h4 σ H1 Z1 env y _ g1.zh (he.mono g1) e2 fun u Z2 H2 g2 r2 => ?_
  exact hv v u H2 Z2 x y ds Q g2.zh (r1.mono g2.zz) r2 hf2 fun p vs Z3 H3 g3 n3 nz3 hp3 r3 => hq p vs Z3 H3 ((g1.trans g2).trans g3) ((g1.trans g2).hh.free n3) nz3 hp3 r3
/-- a list of one's own, read off what is one's own: things that hold no lists -/
def cScalL (f : Env → R (List D)) : Env → R (List D) := fun env => (f env).bind fun ds => R.when (noRefs ds) (.ok ds)
theorem do_scal {X : Cx} {us : List Nat} {e : Expr} {f : Env → R (List D)} (h : DO X [] e f) : DO X us e (cScalL f) := by
  obtain ⟨t, h1, h2⟩ := h.ex
  refine ⟨t, h1, fun σ H Z env ds Q hz he hf hq => ?_⟩
  obtain ⟨d', e1, e2⟩ := R.of_bind hf
  obtain ⟨e3, e4⟩ := R.of_when e2
  cases e4
  refine h2 σ H H env _ _ (Same.refl _) he.all e1 fun p vs Z1 H1 g np nz hp r => ?_
  have z1 : Same Z H1 := hz.trans g.hh
  have gd : Gr Z H Z H1 := Gr.drop hz g
  refine hq p vs _ H1 (gd.trans (tupsOf_gr z1)) np ?_ hp ((r.mono g.zh).tups Z z1 e3)
  unfold tupsOf
  rw [hz.free np, hp]
/-! ## xs[k] = e, with sources that change -/
section
variable {X : Cx} {C : Cf} {e : Expr} {f fi : EF} {i : Nat} {x : Str} {p' pos tpos : Pos}
def eSetIx (i : Nat) (fi f : EF) : SF := fun env => (f env).bindP fun d => (lstAt d.2 i).bindP fun _ => (fi d.2).bindP fun k => (lstAt k.2 i).bindP fun ds => (ixOf ds.length k.1).bindP fun j => .ok (.nx, k.2.set i (some (.list (ds.set j d.1))))
theorem ds_setIxE {ix : Expr} (hN : X.N[i]? = some x) (hv : Vis X.env.scope x) (h : DE X C e f) (hi : DE X C ix fi) (hu : C.ms.lookup i = some mL := by rfl) (hd : (x == ("__debug__" : Str)) = false := by decide) (hcd : (x == ("__classdict__" : Str)) = false := by decide)
    (ha : ∀ v, assign (.Subscript (.Name x p') ix tpos) X.env v = (do
      let ov ← holding [v] (eval (.Name x p') X.env)
      let iv ← holding [v, ov] (eval ix X.env)
      standAt tpos
      holding [v, ov, iv] (setItem ov iv v)
      release [v, ov, iv] []) := by intro _; rfl)
    (hs : swapsWithSole [.Subscript (.Name x p') ix tpos] e pos.line X.env = pure false := by rfl) (hw : swappedStores [.Subscript (.Name x p') ix tpos] e X.env = pure none := by rfl)
    (h1 : (assignEach [.Subscript (.Name x p') ix tpos] X.env).map (·.2) = [assign (.Subscript (.Name x p') ix tpos) X.env] := by rfl) :
    DS X C (.Assign [.Subscript (.Name x p') ix tpos] e pos) (eSetIx i fi f) := by
  obtain ⟨t, a, b⟩ := h.ex
  obtain ⟨u, c, d⟩ := hi.ex
  refine ⟨_, ps_asg a (pg_sub (pe_var hN hv hd hcd) c set_list ha) hs hw h1, fun σ Z0 B Z H env fps E I hp => ?_⟩
  obtain ⟨⟨dv, env1⟩, e1, hp⟩ := post_bindP hp
  obtain ⟨ds0, e0, hp⟩ := post_bindP hp
  obtain ⟨⟨dk, env2⟩, e2, hp⟩ := post_bindP hp
  obtain ⟨ds, e3, hp⟩ := post_bindP hp
  obtain ⟨j, e4, hp⟩ := post_bindP hp
  obtain ⟨k, e5, hj⟩ := of_ixOf e4
  have e5 : dk = .int k := e5
  subst e5
  refine b σ Z0 B Z H env fps dv env1 _ I e1 fun v Z1 H1 fps1 I1 s1 r1 => ?_
  obtain ⟨q, vs, hσ, _, hH, r, hfp⟩ := I1.lst hu (of_lstAt e0)
  refine ⟨_, hσ, d σ Z0 B Z1 H1 env1 fps1 _ env2 _ I1 e2 fun w Z2 H2 fps2 I2 s2 r2 => ?_⟩
  cases r2
  obtain ⟨q2, vs2, hσ2, _, hH2, r3, hfp2⟩ := I2.lst hu (of_lstAt e3)
  obtain rfl : q2 = q := by
    rw [hσ] at hσ2
    injection hσ2 with hσ2
    injection hσ2 with hσ2
    injection hσ2 with hσ2
    exact hσ2.symm
  exact ⟨q2, vs2, k, j, rfl, rfl, hH2, by rw [r3.length]; exact hj, hp σ Z2 _ _ (I2.lstSet hu hσ hfp2 (r3.set (r1.mono s2) j))⟩
end
end Dz

set_option maxRecDepth 100000
set_option maxHeartbeats 2000000
namespace Dz
open PySem PySem.Spec PyProof.Rows L2
/-! ## more plain lemmas -/
theorem gAdd_nat (a b : Nat) : gAdd (.int (a : Int)) (.int (b : Int)) = .ok (.int ((a + b : Nat) : Int)) := by
  rw [gAdd_int, Int.natCast_add]
theorem gSub_nat {a b : Nat} (h : b ≤ a) : gSub (.int (a : Int)) (.int (b : Int)) = .ok (.int ((a - b : Nat) : Int)) := by
  rw [gSub_int, Int.natCast_sub h]
theorem gEq_nat (a b : Nat) : gEq (.int (a : Int)) (.int (b : Int)) = .ok (.bool (decide (a = b))) := by
  rw [gEq_int, show decide ((a : Int) = (b : Int)) = decide (a = b) from decide_eq_decide.mpr (by omega)]
theorem gNe_nat (a b : Nat) : gNe (.int (a : Int)) (.int (b : Int)) = .ok (.bool (!decide (a = b))) := by
  rw [gNe_int, show decide ((a : Int) = (b : Int)) = decide (a = b) from decide_eq_decide.mpr (by omega)]
theorem gLt_nat (a b : Nat) : gCmp .lt (.int (a : Int)) (.int (b : Int)) = .ok (.bool (decide (a < b))) := by
  rw [gCmp_int]
  show R.ok (PyData.bool (decide ((a : Int) < (b : Int)))) = _
  rw [show decide ((a : Int) < (b : Int)) = decide (a < b) from decide_eq_decide.mpr (by omega)]
theorem gGt_nat (a b : Nat) : gCmp .gt (.int (a : Int)) (.int (b : Int)) = .ok (.bool (decide (b < a))) := by
  rw [gCmp_int]
  show R.ok (PyData.bool (decide ((b : Int) < (a : Int)))) = _
  rw [show decide ((b : Int) < (a : Int)) = decide (b < a) from decide_eq_decide.mpr (by omega)]
theorem gLe_nat (a b : Nat) : gCmp .le (.int (a : Int)) (.int (b : Int)) = .ok (.bool (decide (a ≤ b))) := by
  rw [gCmp_int]
  show R.ok (PyData.bool (decide ((a : Int) ≤ (b : Int)))) = _
  rw [show decide ((a : Int) ≤ (b : Int)) = decide (a ≤ b) from decide_eq_decide.mpr (by omega)]
theorem gMod_nat (a : Nat) {b : Nat} (h : 0 < b) : gMod (.int (a : Int)) (.int (b : Int)) = .ok (.int ((a % b : Nat) : Int)) := by
  show R.when (decide (0 < (b : Int))) (R.ok (PyData.int ((a : Int) % (b : Int)))) = _
  rw [decide_eq_true (by omega), R.when_true, Int.natCast_emod]
theorem gDiv_nat (a : Nat) {b : Nat} (h : 0 < b) (h2 : b < 2 ^ 30) : gDiv (.int (a : Int)) (.int (b : Int)) = .ok (.int ((a / b : Nat) : Int)) := by
  show R.when (decide (0 < (b : Int) ∧ (b : Int) < 1073741824)) (R.ok (PyData.int ((a : Int) / (b : Int)))) = _
  rw [decide_eq_true ⟨by omega, by omega⟩, R.when_true, Int.natCast_ediv]
theorem gIx_list {w : List Int} {i : Nat} (h : i < w.length) : gIx (.list (w.map PyData.int)) (.int i) = .ok (.int (w.getD i 0)) := by
  have e : atI (w.map PyData.int) (i : Int) = some (.int (w.getD i 0)) := by
    unfold atI ixN
    rw [List.length_map, if_pos (by omega)]
    simp [List.getD, h]
  show (match atI (w.map PyData.int) (i : Int) with | some d => R.ok d | none => .no) = _
  rw [e]
theorem eTgt_ok {g : GF} {f : EF} {env e1 e2 : Env} {d : D} (h : f env = .ok (d, e1)) (h2 : g d e1 = .ok e2) : eTgt g f env = .ok (.nx, e2) := by
  unfold eTgt
  rw [h, R.bindP_ok, h2, R.bindP_ok]
theorem sTgt_ok {g : GF} {f : PF} {env e2 : Env} {d : D} (h : f env = .ok d) (h2 : g d env = .ok e2) : sTgt g f env = .ok (.nx, e2) := by
  unfold sTgt
  rw [h, R.bindP_ok, h2, R.bindP_ok]
theorem ea3_ok {f g h : EF} {env e1 e2 e3 : Env} {a b c : D} (h1 : f env = .ok (a, e1)) (h2 : g e1 = .ok (b, e2)) (h3 : h e2 = .ok (c, e3)) : eaCons f (eaCons g (eaCons h eaNil)) env = .ok ([a, b, c], e3) := by
  unfold eaCons
  rw [h1, R.bind_ok]
  show R.bind (R.bind (g e1) _) _ = _
  rw [h2, R.bind_ok]
  show R.bind (R.bind (R.bind (h e2) _) _) _ = _
  rw [h3, R.bind_ok]
  rfl
theorem eTup2_ok {f g : EF} {env e1 e2 : Env} {a b : D} (h : f env = .ok (a, e1)) (h2 : g e1 = .ok (b, e2)) : eTup (eaCons f (eaCons g eaNil)) env = .ok (.tuple [a, b], e2) := by
  unfold eTup
  rw [ea2_ok h h2, R.bind_ok]
  exact R.when_true _
theorem eTup3_ok {f g h : EF} {env e1 e2 e3 : Env} {a b c : D} (h1 : f env = .ok (a, e1)) (h2 : g e1 = .ok (b, e2)) (h3 : h e2 = .ok (c, e3)) : eTup (eaCons f (eaCons g (eaCons h eaNil))) env = .ok (.tuple [a, b, c], e3) := by
  unfold eTup
  rw [ea3_ok h1 h2 h3, R.bind_ok]
  exact R.when_true _
theorem cTup3_ok {f g h : PF} {env : Env} {a b c : D} (h1 : f env = .ok a) (h2 : g env = .ok b) (h3 : h env = .ok c) : cTup (aCons f (aCons g (aCons h aNil))) env = .ok (.tuple [a, b, c]) := by
  unfold cTup aCons aNil
  rw [h1, R.bind_ok, h2, R.bind_ok, h3]
  exact R.when_true _
theorem eSetL_ok {i : Nat} {f : EAF} {env e' : Env} {ds : List D} (h : f env = .ok (ds, e')) : eSetL i f env = .ok (.nx, e'.set i (some (.list ds))) := by
  unfold eSetL
  rw [h, R.bindP_ok]
theorem sSetL_ok {i : Nat} {f : Env → R (List D)} {env : Env} {ds : List D} (h : f env = .ok ds) : sSetL i f env = .ok (.nx, env.set i (some (.list ds))) := by
  unfold sSetL
  rw [h, R.bindP_ok]
theorem eO_ok {f : Env → R (List D)} {env : Env} {ds : List D} (h : f env = .ok ds) : eO f env = .ok (ds, env) := by
  unfold eO
  rw [h, R.bind_ok]
theorem cBinL_ok {g : D → D → R (List D)} {fa fb : PF} {env : Env} {a b : D} {c : List D} (h1 : fa env = .ok a) (h2 : fb env = .ok b) (h3 : g a b = .ok c) : cBinL g fa fb env = .ok c := by
  unfold cBinL
  rw [h1, R.bind_ok, h2, R.bind_ok, h3]
theorem cUn_ok {g : D → R D} {fa : PF} {env : Env} {a c : D} (h1 : fa env = .ok a) (h3 : g a = .ok c) : cUn g fa env = .ok c := by
  unfold cUn
  rw [h1, R.bind_ok, h3]
theorem eSetIx_ok {i j : Nat} {fi f : EF} {env e1 e2 : Env} {d k : D} {ds0 ds : List D} (h1 : f env = .ok (d, e1)) (h2 : e1[i]? = some (some (.list ds0))) (h3 : fi e1 = .ok (k, e2)) (h4 : e2[i]? = some (some (.list ds))) (h5 : ixOf ds.length k = .ok j) : eSetIx i fi f env = .ok (.nx, e2.set i (some (.list (ds.set j d)))) := by
  have l0 : lstAt e1 i = .ok ds0 := by unfold lstAt; rw [h2]
  have l1 : lstAt e2 i = .ok ds := by unfold lstAt; rw [h4]
  unfold eSetIx
  rw [h1, R.bindP_ok]
  show R.bindP (lstAt e1 i) _ = _
  rw [l0, R.bindP_ok]
  show R.bindP (fi e1) _ = _
  rw [h3, R.bindP_ok]
  show R.bindP (lstAt e2 i) _ = _
  rw [l1, R.bindP_ok]
  show R.bindP (ixOf ds.length k) _ = _
  rw [h5, R.bindP_ok]
theorem ixOf_nat {n j : Nat} (h : j < n) : ixOf n (.int (j : Int)) = .ok j := by
  have e : ixN n (j : Int) = some j := by
    unfold ixN
    rw [if_pos (by omega)]
    simp
    try omega
  show (match ixN n (j : Int) with | some j => R.ok j | none => .no) = _
  rw [e]
theorem cSl_toL {f g : PF} {env : Env} {w : List D} {p : Nat} (h1 : f env = .ok (.list w)) (h2 : g env = .ok (.int p)) : cSl f cNoPart (cPart g) env = .ok (.list (w.take p)) := by
  unfold cSl
  rw [h1, R.bind_ok]
  show R.bind (.ok (none : Option Int)) _ = _
  rw [R.bind_ok]
  have : cPart g env = .ok (some (p : Int)) := by unfold cPart; rw [h2]; rfl
  rw [this, R.bind_ok]
  unfold gSl
  dsimp only
  rw [cutD_to]
theorem gMulL_nat {xs : List D} {k : Nat} (h : xs.length * k ≤ sizeLine) (hk : k < 2 ^ 20) : gMulL (.list xs) (.int (k : Int)) = .ok (List.replicate k xs).flatten := by
  show R.when (decide (-(2 ^ 63) ≤ (k : Int) ∧ (k : Int) < 2 ^ 63 ∧ xs.length * ((k : Int)).toNat ≤ sizeLine)) _ = _
  rw [show ((k : Int)).toNat = k by omega, when_of (decide_eq_true ⟨by omega, by omega, h⟩)]
theorem noRefs_ints : ∀ w : List Int, noRefs (w.map PyData.int) = true
  | [] => by rw [List.map_nil, noRefs]
  | a :: w => by
    have h : noRef (PyData.int a) = true := rfl
    rw [List.map_cons, noRefs, noRefs_ints w, h]
    rfl
theorem noRef_wD (w : List Int) : noRef (wD w) = true := by
  unfold wD
  rw [noRef, noRefs_ints]
theorem cRng1_nat {f : PF} {env : Env} {n : Nat} (h : f env = .ok (.int (n : Int))) (hn : n < 2 ^ 60) : cRng1 f env = .ok ((List.range n).map fun (i : Nat) => PyData.int (i : Int)) := by
  rw [cRng1_ok h (by omega) (by omega), ← rgD0]
  rfl
theorem cRng2_nat {f g : PF} {env : Env} {a b : Nat} (h : f env = .ok (.int (a : Int))) (h' : g env = .ok (.int (b : Int))) (hb : a < 2 ^ 60 ∧ b < 2 ^ 60) : cRng2 f g env = .ok ((List.range (b - a)).map fun (k : Nat) => PyData.int ((a + k : Nat) : Int)) := by
  rw [cRng2_ok h h' (by omega)]
  unfold rgD
  rw [show ((b : Int) - (a : Int)).toNat = b - a by omega]
  rfl
theorem gNe_bool (a b : Bool) : gNe (.bool a) (.bool b) = .ok (.bool (a != b)) := by cases a <;> cases b <;> rfl
theorem cLR2_ok {f g : PF} {env : Env} {a b : Int} (h1 : f env = .ok (.int a)) (h2 : g env = .ok (.int b)) (h : rgOkB a b = true) : cLR2 f g env = .ok (rgD a (b - a).toNat) := by
  unfold cLR2
  rw [h1, R.bind_ok, h2, R.bind_ok]
  show R.when (rgOkB a b) (R.ok (rgD a (b - a).toNat)) = _
  rw [h, R.when_true]
theorem cLR1_ok {f : PF} {env : Env} {b : Int} (h1 : f env = .ok (.int b)) (h : rgOkB 0 b = true) : cLR1 f env = .ok (rgD 0 b.toNat) := by
  unfold cLR1
  rw [h1, R.bind_ok]
  show R.when (rgOkB 0 b) (R.ok (rgD 0 b.toNat)) = _
  rw [h, R.when_true]
theorem rgOkB_small {a b : Int} (h : 0 ≤ a ∧ a < 2 ^ 20 ∧ 0 ≤ b ∧ b < 2 ^ 20) : rgOkB a b = true := by
  unfold rgOkB
  exact decide_eq_true ⟨by omega, by omega, by omega, by omega, by omega⟩
theorem cScalL_ok {f : Env → R (List D)} {env : Env} {ds : List D} (h : f env = .ok ds) (hn : noRefs ds = true) : cScalL f env = .ok ds := by
  unfold cScalL
  rw [h, R.bind_ok, hn, R.when_true]
end Dz

set_option maxRecDepth 100000
set_option maxHeartbeats 2000000
namespace Dz
open PySem PySem.Spec PyProof.Rows L2
/-! ## max(xs) of alike data -/
def notNone : D → Bool
  | .none => false
  | _ => true
def alikeB (ds : List D) : Bool := ds.all (fun d => ds.all fun e => PySem.W.alike d e) && ds.all notNone && ds.all (fun d => SeqAt.shaped d)
theorem alikeB_all {ds : List D} (h : alikeB ds = true) : PySem.W.AlikeAll ds := by
  unfold alikeB at h
  rw [Bool.and_eq_true, Bool.and_eq_true] at h
  refine ⟨fun d hd d' hd' => List.all_eq_true.mp (List.all_eq_true.mp h.1.1 d hd) d' hd', fun d hd e => ?_⟩
  have := List.all_eq_true.mp h.1.2 d hd
  rw [e] at this
  cases this
theorem alikeB_shaped {ds : List D} (h : alikeB ds = true) : ∀ d ∈ ds, SeqAt.shaped d = true := by
  unfold alikeB at h
  rw [Bool.and_eq_true] at h
  exact List.all_eq_true.mp h.2
def rMaxA (K : PySem.W.Frag) : List V → Hp → VK → Prop := fun xs H Q => ∃ (a : Addr) (z : V × D) (zs : List (V × D)), xs = [.ref a] ∧ SqL K H a ((z :: zs).map (·.1)) ∧ (∀ y ∈ z :: zs, Dp K H y.1 y.2) ∧ alikeB ((z :: zs).map (·.2)) = true ∧
  ∀ y ∈ z :: zs, y.2 = PySem.W.maxD z.2 (zs.map (·.2)) → Q y.1 H
theorem reads_each {X : Cx} {pins : List (Addr × Obj)} {σ : L2.St} {H : Hp} {s : Shared} (I : L2.Inv X pins σ H s) : ∀ {us : List Value} {zs : List (V × D)}, PySem.W.EachIs (fun (u : Value) (z : V × D) => L2.RelV z.1 u) us zs → (∀ z ∈ zs, Dp X.K H z.1 z.2) → ∃ as, ReadsAll s.heap us (zs.map (·.2)) as
  | _, _, .nil, _ => ⟨_, .nil⟩
  | _, _, .cons (b := z) r rs, h => by
    obtain ⟨as, r1⟩ := Dp.reads I z.2 z.1 _ (h z List.mem_cons_self) r
    obtain ⟨bs, r2⟩ := reads_each I rs fun y hy => h y (List.mem_cons_of_mem _ hy)
    exact ⟨_, .cons r1 r2⟩
theorem each_at {us : List Value} {zs : List (V × D)} (e : PySem.W.EachIs (fun (u : Value) (z : V × D) => L2.RelV z.1 u) us zs) : ∀ (i : Nat) (v : Value), us[i]? = some v → ∃ z, zs[i]? = some z ∧ L2.RelV z.1 v := by
  induction e with
  | nil => intro i v h; simp at h
  | cons a t ih =>
    intro i v h
    cases i with
    | zero =>
      have h := Option.some.inj (show some _ = some v from h)
      subst h
      exact ⟨_, rfl, a⟩
    | succ i => exact ih i v (by simpa using h)
theorem cr_maxA {X : Cx} {k : Nat} (hr : RmG k X.A) (hc : X.calm = true) : CallR X (.builtin "max") (rMaxA X.K) := by
  intro pins s σ H vs us Q I r h
  obtain ⟨a, z, zs, rfl, hs, hd, hk, q⟩ := h
  obtain ⟨its, rv, hl, hz⟩ := I.list hs
  rw [Vals.ref1 r]
  have e := each_zip rv (zs := z :: zs) rfl
  have hun := hr.un
  obtain ⟨as, hR⟩ := reads_each I e hd
  have hA : PySem.W.AlikeAll (z.2 :: zs.map (·.2)) := by
    rw [List.map_cons] at hk
    exact alikeB_all hk
  have hR : ReadsAll s.heap its.toArray.toList (z.2 :: zs.map (·.2)) as := by simpa using hR
  have hdep : PyData.depthAll ((z :: zs).map (·.2)) ≤ 64 := depthAll_of fun d hd => SeqAt.depth_of_shaped (alikeB_shaped hk d hd)
  refine PySem.W.max_list_data (vs := its.toArray) (x := z.2) (xs := zs.map (·.2)) (as := as) (I.ok.hd hc) hl.isList hR hA (by rw [List.map_cons] at hdep; omega) fun i v h' tk bs hv hrd hkp => ?_
  obtain ⟨y, hy1, hy2⟩ := each_at e i v (by simpa using hv)
  have hym := List.mem_of_getElem? hy1
  obtain ⟨cs, hrd2⟩ := Dp.reads I y.2 y.1 v (hd y hym) hy2
  have hsh := alikeB_shaped hk y.2 (List.mem_map_of_mem hym)
  have heq := SeqAt.Reads.unique y.2 _ v cs bs (SeqAt.canLay_of_shaped hsh) (Reads.keeps hkp hrd2) hrd
  exact ⟨y.1, H, I.kept hkp, hy2, q y hym heq⟩
def gMaxA : List D → R D
  | [.list (d :: ds)] => R.when (alikeB (d :: ds)) (.ok (PySem.W.maxD d ds))
  | _ => .no
theorem v_maxA {K : PySem.W.Frag} : OpN K (rMaxA K) gMaxA := fun xs H Z as c Q hz r h hq => by
  unfold gMaxA at h
  split at h
  · rename_i d ds
    obtain ⟨h1, h2⟩ := R.of_when h
    cases h2
    cases r with
    | cons r t =>
      cases t
      cases r with
      | @lst a0 vs0 _ tt q =>
        cases q with
        | @cons v vs1 _ _ r1 rs =>
          obtain ⟨z1, z2, z3⟩ := zip_reps rs
          refine ⟨_, (v, d), vs1.zip ds, rfl, .inl (.inl (by rw [List.map_cons, z1]; exact hz _ _ tt)), fun y hy => ?_, by rw [List.map_cons, z2]; exact h1, fun y hy hm => ?_⟩
          · have hsh : SeqAt.shaped y.2 = true := alikeB_shaped h1 y.2 (by
              have := List.mem_map_of_mem (f := (·.2)) hy
              rw [List.map_cons, z2] at this
              exact this)
            rcases List.mem_cons.mp hy with rfl | hy
            · exact r1.dp hz (SeqAt.canLay_of_shaped hsh)
            · exact (z3 y hy).dp hz (SeqAt.canLay_of_shaped hsh)
          · rw [z2] at hm
            have hrep : Rep K Z y.1 y.2 := by
              rcases List.mem_cons.mp hy with rfl | hy
              · exact r1
              · exact z3 y hy
            rw [hm] at hrep
            exact hq _ _ _ (Gr.refl hz) hrep
  · cases h
/-- of whole numbers, or of alike data -/
def gMaxX (as : List D) : R D := match intsIn as with
  | some _ => gMax as
  | none => gMaxA as
theorem v_maxX {K : PySem.W.Frag} : OpN K (fun xs H Q => rMaxX K xs H Q ∨ rMaxA K xs H Q) gMaxX := fun xs H Z as c Q hz r h hq => by
  unfold gMaxX at h
  split at h
  · exact .inl (v_max xs H Z as c Q hz r h hq)
  · exact .inr (v_maxA xs H Z as c Q hz r h hq)
theorem cr_maxXX {X : Cx} {k : Nat} (hr : RmG k X.A) (hc : X.calm = true) : CallR X (.builtin "max") (fun xs H Q => rMaxX X.K xs H Q ∨ rMaxA X.K xs H Q) := (call_maxX hc).or (cr_maxA hr hc)
theorem gMaxX_ints {as : List D} {ns : List Int} (h : intsIn as = some ns) : gMaxX as = gMax as := by
  unfold gMaxX
  rw [h]
end Dz

set_option maxRecDepth 100000
set_option maxHeartbeats 2000000
namespace Dz
open PySem PySem.Spec PyProof.Rows L2
/-! ## more plain lemmas -/
theorem ePar_ok {i j : Nat} {f g : EF} {env e1 e2 : Env} {a b : D} (h : f env = .ok (a, e1)) (h2 : g e1 = .ok (b, e2)) : ePar i j (eaCons f (eaCons g eaNil)) env = .ok (.nx, (e2.set i (some a)).set j (some b)) := by
  unfold ePar
  rw [ea2_ok h h2, R.bindP_ok]
  rfl
theorem sPar_ok {i j : Nat} {f g : PF} {env : Env} {a b : D} (h : f env = .ok a) (h2 : g env = .ok b) : sPar i j f g env = .ok (.nx, (env.set i (some a)).set j (some b)) := by
  unfold sPar
  rw [h, R.bindP_ok, h2, R.bindP_ok]
theorem eStore3_ok {f g h : EF} {env e1 e2 e3 : Env} {i j k : Nat} {a b c : D} (h1 : f env = .ok (a, e1)) (h2 : g e1 = .ok (b, e2)) (h3 : h e2 = .ok (c, e3)) : eStore [i, j, k] (eaCons f (eaCons g (eaCons h eaNil))) env = .ok (.nx, ((e3.set i (some a)).set j (some b)).set k (some c)) := by
  unfold eStore
  rw [ea3_ok h1 h2 h3, R.bindP_ok]
  rfl
theorem eCall1_ok {g : List D → R D} {f : EF} {env e1 : Env} {a c : D} (h1 : f env = .ok (a, e1)) (h3 : g [a] = .ok c) : eCall g (eaCons f eaNil) env = .ok (c, e1) := by
  unfold eCall
  rw [ea1_ok h1, R.bind_ok]
  show R.bind (g [a]) _ = _
  rw [h3, R.bind_ok]
theorem ePart_ok {f : EF} {env e1 : Env} {k : Int} (h1 : f env = .ok (.int k, e1)) : ePart f env = .ok (some k, e1) := by
  unfold ePart
  rw [h1, R.bind_ok]
  rfl
theorem eAnd_t {f g : ETF} {env e1 : Env} {r : R (Bool × Env)} (h : f env = .ok (true, e1)) (h2 : g e1 = r) : eAnd f g env = r := by
  unfold eAnd
  rw [h, R.bind_ok, if_pos rfl]
  exact h2
theorem eAnd_f {f g : ETF} {env e1 : Env} (h : f env = .ok (false, e1)) : eAnd f g env = .ok (false, e1) := by
  unfold eAnd
  rw [h, R.bind_ok, if_neg Bool.false_ne_true]
theorem cAnd_ok {f g : Env → R Bool} {env : Env} {a b : Bool} (h : f env = .ok a) (h2 : g env = .ok b) : cAnd f g env = .ok (a && b) := by
  cases a with
  | true => exact cAnd_t h h2
  | false => exact cAnd_f h
theorem cIf_t {c : Env → R Bool} {f g : PF} {env : Env} {d : D} (h : c env = .ok true) (h2 : f env = .ok d) : cIf c f g env = .ok d := by
  unfold cIf
  rw [h, R.bind_ok, if_pos rfl, h2]
theorem cIf_f {c : Env → R Bool} {f g : PF} {env : Env} {d : D} (h : c env = .ok false) (h2 : g env = .ok d) : cIf c f g env = .ok d := by
  unfold cIf
  rw [h, R.bind_ok, if_neg Bool.false_ne_true, h2]
theorem gMul_wD {w : List Int} {k : Nat} (hk : k ≤ 1000) (hw : w.length ≤ 1000) : gMul (wD w) (.int (k : Int)) = .ok (wD (List.replicate k w).flatten) := by
  show R.when (decide (-(2 ^ 63) ≤ (k : Int) ∧ (k : Int) ≤ 1000 ∧ (w.map PyData.int).length ≤ 1000)) (R.ok (PyData.tuple (List.replicate ((k : Int)).toNat (w.map PyData.int)).flatten)) = _
  rw [show ((k : Int)).toNat = k by omega, when_of (decide_eq_true ⟨by omega, by omega, by rw [List.length_map]; exact hw⟩)]
  unfold wD
  rw [List.map_flatten, List.map_replicate]
theorem eSl_to {f g : EF} {env e1 e2 : Env} {w : List Int} {p : Nat} (h1 : f env = .ok (wD w, e1)) (h2 : g e1 = .ok (.int (p : Int), e2)) : eSl f eNoPart (ePart g) env = .ok (wD (w.take p), e2) := by
  refine eSl_ok h1 rfl (ePart_ok h2) ?_
  unfold wD gSl
  dsimp only
  rw [cutD_to, List.map_take]
theorem gMin2_nat (a b : Nat) : gMin2 [.int (a : Int), .int (b : Int)] = .ok (.int ((min a b : Nat) : Int)) := by
  show R.ok (PyData.int (min (a : Int) (b : Int))) = _
  refine congrArg (fun z => R.ok (PyData.int z)) ?_
  omega
theorem len_wD' (w : List Int) : gLen [wD w] = .ok (.int w.length) := by
  show R.ok (PyData.int ((w.map PyData.int).length : Nat)) = _
  rw [List.length_map]
theorem eTup4_ok {f g h k : EF} {env e1 e2 e3 e4 : Env} {a b c d : D} (h1 : f env = .ok (a, e1)) (h2 : g e1 = .ok (b, e2)) (h3 : h e2 = .ok (c, e3)) (h4 : k e3 = .ok (d, e4)) : eTup (eaCons f (eaCons g (eaCons h (eaCons k eaNil)))) env = .ok (.tuple [a, b, c, d], e4) := by
  have e : eaCons f (eaCons g (eaCons h (eaCons k eaNil))) env = .ok ([a, b, c, d], e4) := by
    have h5 := ea3_ok h2 h3 h4
    unfold eaCons
    unfold eaCons at h5
    rw [h1, R.bind_ok]
    show R.bind (R.bind (g e1) _) _ = _
    rw [h5]
    rfl
  unfold eTup
  rw [e, R.bind_ok]
  exact R.when_true _
theorem cLst2_ok {f g : PF} {env : Env} {a b : D} (h1 : f env = .ok a) (h2 : g env = .ok b) : cList (cLst (aCons f (aCons g aNil))) env = .ok (.list [a, b]) := by
  refine cList_ok ?_
  unfold cLst aCons aNil
  rw [h1, R.bind_ok, h2]
  exact R.when_true _
theorem cNot_ok {f : Env → R Bool} {env : Env} {b : Bool} (h : f env = .ok b) : cNot f env = .ok (!b) := by
  unfold cNot
  rw [h, R.bind_ok]
theorem gNe_nilL (l : List Nat) : gNe (.list (l.map fun (j : Nat) => PyData.int (j : Int))) (.list []) = .ok (.bool (!decide (l = []))) := by
  cases l with
  | nil => rfl
  | cons a l =>
    have hs : SeqAt.shaped (.list ((a :: l).map fun (j : Nat) => PyData.int (j : Int))) = true := by
      have e : (a :: l).map (fun (j : Nat) => PyData.int (j : Int)) = ((a :: l).map fun (j : Nat) => (j : Int)).map PyData.int := by rw [List.map_map]; rfl
      rw [e]
      unfold SeqAt.shaped
      rw [PyData.canLay0, canLay_ints, PyData.depth, Dz.depth_ints]
      rfl
    show R.when (SeqAt.shaped (.list ((a :: l).map fun (j : Nat) => PyData.int (j : Int))) && SeqAt.shaped (.list [])) (R.ok (PyData.bool (!PyData.eqv (.list ((a :: l).map fun (j : Nat) => PyData.int (j : Int))) (.list [])))) = _
    rw [hs]
    simp [PyData.eqv, PyData.eqvAll]
    rfl
theorem cAndV_t {f g : PF} {env : Env} {d : D} (h : f env = .ok (.bool true)) (h2 : g env = .ok d) : cAndV f g env = .ok d := by
  unfold cAndV
  rw [cTst_ok h, R.bind_ok, if_pos rfl, h2]
theorem runM_ok' {n : Nat} {g : SF} {args : List D} {d s : D} {e' : Env} (h : g (args.map some ++ List.replicate (n - args.length) none) = .ok (.rt d, e')) (h0 : e'[0]? = some (some s)) : runM n g args = .ok (d, s) := runM_ok h (by unfold slotAt; rw [h0])
end Dz

set_option maxRecDepth 100000
set_option maxHeartbeats 2000000
namespace Dz
open PySem PySem.Spec PyProof.Rows L2
/-! ## isinstance(x, T), T a built-in type -/
def tyN : D → String
  | .none => "NoneType"
  | .bool _ => "bool"
  | .int _ => "int"
  | .str _ => "str"
  | .list _ => "list"
  | .tuple _ => "tuple"
  | .dict _ => "dict"
def isiB (T n : String) : Bool := n == T || (n == "bool" && T == "int")
def tyNs : List String := ["NoneType", "bool", "int", "str", "list", "tuple", "dict"]
theorem tyN_mem (d : D) : tyN d ∈ tyNs := by cases d <;> simp [tyN, tyNs]
theorem rep_ty {K : PySem.W.Frag} {Z H : Hp} {v : V} {d : D} (hz : Same Z H) (r : Rep K Z v d) : TyX K H v (.type (tyN d)) := by
  cases r with
  | non => exact .base .non
  | bl b => exact .base (.bl b)
  | int i => exact .base (.int i)
  | str x => exact .base (.str x)
  | tup t _ =>
    rcases t with t | ⟨_, o, its, n, h1, h2, h3, h4⟩
    · exact .base (.tup (hz _ _ t))
    · exact .kTuple h1 h2
  | lst t _ => exact .base (.lst (hz _ _ t))
  | dK t _ => exact .base (.dK (hz _ _ t))
  | dT t _ _ => exact .base (.dT (hz _ _ t))
def gIsi (T : String) (d : D) : R D := .ok (.bool (isiB T (tyN d)))
theorem isi_int : ∀ n ∈ tyNs, kitB n "int" = some (isiB "int" n) := by decide +kernel
theorem isi_bool : ∀ n ∈ tyNs, kitB n "bool" = some (isiB "bool" n) := by decide +kernel
theorem isi_tuple : ∀ n ∈ tyNs, kitB n "tuple" = some (isiB "tuple" n) := by decide +kernel
theorem isi_str : ∀ n ∈ tyNs, kitB n "str" = some (isiB "str" n) := by decide +kernel
theorem isi_list : ∀ n ∈ tyNs, kitB n "list" = some (isiB "list" n) := by decide +kernel
theorem isi_dict : ∀ n ∈ tyNs, kitB n "dict" = some (isiB "dict" n) := by decide +kernel
theorem dp_isi {X : Cx} {us : List Nat} {e : Expr} {f : PF} {x : Str} {T : String} {p p2 pos : Pos} (hT : ∀ n ∈ tyNs, kitB n T = some (isiB T n)) (hg : Gl X "isinstance") (hm : X.mg "isinstance" = none) (hg2 : Gl X x) (hm2 : X.mg x = none) (hb : bootBuiltins "isinstance" = some (.builtin "isinstance")) (hb2 : bootBuiltins x = some (.type T)) (h : DP X us e f)
    (hn2 : x ≠ "__name__" := by decide) (hd2 : (x == ("__debug__" : Str)) = false := by decide)
    (he : starEach (e :: [.Name x p2]) X.env = (false, eval e X.env) :: starEach [.Name x p2] X.env := by rfl) (he2 : starEach (.Name x p2 :: []) X.env = (false, eval (.Name x p2) X.env) :: starEach [] X.env := by rfl) (hpl : (backTo pos (starEach [.Name x p2] X.env)).any (·.1) = false := by rfl) :
    DP X us (.Call (.Name "isinstance" p) [e, .Name x p2] [] pos) (cUn (gIsi T) f) := by
  obtain ⟨t, h1, h2⟩ := h.ex
  refine ⟨_, pe_callB call_isi hg hm hb (pa_cons h1 (pa_cons (pe_bltn (v := .ty T) hg2 hm2 hb2 rfl hn2 hd2) pa_nil he2) he) (by decide) (by decide) he hpl, fun σ H Z env d Q hz hen hf hq => ?_⟩
  obtain ⟨a, e1, e2⟩ := R.of_bind hf
  cases e2
  refine h2 σ H Z env a _ hz hen e1 fun v Z1 H1 g r => ?_
  exact ⟨v, .ty T, _, _, _, rfl, .ty T, rep_ty g.zh r, kit_ty (hT _ (tyN_mem a)), hq _ _ _ g (.bl _)⟩
end Dz

set_option maxRecDepth 100000
set_option maxHeartbeats 2000000
namespace Dz
open PySem PySem.Spec PyProof.Rows L2
/-! ## x is True, x is not True: x a bool -/
def rIsB (neg : Bool) : R2 := fun x y H Q => ∃ a b : Bool, x = .bl a ∧ y = .bl b ∧ Q (.bl (if neg = true then !decide (a = b) else decide (a = b))) H
theorem op_isB {X : Cx} : OpR X (compareOp .Is) (rIsB false) := by
  intro pins s σ H x y v u Q I rx ry h
  obtain ⟨a, b, rfl, rfl, q⟩ := h
  cases (show v = Value.bool a from rx)
  cases (show u = Value.bool b from ry)
  refine wpAny_is_plain rfl ⟨.bl (decide (a = b)), H, I, ?_, q⟩
  show _ = Value.bool (decide (a = b))
  cases a <;> cases b <;> rfl
theorem op_isnotB {X : Cx} : OpR X (compareOp .IsNot) (rIsB true) := by
  intro pins s σ H x y v u Q I rx ry h
  obtain ⟨a, b, rfl, rfl, q⟩ := h
  cases (show v = Value.bool a from rx)
  cases (show u = Value.bool b from ry)
  refine wpAny_isNot_plain rfl ⟨.bl (!decide (a = b)), H, I, ?_, q⟩
  show _ = Value.bool (!decide (a = b))
  cases a <;> cases b <;> rfl
def gIsB : D → D → R D
  | .bool a, .bool b => .ok (.bool (decide (a = b)))
  | _, _ => .no
def gNotB : D → D → R D
  | .bool a, .bool b => .ok (.bool (!decide (a = b)))
  | _, _ => .no
theorem v_isB {K : PySem.W.Frag} : Op2 K (rIsB false) gIsB := fun x y H Z a b c Q hz r1 r2 h hq => by
  unfold gIsB at h
  split at h
  · cases h
    cases r1
    cases r2
    exact ⟨_, _, rfl, rfl, hq _ _ _ (Gr.refl hz) (.bl _)⟩
  · cases h
theorem v_notB {K : PySem.W.Frag} : Op2 K (rIsB true) gNotB := fun x y H Z a b c Q hz r1 r2 h hq => by
  unfold gNotB at h
  split at h
  · cases h
    cases r1
    cases r2
    exact ⟨_, _, rfl, rfl, hq _ _ _ (Gr.refl hz) (.bl _)⟩
  · cases h
end Dz

set_option maxRecDepth 100000
set_option maxHeartbeats 2000000
namespace Dz
open PySem PySem.Spec PyProof.Rows L2
/-! ## for v in xs, xs a list of one's own that the loop lets alone -/
section
variable {X : Cx} {C : Cf}
theorem ssem_for0 {K : PySem.W.Frag} {wi : TI} {tg : TG} {tb : TS} {gt : GF} {g : SF} {sl : List Nat} {ds : List D} (hg : GSem K tg sl gt) (hsl : sl.all (fun j => !(C.us.contains j) && (C.pins.lookup j).isNone) = true) (hb : SSem K C tb g) {σ : L2.St} {Z0 B Z H : Hp} {env : Env} {fps : Nat → List Addr} {E : Ends} (I : EnvOk K C Z0 B Z H σ env fps)
    (hi0 : ∀ Q : It → Hp → Prop, (∀ J Z' H', Gr Z H Z' H' → ItOk K J Z' ds → Q J H') → wi σ H Q) (h : Post K C Z0 B E (forL gt g ds env)) : tFor wi tg tb E σ H := by
  refine hi0 _ fun J Zk H1 g1 ok => ?_
  have I1 := I.grow g1
  refine ⟨fun i m σ H => m = ds.length - i ∧ i ≤ ds.length ∧ ∃ Z env fps, EnvOk K C Z0 B Z H σ env fps ∧ Same Zk Z ∧ Post K C Z0 B E (forL gt g (ds.drop i) env), ⟨_, rfl, Nat.zero_le _, Zk, env, fps, I1, Same.refl _, h⟩, fun i m σ2 H2 hW => ?_⟩
  obtain ⟨rfl, hile, Z2, env2, fps2, I2, sk, h2⟩ := hW
  by_cases hlt : i < ds.length
  · refine .inr ⟨ok.go i H2 hlt (sk.trans I2.zh), fun σ H => ∃ Z env fps, EnvOk K C Z0 B Z H σ env fps ∧ Same Zk Z ∧ Post K C Z0 B E (forL gt g (ds.drop (i + 1)) env), fun σ' H' ⟨Z', env', fps', a, b, c⟩ => ⟨ds.length - (i + 1), by omega, rfl, hlt, Z', env', fps', a, b, c⟩, fun x H3 y => ?_⟩
    obtain ⟨Z3, d, g3, hd, r3⟩ := ok.yld i H2 x H3 Z2 hlt sk I2.zh y
    have hdrop : ds.drop i = d :: ds.drop (i + 1) := by
      rw [List.drop_eq_getElem_cons hlt]
      rw [List.getElem?_eq_getElem hlt] at hd
      cases hd; rfl
    rw [hdrop] at h2
    unfold forL at h2
    obtain ⟨env3, e3, h2⟩ := post_bindP h2
    have I3 := I2.grow g3
    refine hg x d σ2 H3 Z3 env2 env3 _ I3.zh r3 I3.len e3 fun σ' l1 l2 off on => ?_
    have I4 := I3.setG hsl l1 l2 off on
    -- the body: what is walked stays
    refine hb σ' Z3 B Z3 H3 env3 fps2 _ ⟨⟨Same.refl _, I4.zh, I4.gr.hh, fun _ _ e => .inl e⟩, I4.len, I4.frz, I4.own, I4.fp, I4.dj, I4.pin⟩ ?_
    have back : ∀ {σ5 : L2.St} {Z5 H5 : Hp} {env5 : Env} {fps5 : Nat → List Addr}, EnvOk K C Z3 B Z5 H5 σ5 env5 fps5 → EnvOk K C Z0 B Z5 H5 σ5 env5 fps5 ∧ Same Zk Z5 := fun {σ5 Z5 H5 env5 fps5} J =>
      ⟨⟨⟨I4.gr.zz.trans J.gr.zz, J.gr.zh, J.gr.hh, fun a o e => by
        rcases J.gr.fr a o e with z | z | z
        · exact I4.gr.fr a o z
        · exact .inr (.inl z)
        · exact .inr (.inr z)⟩, J.len, J.frz, J.own, J.fp, J.dj, J.pin⟩, (sk.trans g3.zz).trans J.gr.zz⟩
    cases e : g env3 with
    | ok r =>
      obtain ⟨fl, env'⟩ := r
      rw [e, R.bind_ok] at h2
      cases fl with
      | nx => exact fun σ5 Z5 H5 fps5 I5 => let ⟨J, s5⟩ := back I5; ⟨Z5, env', fps5, J, s5, h2⟩
      | ct => exact fun σ5 Z5 H5 fps5 I5 => let ⟨J, s5⟩ := back I5; ⟨Z5, env', fps5, J, s5, h2⟩
      | bk => exact fun σ5 Z5 H5 fps5 I5 => h2 σ5 Z5 H5 fps5 (back I5).1
      | rt d' => exact fun v σ5 Z5 H5 fps5 fp I5 => h2 v σ5 Z5 H5 fps5 fp (back I5).1
    | err c p =>
      rw [e] at h2
      exact fun cls dx σ5 Z5 H5 hx g5 => h2 cls dx σ5 Z5 H5 hx ⟨I4.gr.zz.trans g5.zz, g5.zh, g5.hh, fun a o e => by
        rcases g5.fr a o e with z | z | z
        · exact I4.gr.fr a o z
        · exact .inr (.inl z)
        · exact .inr (.inr z)⟩
    | no => rw [e] at h2; exact h2
  · have e : i = ds.length := by omega
    subst e
    rw [List.drop_length] at h2
    exact .inl ⟨ok.stop H2 (sk.trans I2.zh), h2 σ2 Z2 H2 fps2 I2⟩

theorem EnvOk.drop1 {K : PySem.W.Frag} {Z0 B Z H : Hp} {σ : L2.St} {env : Env} {fps : Nat → List Addr} (I : EnvOk K C Z0 B Z H σ env fps) (i : Nat) : EnvOk K C Z0 B Z H σ (env.set i none) (setFp fps i []) where
  gr := I.gr
  len := by rw [List.length_set]; exact I.len
  frz := fun j d h1 h2 => by
    by_cases e : j = i
    · subst e
      rw [List.getElem?_set] at h2
      split at h2
      · split at h2
        · cases h2
        · cases h2
      · rename_i hne; exact absurd rfl hne
    · rw [List.getElem?_set_ne (fun z => e z.symm)] at h2
      exact I.frz j d h1 h2
  own := fun j m hm d h2 => by
    by_cases e : j = i
    · subst e
      rw [List.getElem?_set] at h2
      split at h2
      · split at h2
        · cases h2
        · cases h2
      · rename_i hne; exact absurd rfl hne
    · rw [List.getElem?_set_ne (fun z => e z.symm)] at h2
      have := I.own j m hm d h2
      unfold setFp
      rw [if_neg e]
      exact this
  fp := fun j a ha => by
    unfold setFp at ha
    split at ha
    · cases ha
    · exact I.fp j a ha
  dj := fun j k a h1 h2 => by
    unfold setFp at h1 h2
    split at h1
    · cases h1
    · split at h2
      · cases h2
      · exact I.dj j k a h1 h2
  pin := I.pin
def sForOwn (i : Nat) (gt : GF) (g : SF) : SF := fun env => (lstAt env i).bindP fun ds => forL gt g ds (env.set i none)
theorem ds_forOwn {tg : Expr} {body : List Stmt} {gt : GF} {g : SF} {sl : List Nat} {i : Nat} {x : Str} {p' pos : Pos} (hN : X.N[i]? = some x) (hv : Vis X.env.scope x) (hp : PassesOwn (model X.prog X.w) X.A X.env X.xe) (hc : X.calm = true) (hg : DG X tg sl gt) (hb : DSs X C body g) (hu : C.ms.lookup i = some mL := by rfl) (hsl : sl.all (fun j => !(C.us.contains j) && (C.pins.lookup j).isNone) = true := by rfl)
    (hd : (x == ("__debug__" : Str)) = false := by decide) (hcd : (x == ("__classdict__" : Str)) = false := by decide) (hs : ∀ v, foldedSetIterable (.Name x p') X.env v = pure v := by intro _; rfl) : DS X C (.For tg (.Name x p') body [] pos) (sForOwn i gt g) := by
  obtain ⟨t, b1, b2⟩ := hg.ex
  obtain ⟨u, c1, c2⟩ := hb.ex
  refine ⟨_, ps_for hp hc (pi_list (pe_var hN hv hd hcd)) b1 c1 hs, fun σ Z0 B Z H env fps E I h => ?_⟩
  obtain ⟨ds, e1, h⟩ := post_bindP h
  obtain ⟨q, vs, hσ, _, hH, r, hfp⟩ := I.lst hu (of_lstAt e1)
  obtain ⟨nb, nz, _⟩ := I.fp i q (by rw [hfp]; exact List.mem_singleton.mpr rfl)
  have nf : ∀ j, q ∉ setFp fps i [] j := fun j hm => by
    unfold setFp at hm
    split at hm
    · cases hm
    · rename_i hne
      exact hne (I.dj j i q hm (by rw [hfp]; exact List.mem_singleton.mpr rfl))
  have I2 := (I.drop1 i).still1 nb nz nf hH
  refine ssem_for0 b2 hsl c2 I2 (fun Q hq => ?_) h
  exact ⟨.ref q, hσ, q, rfl, ⟨vs, .inl (.inl hH)⟩, hq _ _ H (Gr.refl I2.zh) (itok_list upd_same (r.mono (same_upd nz)))⟩
theorem sForOwn_ok {i : Nat} {gt : GF} {g : SF} {env : Env} {ds : List D} {r : R (Flo × Env)} (h : env[i]? = some (some (.list ds))) (h2 : forL gt g ds (env.set i none) = r) : sForOwn i gt g env = r := by
  have l0 : lstAt env i = .ok ds := by unfold lstAt; rw [h]
  unfold sForOwn
  rw [l0, R.bindP_ok, h2]
end
end Dz

set_option maxRecDepth 100000
set_option maxHeartbeats 2000000
namespace Dz
open PySem PySem.Spec PyProof.Rows L2
/-! ## xs + [..], a list of one's own -/
section
variable {X : Cx} {C : Cf} {a b : Expr} {fa : EAF} {fb : EF} {i : Nat} {x : Str} {p' pos : Pos}
def eAddName (i : Nat) (fb : EF) : EAF := fun env => (lstAt env i).bind fun _ => (fb env).bind fun d => (lstAt d.2 i).bind fun xs => (lstOf d.1).bind fun ys => R.when (decide (xs.length + ys.length ≤ sizeLine)) (.ok (xs ++ ys, d.2))
theorem deo_addName (hN : X.N[i]? = some x) (hv : Vis X.env.scope x) (hb : DE X C b fb) (hu : C.ms.lookup i = some mL := by rfl) (hd : (x == ("__debug__" : Str)) = false := by decide) (hcd : (x == ("__classdict__" : Str)) = false := by decide) : DEO X C (.BinOp (.Name x p') .Add b pos) (eAddName i fb) := by
  obtain ⟨tb, h3, h4⟩ := hb.ex
  refine ⟨_, pe_op op_addD (pe_var hN hv hd hcd) h3, fun σ Z0 B Z H env fps ds env' Q I hf hq => ?_⟩
  obtain ⟨ds0, e0, hf⟩ := R.of_bind hf
  obtain ⟨⟨d, env1⟩, e1, hf⟩ := R.of_bind hf
  obtain ⟨xs, e2, hf⟩ := R.of_bind hf
  obtain ⟨ys, e3, hf⟩ := R.of_bind hf
  obtain ⟨e4, hf⟩ := R.of_when hf
  cases hf
  have e3 := of_lstOf e3
  have e3 : d = .list ys := e3
  subst e3
  obtain ⟨q, vs, hσ, _, hH, r, hfp⟩ := I.lst hu (of_lstAt e0)
  refine ⟨.ref q, hσ, h4 σ Z0 B Z H env fps _ env1 _ I e1 fun v Z1 H1 fps1 I1 s1 r1 => ?_⟩
  obtain ⟨q2, vs2, hσ2, _, hH2, r2, hfp2⟩ := I1.lst hu (of_lstAt e2)
  obtain rfl : q2 = q := by
    rw [hσ] at hσ2
    injection hσ2 with hσ2
    injection hσ2 with hσ2
    injection hσ2 with hσ2
    exact hσ2.symm
  cases r1 with
  | lst t q3 =>
    refine .inr (.inr (.inr ⟨_, _, _, _, rfl, rfl, hH2, I1.zh _ _ t, by rw [r2.length, q3.length]; exact of_decide_eq_true e4, fun p np => ?_⟩))
    refine hq p _ Z1 _ fps1 (I1.grow (Gr.own I1.zh np)) s1 (I1.gr.hh.free np) (I1.zh.free np) (fun j hj => ?_) upd_same (r2.append q3)
    obtain ⟨_, _, o, ho, _⟩ := I1.fp j p hj
    rw [np] at ho; cases ho
def eAddL (fa : EAF) (fb : EF) : EAF := fun env => (fa env).bind fun r => (fb r.2).bind fun d => (lstOf d.1).bind fun ys => R.when (decide (r.1.length + ys.length ≤ sizeLine)) (.ok (r.1 ++ ys, d.2))
theorem deo_add (ha : DEO X C a fa) (hb : DE X C b fb) : DEO X C (.BinOp a .Add b pos) (eAddL fa fb) := by
  obtain ⟨ta, h1, h2⟩ := ha.ex
  obtain ⟨tb, h3, h4⟩ := hb.ex
  refine ⟨_, pe_op op_addD h1 h3, fun σ Z0 B Z H env fps ds env' Q I hf hq => ?_⟩
  obtain ⟨⟨xs, env1⟩, e0, hf⟩ := R.of_bind hf
  obtain ⟨⟨d, env2⟩, e1, hf⟩ := R.of_bind hf
  obtain ⟨ys, e3, hf⟩ := R.of_bind hf
  obtain ⟨e4, hf⟩ := R.of_when hf
  cases hf
  have e3 := of_lstOf e3
  have e3 : d = .list ys := e3
  subst e3
  refine h2 σ Z0 B Z H env fps xs env1 _ I e0 fun p vs Z1 H1 fps1 I1 s1 nb nz nf hp r => ?_
  have I1' := I1.still1 nb nz nf hp
  refine h4 σ Z0 B _ H1 env1 fps1 _ env2 _ I1' e1 fun v Z2 H2 fps2 I2 s2 r2 => ?_
  have hp2 : H2 p = some (.lst vs) := I2.zh _ _ (s2 _ _ upd_same)
  cases r2 with
  | lst t q3 =>
    refine .inr (.inr (.inr ⟨_, _, _, _, rfl, rfl, hp2, I2.zh _ _ t, by rw [r.length, q3.length]; exact of_decide_eq_true e4, fun p' np => ?_⟩))
    refine hq p' _ Z2 _ fps2 (I2.grow (Gr.own I2.zh np)) (s1.trans ((same_upd nz).trans s2)) (I2.gr.hh.free np) (I2.zh.free np) (fun j hj => ?_) upd_same ((r.mono ((same_upd nz).trans s2)).append q3)
    obtain ⟨_, _, o, ho, _⟩ := I2.fp j p' hj
    rw [np] at ho; cases ho
end
theorem eAddName_ok {i : Nat} {fb : EF} {env e1 : Env} {ds0 xs ys : List D} (h : env[i]? = some (some (.list ds0))) (h1 : fb env = .ok (.list ys, e1)) (h2 : e1[i]? = some (some (.list xs))) (hz : xs.length + ys.length ≤ sizeLine) : eAddName i fb env = .ok (xs ++ ys, e1) := by
  have l0 : lstAt env i = .ok ds0 := by unfold lstAt; rw [h]
  have l1 : lstAt e1 i = .ok xs := by unfold lstAt; rw [h2]
  unfold eAddName
  rw [l0, R.bind_ok, h1, R.bind_ok]
  show R.bind (lstAt e1 i) _ = _
  rw [l1, R.bind_ok]
  show R.when (decide (xs.length + ys.length ≤ sizeLine)) _ = _
  rw [decide_eq_true hz, R.when_true]
theorem eAddL_ok {fa : EAF} {fb : EF} {env e1 e2 : Env} {xs ys : List D} (h : fa env = .ok (xs, e1)) (h1 : fb e1 = .ok (.list ys, e2)) (hz : xs.length + ys.length ≤ sizeLine) : eAddL fa fb env = .ok (xs ++ ys, e2) := by
  unfold eAddL
  rw [h, R.bind_ok]
  show R.bind (fb e1) _ = _
  rw [h1, R.bind_ok]
  show R.when (decide (xs.length + ys.length ≤ sizeLine)) _ = _
  rw [decide_eq_true hz, R.when_true]
theorem sApp_ok {i : Nat} {f : PF} {env : Env} {d : D} {ds : List D} (h : f env = .ok d) (h2 : env[i]? = some (some (.list ds))) (hz : ds.length < sizeLine) : sApp i f env = .ok (.nx, env.set i (some (.list (ds ++ [d])))) := by
  have l0 : lstAt env i = .ok ds := by unfold lstAt; rw [h2]
  unfold sApp
  rw [h, R.bindP_ok, l0, R.bindP_ok, decide_eq_true hz, R.when_true]
end Dz

set_option maxRecDepth 100000
set_option maxHeartbeats 2000000
namespace Dz
open PySem PySem.Spec PyProof.Rows L2
/-! ## (.., *xs, ..) -/
def aStar (f : PF) (g : AF) : AF := fun env => (f env).bind fun d => (itemsOf d).bind fun xs => (g env).bind fun ys => .ok (xs ++ ys)
theorem da_star {X : Cx} {us : List Nat} {e : Expr} {es : List Expr} {f : PF} {g : AF} {p : Pos} (h : DP X us e f) (h' : DA X us es g) (hs : starEach (.Starred e p :: es) X.env = (true, eval e X.env) :: starEach es X.env := by rfl) : DA X us (.Starred e p :: es) (aStar f g) := by
  obtain ⟨t, h1, h2⟩ := h.ex
  obtain ⟨u, h3, h4⟩ := h'.ex
  refine ⟨_, StX.pa_star h1 h3 hs, fun σ H Z env ds Q hz he hf hq => ?_⟩
  obtain ⟨d, e1, hf⟩ := R.of_bind hf
  obtain ⟨xs, e2, hf⟩ := R.of_bind hf
  obtain ⟨ys, e3, hf⟩ := R.of_bind hf
  cases hf
  refine h2 σ H Z env d _ hz he e1 fun v Z1 H1 g1 r1 => ?_
  unfold itemsOf at e2
  split at e2
  · cases e2
    cases r1 with
    | lst t q => exact ⟨_, _, rfl, .inr (.inl (.inl (g1.zh _ _ t))), h4 σ H1 Z1 env ys _ g1.zh (he.mono g1) e3 fun vs Z2 H2 g2 r2 => hq _ Z2 H2 (g1.trans g2) ((q.mono g2.zz).append r2)⟩
  · cases e2
    cases r1 with
    | tup t q => exact ⟨_, _, rfl, .inl (same_seqT g1.zh t), h4 σ H1 Z1 env ys _ g1.zh (he.mono g1) e3 fun vs Z2 H2 g2 r2 => hq _ Z2 H2 (g1.trans g2) ((q.mono g2.zz).append r2)⟩
  · cases e2
end Dz

set_option maxRecDepth 100000
set_option maxHeartbeats 2000000
namespace Dz
open PySem PySem.Spec PyProof.Rows L2
/-! ## a, b = a list -/
section
variable {prog : Program} {w : World} {A : Around} {E : Value → Shared → Prop} {s : Shared}
theorem draw_list {it t : Addr} {items : Array Value} (hne : t ≠ it) : ∀ (n i : Nat) (s : Shared) (Q : List Value → Shared → Prop), s.heap.IsListIter it t i → s.heap.IsList t items → i + n ≤ items.size →
    (∀ h', h'.IsListIter it t (i + n) → Heap.SameBut it s.heap h' → Q ((items.toList.drop i).take n) { s with heap := h' }) → wpAny (model prog w) A (draw (.ref it) n) Q E s
  | 0, i, s, Q, hit, _, _, hQ => by
    show wpAny _ _ (pure []) Q E s
    exact wpAny_pure (by simpa using hQ s.heap hit (Heap.SameBut.refl ..))
  | n + 1, i, s, Q, hit, ht, hle, hQ => by
    have hlt : i < items.size := by omega
    show wpAny _ _ (pyNext (.ref it) >>= _) Q E s
    refine wpAny_bind (wpAny_pyNext_list_item hit ht (x := items[i]) (by simp [hlt]) fun h₁ hit₁ hs₁ => ?_)
    refine wpAny_bind (wpAny_holding (draw_list hne n (i + 1) _ _ hit₁ (ht.extBut hs₁.extBut hne) (by omega) fun h₂ hit₂ hs₂ => wpAny_pure ?_))
    have hd : items.toList.drop i = items[i] :: items.toList.drop (i + 1) := by simp [List.drop_eq_getElem_cons, hlt]
    have := hQ h₂ (by rw [show i + (n + 1) = i + 1 + n by omega]; exact hit₂) (hs₁.trans hs₂)
    rw [hd, List.take_succ_cons] at this
    exact this
theorem unpackItems_list {t : Addr} {items : Array Value} {Q : List Value → Shared → Prop} (hh : A.handled = none) (ht : s.heap.IsList t items)
    (hQ : ∀ h', Heap.ExtBut s.heap.objs.size s.heap h' → Q items.toList { s with heap := h' }) : wpAny (model prog w) A (unpackItems (.ref t) items.size none) Q E s := by
  have hlt : t ≠ s.heap.objs.size := by obtain ⟨o, ho, _⟩ := ht; exact Nat.ne_of_lt (Heap.lt_size ho)
  unfold unpackItems
  refine wpAny_bind ?_
  · unfold notIterableAtAll
    refine wpAny_bind (wpAny_specialOf ht.typeIs PySem.F.slot_list_iter.lookup ?_)
    refine wpAny_pure ?_
    simp only [Bool.false_eq_true, if_false]
    refine wpAny_bind (wpAny_holding (wpAny_pyIter_list ht ?_))
    refine wpAny_bind (wpAny_holding (draw_list hlt items.size 0 _ _ ⟨_, Heap.get?_push_size _ rfl, rfl, rfl⟩ (ht.push _) (by omega) fun h₁ hit₁ hs₁ => ?_))
    have hall : List.take items.size (List.drop 0 items.toList) = items.toList := by
      rw [List.drop_zero]; exact List.take_of_length_le (by simp)
    rw [hall]
    rw [if_neg (by simp)]
    have ht₁ : h₁.IsList t items := (ht.push _).extBut hs₁.extBut hlt
    refine wpAny_bind (wpAny_holding (wpAny_pyNext_list_end hh hit₁ ht₁ (by simp) fun h₂ he₂ => ?_))
    simp only [Option.isSome_none, Bool.false_eq_true, if_false]
    refine wpAny_pure (hQ h₂ fun b o hb e => he₂ b o hb (hs₁.extBut b o hb (Heap.get?_push_of_some _ e)))
theorem unpack_list {t : Addr} {items : Array Value} {targets : List (Bool × (Value → Sem Unit))} {Q : Unit → Shared → Prop} (hh : A.handled = none) (ht : s.heap.IsList t items)
    (hn : targets.length = items.size) (hstar : targets.findIdx? (·.1) = none)
    (h : ∀ h', Heap.ExtBut s.heap.objs.size s.heap h' → wpAny (model prog w) A (assignInOrder (targets.map (·.2)) items.toList) Q E { s with heap := h' }) :
    wpAny (model prog w) A (unpack (.ref t) targets) Q E s := by
  unfold unpack
  rw [hn, hstar]
  exact wpAny_bind (wpAny_holding (unpackItems_list hh ht h))
theorem assign_Tuple_list {env : PySem.Env} {elts : List Expr} {x1} {pos : Pos} {t : Addr} {items : Array Value} {Q : Unit → Shared → Prop} (hh : A.handled = none) (ht : s.heap.IsList t items)
    (hn : (assignEach elts env).length = items.size) (hstar : (assignEach elts env).findIdx? (·.1) = none)
    (h : ∀ h', Heap.ExtBut s.heap.objs.size s.heap h' → wpAny (model prog w) A (assignInOrder ((assignEach elts env).map (·.2)) items.toList) Q E { s with heap := h' }) :
    wpAny (model prog w) A (assign (.Tuple elts x1 pos) env (.ref t)) Q E s := by
  rw [assign_Tuple]
  exact wpAny_bind (wpAny_standAt (unpack_list hh ht hn hstar h))
end
section
variable {X : Cx} {pos : Pos}
def gTupX (K : PySem.W.Frag) (n : Nat) (t : TGs) : TG := fun v σ H Q => ∃ a xs, v = .ref a ∧ (SqT K H a xs ∨ SqL K H a xs) ∧ xs.length = n ∧ t xs σ H Q
theorem pg_tupX {es : List Expr} {k : Nat} {t : TGs} {n : Nat} (hc : X.calm = true) (h : PGs X es t)
    (hn : (assignEach es X.env).length = n := by rfl) (hst : (assignEach es X.env).findIdx? (·.1) = none := by rfl) : PG X (.Tuple es k pos) (gTupX X.K n t) := by
  refine ⟨fun pins s σ H v u Q I r hw => ?_⟩
  obtain ⟨a, xs, e1, hq, hl, hw⟩ := hw
  subst e1
  cases r
  rcases hq with hq | hq
  · obtain ⟨its, rv, ht, hz⟩ := I.tuple hq
    refine assign_Tuple_tuple (I.ok.hd hc) ht (by simp [hn, ← hl, rv.length]) hst fun h' hx => ?_
    have I1 : Inv X pins σ H { s with heap := h' } := I.kept (t' := s.toks) fun b o e => hx b o (Nat.ne_of_lt (Heap.lt_size e)) e
    exact h.run pins _ σ H xs _ Q I1 (by simpa using rv) hw
  · obtain ⟨its, rv, ht, hz⟩ := I.list hq
    refine assign_Tuple_list (I.ok.hd hc) ht.isList (by simp [hn, ← hl, rv.length]) hst fun h' hx => ?_
    have I1 : Inv X pins σ H { s with heap := h' } := I.kept (t' := s.toks) fun b o e => hx b o (Nat.ne_of_lt (Heap.lt_size e)) e
    exact h.run pins _ σ H xs _ Q I1 (by simpa using rv) hw
def setTupX (n : Nat) (gs : List D → Env → R Env) : GF := fun d env => match d with
  | .tuple ds => R.when (decide (ds.length = n)) (gs ds env)
  | .list ds => R.when (decide (ds.length = n)) (gs ds env)
  | _ => .no
theorem dg_tupX {es : List Expr} {k n : Nat} {sl : List Nat} {gs : List D → Env → R Env} (hc : X.calm = true) (h : DGs X es sl gs) (hn : (assignEach es X.env).length = n := by rfl) (hst : (assignEach es X.env).findIdx? (·.1) = none := by rfl) : DG X (.Tuple es k pos) sl (setTupX n gs) := by
  obtain ⟨u, b1, b2⟩ := h.ex
  refine ⟨_, pg_tupX hc b1 hn hst, fun v d σ H Z env env' Q hz r hl he hq => ?_⟩
  unfold setTupX at he
  split at he
  · obtain ⟨h1, h2⟩ := R.of_when he
    cases r with
    | tup t q => exact ⟨_, _, rfl, .inl (same_seqT hz t), by rw [q.length]; exact of_decide_eq_true h1, b2 _ _ σ H Z env env' Q hz q hl h2 hq⟩
  · obtain ⟨h1, h2⟩ := R.of_when he
    cases r with
    | lst t q => exact ⟨_, _, rfl, .inr (.inl (.inl (hz _ _ t))), by rw [q.length]; exact of_decide_eq_true h1, b2 _ _ σ H Z env env' Q hz q hl h2 hq⟩
  · cases he
end
end Dz

set_option maxRecDepth 100000
set_option maxHeartbeats 2000000
namespace Dz
open PySem PySem.Spec PyProof.Rows L2
/-! ## {} as a value -/
theorem dp_dict0 {X : Cx} {us : List Nat} {pos : Pos} : DP X us (.Dict [] [] pos) (cC (.dict [])) := by
  refine ⟨_, pe_dnewK, fun σ H Z env d Q hz he hf hq => ?_⟩
  cases hf
  intro p np
  exact hq _ _ _ (Gr.new hz np) (.dK upd_same .nil)
end Dz

set_option maxRecDepth 100000
set_option maxHeartbeats 2000000
namespace Dz
open PySem PySem.Spec PyProof.Rows L2
/-! ## more plain lemmas -/
/-- a comprehension that draws, with one slot of its own -/
theorem lc_draw {α : Type} {fi : EIF} {fe : EF} {v : Nat} (E : D → Option D → Env) {ds : List D} (c : α → D) (Q : α → Prop) {s0 : D} {cs : List Int} {l x t : Int} (hz : ds.length ≤ sizeLine)
    (hi : fi (E s0 none) = .ok (ds, E (srcD cs l x t) none)) (hset : ∀ s d, setE v d (E s none) = .ok (E s (some d))) (hw : ∀ s o, wipeE (E s o) [v] = E s none) (hr : ∀ s s', restE (E s none) (E s' none) [v] = E s' none)
    (hfe : ∀ cs l x t d, d ∈ ds → ∃ (y : α) (cs' : List Int) (l' x' t' : Int), fe (E (srcD cs l x t) (some d)) = .ok (c y, E (srcD cs' l' x' t') (some d)) ∧ Q y) :
    ∃ (ys : List α) (cs' : List Int) (l' x' t' : Int), eLc fi [v] (setE v) eYes fe (E s0 none) = .ok (ys.map c, E (srcD cs' l' x' t') none) ∧ ys.length = ds.length ∧ ∀ y ∈ ys, Q y := by
  obtain ⟨zs, e', h1, h2, ys, cs2, l2, x2, t2, rfl, rfl, h3⟩ := eLc_ok (fi := fi) (env := E s0 none) (e0 := E (srcD cs l x t) none) (tgt := setE v) (ff := eYes) (fe := fe) (vs := [v]) (ds := ds) (P := fun done env => ∃ (ys : List α) (cs : List Int) (l x t : Int), env = E (srcD cs l x t) none ∧ done = ys.map c ∧ ∀ y ∈ ys, Q y) hi hz ⟨[], cs, l, x, t, hw _ _, rfl, fun _ h => (nomatch h)⟩
    (fun done env d hd hlt ⟨ys, cs, l, x, t, he, hr, h1⟩ => by
      subst he hr
      obtain ⟨y, cs2, l2, x2, t2, q1, q2⟩ := hfe cs l x t d hd
      refine ⟨E (srcD cs l x t) (some d), E (srcD cs l x t) (some d), c y, E (srcD cs2 l2 x2 t2) (some d), hset _ _, rfl, q1, ys ++ [y], cs2, l2, x2, t2, hw _ _, by simp, ?_⟩
      intro m hm
      rcases List.mem_append.mp hm with hm | hm
      · exact h1 m hm
      · obtain rfl : m = y := by simpa using hm
        exact q2)
  refine ⟨ys, cs2, l2, x2, t2, ?_, ?_, h3⟩
  · rw [h1, hr]
  · rw [← h2, List.length_map]
theorem gAdd_tup {a b : List D} (h : a.length + b.length ≤ sizeLine) : gAdd (.tuple a) (.tuple b) = .ok (.tuple (a ++ b)) := by
  show R.when _ _ = _
  rw [decide_eq_true h]
  rfl
theorem cOr_t {f g : Env → R Bool} {env : Env} (h : f env = .ok true) : cOr f g env = .ok true := by
  unfold cOr
  rw [h, R.bind_ok, if_pos rfl]
theorem cOr_fr {f g : Env → R Bool} {env : Env} {b : Bool} (h : f env = .ok false) (h2 : g env = .ok b) : cOr f g env = .ok b := by
  unfold cOr
  rw [h, R.bind_ok, if_neg Bool.false_ne_true, h2]
theorem cAndV_f {f g : PF} {env : Env} (h : f env = .ok (.bool false)) : cAndV f g env = .ok (.bool false) := by
  unfold cAndV
  rw [cTst_ok h, R.bind_ok]
  rfl
theorem cAndV_b {f g : PF} {env : Env} {a b : Bool} (h : f env = .ok (.bool a)) (h2 : g env = .ok (.bool b)) : cAndV f g env = .ok (.bool (a && b)) := by
  unfold cAndV
  rw [cTst_ok h, R.bind_ok]
  cases a
  · rfl
  · exact h2
theorem cOrV_b {f g : PF} {env : Env} {a b : Bool} (h : f env = .ok (.bool a)) (h2 : g env = .ok (.bool b)) : cOrV f g env = .ok (.bool (a || b)) := by
  unfold cOrV
  rw [cTst_ok h, R.bind_ok]
  cases a
  · exact h2
  · rfl
theorem cNotV_b {f : PF} {env : Env} {a : Bool} (h : f env = .ok (.bool a)) : cNotV f env = .ok (.bool (!a)) := by
  unfold cNotV
  rw [cTst_ok h, R.bind_ok]
theorem sSeq_rt {g g' : SF} {env e' : Env} {d : D} (h : g env = .ok (.rt d, e')) : sSeq g g' env = .ok (.rt d, e') := by
  unfold sSeq
  rw [h]
  rfl
theorem blsOf_mapF {α : Type} (f : α → Bool) : ∀ l : List α, blsOf (l.map fun a => PyData.bool (f a)) = some (l.map f)
  | [] => rfl
  | a :: l => by
    show (blsOf (l.map fun a => PyData.bool (f a))).map (f a :: ·) = _
    rw [blsOf_mapF f l]
    rfl
theorem gAll_map {α : Type} (f : α → Bool) (l : List α) : gAll [.list (l.map fun a => PyData.bool (f a))] = .ok (.bool (l.all f)) := by
  show (match blsOf (l.map fun a => PyData.bool (f a)) with | some ns => R.ok (PyData.bool (ns.all id)) | none => R.no) = _
  rw [blsOf_mapF]
  show R.ok (PyData.bool ((l.map f).all id)) = _
  rw [List.all_map]
  rfl
theorem gAny_map {α : Type} (f : α → Bool) (l : List α) : gAny [.list (l.map fun a => PyData.bool (f a))] = .ok (.bool (l.any f)) := by
  show (match blsOf (l.map fun a => PyData.bool (f a)) with | some ns => R.ok (PyData.bool (ns.any id)) | none => R.no) = _
  rw [blsOf_mapF]
  show R.ok (PyData.bool ((l.map f).any id)) = _
  rw [List.any_map]
  rfl
theorem canShow_shaped {d : D} (h : canShow d = true) : SeqAt.shaped d = true := by
  unfold canShow at h
  rw [Bool.and_eq_true, Bool.and_eq_true] at h
  exact h.1.1
theorem layAll_mem {l : List D} : PyData.canLayAll0 l = true → ∀ d ∈ l, d.canLay0 = true := by
  induction l with
  | nil => intro _ d hd; cases hd
  | cons a l ih =>
    intro hc d hd
    rw [PyData.canLayAll0, Bool.and_eq_true] at hc
    rcases List.mem_cons.mp hd with rfl | hd
    · exact hc.1
    · exact ih hc.2 d hd
theorem depAll_mem {l : List D} {n : Nat} : PyData.depthAll l ≤ n → ∀ d ∈ l, d.depth ≤ n := by
  induction l with
  | nil => intro _ d hd; cases hd
  | cons a l ih =>
    intro hc d hd
    rw [PyData.depthAll] at hc
    rcases List.mem_cons.mp hd with rfl | hd
    · exact Nat.le_trans (Nat.le_max_left _ _) hc
    · exact ih (Nat.le_trans (Nat.le_max_right _ _) hc) d hd
theorem filt_shaped {ds : List D} (p : D → Bool) (h : SeqAt.shaped (.tuple ds) = true) : SeqAt.shaped (.list (ds.filter p)) = true := by
  unfold SeqAt.shaped at h ⊢
  rw [Bool.and_eq_true, PyData.canLay0, PyData.depth, decide_eq_true_eq] at h
  have h1 := canLayAll_of (ds := ds.filter p) fun d hd => layAll_mem h.1 d (List.mem_filter.mp hd).1
  have h2 := depthAll_of (ds := ds.filter p) (n := PyData.depthAll ds) fun d hd => depAll_mem (Nat.le_refl _) d (List.mem_filter.mp hd).1
  rw [PyData.canLay0, h1, PyData.depth, decide_eq_true (by omega)]
  rfl
theorem gNe_empty {ds : List D} (h : SeqAt.shaped (.list ds) = true) : gNe (.list ds) (.list []) = .ok (.bool (!ds.isEmpty)) := by
  show R.when (SeqAt.shaped (.list ds) && SeqAt.shaped (.list [])) (R.ok (PyData.bool (!PyData.eqv (.list ds) (.list [])))) = _
  rw [h]
  cases ds with
  | nil => simp [PyData.eqv, PyData.eqvAll]; rfl
  | cons a l => simp [PyData.eqv, PyData.eqvAll]; rfl
theorem gEq_empty {ds : List D} (h : SeqAt.shaped (.list ds) = true) : gEq (.list ds) (.list []) = .ok (.bool ds.isEmpty) := by
  show R.when (SeqAt.shaped (.list ds) && SeqAt.shaped (.list [])) (R.ok (PyData.bool (PyData.eqv (.list ds) (.list [])))) = _
  rw [h]
  cases ds with
  | nil => simp [PyData.eqv, PyData.eqvAll]; rfl
  | cons a l => simp [PyData.eqv, PyData.eqvAll]; rfl
/-- both parts of two tuples behind each other -/
theorem shaped_app {a b : List D} (h : SeqAt.shaped (.tuple [.tuple a, .tuple b]) = true) : SeqAt.shaped (.tuple (a ++ b)) = true := by
  unfold SeqAt.shaped at h ⊢
  rw [Bool.and_eq_true, PyData.canLay0, PyData.depth, decide_eq_true_eq] at h
  have ha := layAll_mem h.1 (.tuple a) (by simp)
  have hb := layAll_mem h.1 (.tuple b) (by simp)
  have da := depAll_mem (Nat.le_refl _) (.tuple a) (show PyData.tuple a ∈ [PyData.tuple a, .tuple b] by simp)
  have db := depAll_mem (Nat.le_refl _) (.tuple b) (show PyData.tuple b ∈ [PyData.tuple a, .tuple b] by simp)
  rw [PyData.canLay0] at ha hb
  rw [PyData.depth] at da db
  have h1 := canLayAll_of (ds := a ++ b) fun d hd => (List.mem_append.mp hd).elim (layAll_mem ha d) (layAll_mem hb d)
  have h2 := depthAll_of (ds := a ++ b) (n := PyData.depthAll [PyData.tuple a, .tuple b]) fun d hd => (List.mem_append.mp hd).elim (depAll_mem (by omega) d) (depAll_mem (by omega) d)
  rw [PyData.canLay0, h1, PyData.depth, decide_eq_true (by omega)]
  rfl
theorem gSum_nats (f : Int → Nat) (ns : List Int) : gSumX [.list (ns.map fun n => PyData.int (f n : Nat))] = .ok (.int ((ns.map f).sum : Nat)) := by
  have e : (ns.map fun n => PyData.int ((f n : Nat) : Int)) = (ns.map fun n => ((f n : Nat) : Int)).map PyData.int := by
    rw [List.map_map]
    rfl
  rw [e]
  show (match intsOf ((ns.map fun n => ((f n : Nat) : Int)).map PyData.int) with | some ms => R.ok (PyData.int ms.sum) | none => R.no) = _
  rw [intsOf_map]
  show R.ok (PyData.int (ns.map fun n => ((f n : Nat) : Int)).sum) = _
  have : ∀ ns : List Int, (ns.map fun n => ((f n : Nat) : Int)).sum = (((ns.map f).sum : Nat) : Int) := fun ns => by
    induction ns with
    | nil => rfl
    | cons a l ih => rw [List.map_cons, List.sum_cons, ih, List.map_cons, List.sum_cons]; omega
  rw [this]
end Dz

set_option maxRecDepth 100000
set_option maxHeartbeats 2000000
namespace Dz
open PySem PySem.Spec PyProof.Rows L2
/-! ## repr({}) -/
def rRepr0 (K : PySem.W.Frag) : List V → Hp → VK → Prop := fun xs H Q => ∃ a, xs = [.ref a] ∧ (H a = some (.dK []) ∨ H a = some (.dT [])) ∧ Q (.str "{}") H
theorem reads_dict0 {X : Cx} {pins : List (Addr × Obj)} {σ : L2.St} {H : Hp} {s : Shared} {a : Addr} (I : Inv X pins σ H s) (h : H a = some (.dK []) ∨ H a = some (.dT [])) : ∃ as, Reads s.heap (.ref a) (.dict []) as ∧ sysModules ∉ as := by
  have key : (a == sysModules) = false ∧ ∃ o ep, s.heap.get? a = some o ∧ o.cls = .type "dict" ∧ o.data = .dict #[] ep := by
    rcases h with h | h
    · obtain ⟨_, ha, vs, r, o, es, ep, h1, h2, h3, _, h5, _⟩ := dk_of I.hok h
      refine ⟨ha, o, ep, h1, h2.1, ?_⟩
      cases r
      have : es.toList = [] := by cases hq : es.toList with
        | nil => rfl
        | cons a l => rw [hq] at h5; cases h5
      rw [h3]
      congr 1
      exact Array.toList_inj.mp this
    · obtain ⟨_, ha, vs, r, o, es, ep, h1, h2, h3, h4, _⟩ := dt_of I.hok h
      refine ⟨ha, o, ep, h1, h2.1, ?_⟩
      cases r
      rw [h3]
      congr 1
      exact Array.toList_inj.mp h4
  obtain ⟨ha, o, ep, h1, h2, h3⟩ := key
  refine ⟨[a], Reads.dict (as := []) (bs := []) h1 h2 h3 .nil .nil, fun hm => ?_⟩
  obtain rfl : sysModules = a := by simpa using hm
  simp at ha
theorem cr_repr0 {X : Cx} {k : Nat} (hr : RmG k X.A) : CallR X (.builtin "repr") (rRepr0 X.K) := by
  intro pins s σ H xs us Q I r h
  obtain ⟨a, rfl, hd, q⟩ := h
  cases r with
  | cons rx rr =>
    cases rr
    cases rx
    obtain ⟨as, hrd, hns⟩ := reads_dict0 I hd
    have hun := hr.un
    exact repr_of_reads' hrd (by decide +kernel) (fun _ => hns) hr.gd (by show _ + (PyData.depth (.dict []) + 1) < _; have : PyData.depth (.dict []) ≤ 2 := by decide +kernel
                                                                          omega) (fun _ _ e => e) (fun h' u tk hk => ⟨.str _, H, I.kept hk, ⟨_, rfl⟩, q⟩) (by rw [sizeLine_eq]; decide +kernel)
def gReprD : List D → R D
  | [.dict []] => .ok (.str "{}")
  | as => gRepr as
def rReprD (K : PySem.W.Frag) : List V → Hp → VK → Prop := fun xs H Q => rRepr K xs H Q ∨ rRepr0 K xs H Q
theorem cr_reprD {X : Cx} {k : Nat} (hr : RmG k X.A) : CallR X (.builtin "repr") (rReprD X.K) := (cr_repr hr).or (cr_repr0 hr)
theorem v_reprD {K : PySem.W.Frag} : OpN K (rReprD K) gReprD := fun xs H Z as c Q hz r h hq => by
  unfold gReprD at h
  split at h
  · cases h
    cases r with
    | cons r t =>
      cases t
      cases r with
      | dK e q =>
        cases q
        exact .inr ⟨_, rfl, .inl (hz _ _ e), hq _ _ _ (Gr.refl hz) (.str _)⟩
      | dT e n0 q =>
        cases q
        exact .inr ⟨_, rfl, .inr (hz _ _ e), hq _ _ _ (Gr.refl hz) (.str _)⟩
  · exact .inl (v_repr xs H Z as c Q hz r h hq)
def CanSh (d : D) : Prop := canShow d = true ∨ d = .dict []
theorem gReprD_ok {d : D} (h : CanSh d) : gReprD [d] = .ok (.str d.shown) := by
  rcases h with h | rfl
  · unfold gReprD
    split
    · rename_i e
      injection e with e _
      subst e
      exact absurd h (by decide +kernel)
    · exact gRepr_ok h
  · exact congrArg (fun s => R.ok (PyData.str s)) (by decide +kernel)
theorem same_reprD {f g : PF} {env : Env} {d : D} (h1 : f env = .ok d) (h2 : g env = .ok d) (hc : CanSh d) : cTst (cBin gNe (cCall gReprD (aCons f aNil)) (cCall gReprD (aCons g aNil))) env = .ok false :=
  cTst_ok (cBin_ok (cCall1_ok h1 (gReprD_ok hc)) (cCall1_ok h2 (gReprD_ok hc)) (by rw [gNe_str]; simp))
end Dz

set_option maxRecDepth 100000
set_option maxHeartbeats 2000000
namespace Dz
open PySem PySem.Spec PyProof.Rows L2
/-! ## more plain lemmas -/
/-- a loop that returns v where q fails -/
theorem forL_all {α : Type} {gt : GF} {g : SF} {P : Env → Prop} {v : D} (c : α → D) (q : α → Bool) : ∀ {l : List α}, (∀ x ∈ l, ∀ e, P e → ∃ e1 e2, gt (c x) e = .ok e1 ∧ (q x = true → g e1 = .ok (.nx, e2) ∧ P e2) ∧ (q x = false → g e1 = .ok (.rt v, e2))) → ∀ e, P e →
    ∃ e', forL gt g (l.map c) e = .ok (if l.all q = true then .nx else .rt v, e') ∧ (l.all q = true → P e')
  | [], _, e, hp => ⟨e, rfl, fun _ => hp⟩
  | x :: l, h, e, hp => by
    obtain ⟨e1, e2, h1, h2, h3⟩ := h x List.mem_cons_self e hp
    rw [List.map_cons, forL, h1, R.bindP_ok, List.all_cons]
    cases hq : q x with
    | true =>
      obtain ⟨h4, h5⟩ := h2 hq
      obtain ⟨e', h6, h7⟩ := forL_all c q (fun y hy => h y (List.mem_cons_of_mem _ hy)) e2 h5
      refine ⟨e', ?_, h7⟩
      rw [h4, R.bind_ok]
      exact h6
    | false =>
      refine ⟨e2, ?_, fun hh => by cases hh⟩
      rw [h3 hq, R.bind_ok]
      rfl
theorem eIf_t {c : ETF} {f g : EF} {env e1 : Env} {r : R (D × Env)} (h : c env = .ok (true, e1)) (h2 : f e1 = r) : eIf c f g env = r := by
  unfold eIf
  rw [h, R.bind_ok, if_pos rfl]
  exact h2
theorem eIf_f {c : ETF} {f g : EF} {env e1 : Env} {r : R (D × Env)} (h : c env = .ok (false, e1)) (h2 : g e1 = r) : eIf c f g env = r := by
  unfold eIf
  rw [h, R.bind_ok, if_neg Bool.false_ne_true]
  exact h2
theorem forL_foldN {N : Nat} {gt : GF} {g : SF} {P : List D → Env → Prop} : ∀ {ds done : List D} {env : Env}, done.length + ds.length ≤ N → P done env → (∀ done d env, d ∈ ds → done.length < N → P done env → ∃ e1 e2, gt d env = .ok e1 ∧ (g e1 = .ok (.nx, e2) ∨ g e1 = .ok (.ct, e2)) ∧ P (done ++ [d]) e2) →
    ∃ e', forL gt g ds env = .ok (.nx, e') ∧ P (done ++ ds) e'
  | [], done, env, _, hp, _ => ⟨env, rfl, by rw [List.append_nil]; exact hp⟩
  | d :: ds, done, env, hN, hp, h => by
    rw [List.length_cons] at hN
    obtain ⟨e1, e2, h1, h2, h3⟩ := h done d env List.mem_cons_self (by omega) hp
    obtain ⟨e', h4, h5⟩ := forL_foldN (by rw [List.length_append, List.length_singleton]; omega) h3 fun done d env hd => h done d env (List.mem_cons_of_mem _ hd)
    refine ⟨e', ?_, by rw [List.append_assoc] at h5; exact h5⟩
    rw [forL, h1, R.bindP_ok]
    rcases h2 with h2 | h2
    · rw [h2, R.bind_ok]; exact h4
    · rw [h2, R.bind_ok]; exact h4
/-- a loop over a list, with what stands behind each part of it -/
theorem forL_state {α S : Type} {gt : GF} {g : SF} (c : α → D) (f : S → α → S) (P : S → Env → Prop) : ∀ {l : List α} {s : S} {env : Env}, P s env → (∀ x ∈ l, ∀ s env, P s env → ∃ e1 e2, gt (c x) env = .ok e1 ∧ g e1 = .ok (.nx, e2) ∧ P (f s x) e2) →
    ∃ e', forL gt g (l.map c) env = .ok (.nx, e') ∧ P (l.foldl f s) e'
  | [], s, env, hp, _ => ⟨env, rfl, hp⟩
  | x :: l, s, env, hp, h => by
    obtain ⟨e1, e2, h1, h2, h3⟩ := h x List.mem_cons_self s env hp
    obtain ⟨e', h4, h5⟩ := forL_state c f P h3 fun y hy => h y (List.mem_cons_of_mem _ hy)
    refine ⟨e', ?_, h5⟩
    rw [List.map_cons, forL, h1, R.bindP_ok, h2, R.bind_ok]
    exact h4
theorem cFn3_ok {F : List D → R D} {f g h : PF} {env : Env} {a b c d : D} (h1 : f env = .ok a) (h2 : g env = .ok b) (h3 : h env = .ok c) (h4 : F [a, b, c] = .ok d) : cFn 3 F (aCons f (aCons g (aCons h aNil))) env = .ok d :=
  cFn_ok (ds := [a, b, c]) (by unfold aCons aNil; rw [h1, R.bind_ok, h2, R.bind_ok, h3]; rfl) rfl h4
theorem gMulN (a b : Nat) (h : a < 2 ^ 60) : gMul (.int (a : Int)) (.int (b : Int)) = .ok (.int ((a * b : Nat) : Int)) := by
  show gMulW (.int (a : Int)) (.int (b : Int)) = _
  rw [gMulW_of (.inl ⟨by omega, by omega⟩), Int.natCast_mul]
theorem gMulN' (a b : Nat) (h : b < 2 ^ 60) : gMul (.int (a : Int)) (.int (b : Int)) = .ok (.int ((a * b : Nat) : Int)) := by
  show gMulW (.int (a : Int)) (.int (b : Int)) = _
  rw [gMulW_of (.inr ⟨by omega, by omega⟩), Int.natCast_mul]
theorem wD1 {f : PF} {env : Env} {a : Int} (h : f env = .ok (.int a)) : cTup (aCons f aNil) env = .ok (wD [a]) := by
  unfold cTup aCons aNil
  rw [h]
  rfl
theorem tab_ok {ls : List Nat} {i : Nat} (h : i < ls.length) : gIx (.list (ls.map fun (n : Nat) => PyData.int (n : Int))) (.int (i : Nat)) = .ok (.int (ls.getD i 0 : Nat)) := by
  have e : atI (ls.map fun (n : Nat) => PyData.int (n : Int)) (i : Int) = some (.int (ls.getD i 0 : Nat)) := by
    unfold atI ixN
    rw [if_pos (by omega)]
    simp [h]
  show (match atI (ls.map fun (n : Nat) => PyData.int (n : Int)) (i : Int) with | some d => R.ok d | none => .no) = _
  rw [e]
theorem gIx_list0 {ds : List D} {r : Nat} (hr : r < ds.length) : gIx (.list ds) (.int (r : Nat)) = .ok ds[r] := by
  have e : atI ds (r : Int) = some ds[r] := by
    unfold atI ixN
    rw [if_pos (by omega)]
    simp [hr]
  show (match atI ds (r : Int) with | some d => R.ok d | none => .no) = _
  rw [e]
theorem shaped_ws (ws : List (List Int)) : SeqAt.shaped (.list (ws.map wD)) = true := by
  have h1 := canLayAll_of (ds := ws.map wD) fun d hd => by
    obtain ⟨w, _, rfl⟩ := List.mem_map.mp hd
    exact canLay_ints w
  have h2 := depthAll_of (ds := ws.map wD) (n := 2) fun d hd => by
    obtain ⟨w, _, rfl⟩ := List.mem_map.mp hd
    show PyData.depthAll (w.map PyData.int) + 1 ≤ 2
    rw [Dz.depth_ints]
    decide
  unfold SeqAt.shaped
  rw [PyData.canLay0, h1, PyData.depth, decide_eq_true (by omega)]
  rfl
theorem shaped_ints (ns : List Int) : SeqAt.shaped (.list (ns.map PyData.int)) = true := by
  unfold SeqAt.shaped
  rw [PyData.canLay0, canLay_ints, PyData.depth, Dz.depth_ints]
  rfl
theorem shaped_nats (ns : List Nat) : SeqAt.shaped (.list (ns.map fun (n : Nat) => PyData.int (n : Int))) = true := by
  have : ns.map (fun (n : Nat) => PyData.int (n : Int)) = (ns.map fun (n : Nat) => (n : Int)).map PyData.int := by rw [List.map_map]; rfl
  rw [this]
  exact shaped_ints _
theorem last_cut {env : Env} {i : Nat} {w : List Int} (h : cV i env = .ok (wD w)) : cSl (cV i) cNoPart (cPart (cUn gNeg (cC (.int 1)))) env = .ok (wD (w.take (w.length - 1))) := by
  unfold cSl
  rw [h, R.bind_ok]
  show R.bind (.ok (none : Option Int)) _ = _
  rw [R.bind_ok]
  have : cPart (cUn gNeg (cC (.int 1))) env = .ok (some (-1)) := rfl
  rw [this, R.bind_ok]
  unfold wD gSl
  dsimp only
  unfold Dz.cutD
  have e : HT.sIx w.length w.length (some (-1)) = w.length - 1 := by
    show (if (-1 : Int) < 0 then (-1 + (w.length : Int)).toNat else min (-1 : Int).toNat w.length) = _
    rw [if_pos (by decide)]
    omega
  rw [HT.sIx_none, List.drop_zero, Nat.sub_zero, List.length_map, e, List.map_take]
theorem rev_ok {f : PF} {env : Env} {w : List Int} (h : f env = .ok (wD w)) : cUn gRev f env = .ok (wD w.reverse) := by
  refine cUn_ok h ?_
  show R.ok (PyData.tuple (w.map PyData.int).reverse) = _
  rw [← List.map_reverse]
  rfl
end Dz

set_option maxRecDepth 100000
set_option maxHeartbeats 2000000
namespace Dz
open PySem PySem.Spec PyProof.Rows L2 HT
/-! ## range(i, j, c) -/
def rg3D (lo c : Int) (n : Nat) : List D := (List.range n).map fun (i : Nat) => .int (lo + (i : Int) * c)
def rg3B (i j c : Int) : Bool := decide (c ≠ 0) && (decide (c.natAbs < 1073741824) && (Builtin.Range.small i j c && decide (Builtin.Range.rangeSize i j c = ((Builtin.Range.rangeSize i j c).toNat : Int))))
def cRng3 (f g k : PF) : IF := fun env => (f env).bind fun d => (g env).bind fun d' => (k env).bind fun d'' => match d, d', d'' with
  | .int i, .int j, .int c => R.when (rg3B i j c) (.ok (rg3D i c (Builtin.Range.rangeSize i j c).toNat))
  | _, _, _ => .no
theorem itok_rng3 {K : PySem.W.Frag} {Z : Hp} {lo c : Int} {n : Nat} : ItOk K (Itc lo c n) Z (rg3D lo c n) where
  go := fun i H hi e => by show i < n; simpa [rg3D] using hi
  stop := fun H e => by show n ≤ (rg3D lo c n).length; simp [rg3D]
  yld := fun i H x H' Z1 hi e e' y => by
    obtain ⟨rfl, rfl⟩ := y
    exact ⟨Z1, _, Gr.refl e', by
      have hi' : i < n := by simpa [rg3D] using hi
      unfold rg3D
      rw [List.getElem?_map, List.getElem?_range hi']
      rfl, .int _⟩
section
variable {X : Cx} {us : List Nat} {tg e e2 e3 : Expr} {f g k : PF} {p pos : Pos}
theorem di_rng3 (hg : Gl X "range") (hm : X.mg "range" = none) (h : DP X us e f) (h' : DP X us e2 g) (h'' : DP X us e3 k) (hs : starEach [e, e2, e3] X.env = (false, eval e X.env) :: starEach [e2, e3] X.env := by rfl) (hs1 : starEach [e2, e3] X.env = (false, eval e2 X.env) :: starEach [e3] X.env := by rfl) (hs2 : starEach [e3] X.env = (false, eval e3 X.env) :: starEach [] X.env := by rfl)
    (hpl : (backTo pos (starEach [e2, e3] X.env)).any (·.1) = false := by rfl) : DI X us tg (.Call (.Name "range" p) [e, e2, e3] [] pos) (cRng3 f g k) := by
  obtain ⟨u, h1, h2⟩ := (da_cons h (da_cons h' (da_cons h'' da_nil hs2) hs1) hs).ex
  refine ⟨_, pi_range3 hg hm h1 hs hpl, fun σ H Z env ds Q hz he hf hq => ?_⟩
  obtain ⟨d, e1, e3⟩ := R.of_bind hf
  obtain ⟨d', e4, e5⟩ := R.of_bind e3
  obtain ⟨d'', e6, e7⟩ := R.of_bind e5
  refine h2 σ H Z env [d, d', d''] _ hz he (by simp [aCons, aNil, e1, e4, e6]) fun vs Z1 H1 g r => ?_
  split at e7
  · obtain ⟨e8, e9⟩ := R.of_when e7
    cases e9
    unfold rg3B at e8
    rw [Bool.and_eq_true, Bool.and_eq_true, Bool.and_eq_true, decide_eq_true_eq, decide_eq_true_eq, decide_eq_true_eq] at e8
    cases r with
    | cons r rr =>
      cases rr with
      | cons r' rr =>
        cases rr with
        | cons r'' rr =>
          cases rr
          cases r
          cases r'
          cases r''
          exact ⟨_, _, _, _, rfl, e8, hq _ Z1 H1 g itok_rng3⟩
  · cases e7
end
/-! ## xs[::2] of a tuple -/
def ev2 {α : Type} : List α → List α
  | [] => []
  | [a] => [a]
  | a :: _ :: l => a :: ev2 l
theorem ev2_len {α : Type} : ∀ l : List α, (ev2 l).length = (l.length + 1) / 2
  | [] => by simp [ev2]
  | [_] => by simp [ev2]
  | a :: b :: l => by
    rw [ev2, List.length_cons, ev2_len l, List.length_cons, List.length_cons]
    omega
theorem ev2_map {α β : Type} (f : α → β) : ∀ l : List α, ev2 (l.map f) = (ev2 l).map f
  | [] => rfl
  | [_] => rfl
  | a :: b :: l => by
    rw [List.map_cons, List.map_cons, ev2, ev2, List.map_cons, ev2_map f l]
theorem ev2_pick {α : Type} : ∀ (l : List α) (f : Nat → Option α) (n : Nat), (l.length + 1) / 2 = n → (∀ i, i < n → f i = l[2 * i]?) → (List.range n).filterMap f = ev2 l
  | [], f, n, hn, h => by
    obtain rfl : n = 0 := by rw [← hn]; simp
    rfl
  | [a], f, n, hn, h => by
    obtain rfl : n = 1 := by rw [← hn]; simp
    have h0 : f 0 = some a := h 0 (by decide)
    rw [List.range_succ_eq_map, List.filterMap_cons, h0]
    rfl
  | a :: b :: l, f, n, hn, h => by
    have hn' : n = (l.length + 1) / 2 + 1 := by
      rw [← hn, List.length_cons, List.length_cons]
      omega
    subst hn'
    have h0 : f 0 = some a := h 0 (Nat.succ_pos _)
    rw [List.range_succ_eq_map, List.filterMap_cons, h0, List.filterMap_map]
    refine congrArg (a :: ·) (ev2_pick l (f ∘ Nat.succ) _ rfl fun i hi => ?_)
    have := h (i + 1) (Nat.succ_lt_succ hi)
    rw [show 2 * (i + 1) = (2 * i + 1) + 1 by omega] at this
    exact this
section
variable {prog : Program} {w : World} {A : Around} {E : Value → Shared → Prop} {s : Shared}
theorem adjust_2 (n : Nat) : Builtin.Slice.sliceAdjust none none 2 (n : Int) = (0, (n : Int)) := rfl
theorem places_2 (n : Nat) : Builtin.Slice.slicePlaces 0 (n : Int) 2 = (n + 1) / 2 := by
  unfold Builtin.Slice.slicePlaces
  rw [if_pos (by decide)]
  split <;> omega
theorem sliceApplied_2 {sl : Addr} {t : Tok} {n : Nat} {Q : Int × Int × Nat → Shared → Prop} (hs : s.heap.IsSliceOf sl .none .none (.int 2 t)) (h : Q (0, 2, (n + 1) / 2) s) : wpAny (model prog w) A (Builtin.Slice.sliceApplied (.ref sl) (pure (n : Int))) Q E s := by
  obtain ⟨os, hos, hcs, hds⟩ := id hs
  unfold Builtin.Slice.sliceApplied Builtin.Slice.sliceFields
  refine wpAny_bind (wpAny_bind (wpAny_field hos hds (x := .none) rfl (wpAny_bind (wpAny_field hos hds (x := .none) rfl (wpAny_bind (wpAny_field hos hds (x := .int 2 t) rfl (wpAny_pure ?_)))))))
  refine wpAny_bind (slicePart_int ?_)
  show wpAny _ _ (if ((2 : Int) == 0) = true then _ else _) _ _ s
  rw [if_neg (by decide)]
  refine wpAny_bind (slicePart_none (wpAny_bind (slicePart_none (wpAny_bind (wpAny_pure ?_)))))
  show wpAny _ _ (match Builtin.Slice.sliceAdjust none none 2 (n : Int) with | (lo, hi) => pure (lo, (2 : Int), Builtin.Slice.slicePlaces lo hi 2)) _ _ s
  rw [adjust_2 n]
  show wpAny _ _ (pure ((0 : Int), (2 : Int), Builtin.Slice.slicePlaces 0 (n : Int) 2)) _ _ s
  rw [places_2]
  exact wpAny_pure h
theorem pick_2 (xs : Array Value) : ((List.range ((xs.size + 1) / 2)).filterMap fun (k : Nat) => xs[((0 : Int) + (k : Int) * 2).toNat]?).toArray = (ev2 xs.toList).toArray := by
  congr 1
  refine ev2_pick xs.toList _ _ (by simp) fun i hi => ?_
  have : ((0 : Int) + (i : Int) * 2).toNat = 2 * i := by omega
  rw [this, ← Array.getElem?_toList]
theorem getItem_tuple_2 {t sl : Addr} {items : Array Value} {u : Tok} {Q : Value → Shared → Prop} (ht : IsTup s.heap t items) (hs : s.heap.IsSliceOf sl .none .none (.int 2 u))
    (h : Q (.ref s.heap.objs.size) { s with heap := s.heap.push { cls := .type "tuple", data := .seq (ev2 items.toList).toArray } })
    (hsz : items.size ≤ sizeLine) : wpAny (model prog w) A (getItem (.ref t) (.ref sl)) Q E s := by
  have htake : sizeOk (.seq (ev2 items.toList).toArray) := by
    show (ev2 items.toList).toArray.size ≤ sizeLine
    rw [List.size_toArray, ev2_len, Array.length_toList]
    omega
  obtain ⟨os, hos, hcs, hds⟩ := id hs
  have hTs : s.TypeIs (.ref sl) "slice" := ⟨os, hos, hcs⟩
  unfold getItem
  try with_reducible refine wpAny_holding ?_
  first | refine wpAny_bind (wpAny_pure ?_) | skip
  refine wpAny_bind (wpAny_sequenceKey ht.typeIs (by decide) ?_)
  refine wpAny_bind (wpAny_callSpecial?_slot (name := Str.ofString "__getitem__") ht.typeIs PyProof.Rows.slot_tuple_getitem
    (wpAny_call_entry PyProof.Rows.slot_tuple_getitem ht.typeIs entry_tuple_getitem ?_ (args_tuple_getitem _ _)))
  show wpAny _ _ (Builtin.Tuple.tupleItemsOf (.ref t) >>= _) _ _ s
  refine wpAny_bind (tupleItemsOf_ ht ?_)
  refine wpAny_bind (wpAny_typeOf hTs ?_)
  rw [if_pos (by decide)]
  refine wpAny_bind (sliceApplied_2 hs ?_)
  show wpAny _ _ (if ((0 : Int) == 0 && (2 : Int) == 1 && (items.size + 1) / 2 == items.size) = true then _ else _) _ _ s
  rw [if_neg (by simp), pick_2]
  first
    | exact wpAny_bind (m := Builtin.Tuple.tupleExact _) (wpAny_newObj_type (wpAny_pure ⟨_, rfl, wpAny_pure h⟩) htake)
    | exact wpAny_bind (m := Builtin.Tuple.tupleExact _) (wpAny_newObj_type (wpAny_bind (wpAny_pure (wpAny_pure ⟨_, rfl, wpAny_pure h⟩))) htake)
    | exact wpAny_bind (wpAny_bind (m := Builtin.Tuple.tupleExact _) (wpAny_newObj_type (wpAny_pure (wpAny_pure ⟨_, rfl, wpAny_pure h⟩)) htake))
    | exact wpAny_bind (wpAny_bind (m := Builtin.Tuple.tupleExact _) (wpAny_newObj_type (wpAny_pure ⟨_, rfl, wpAny_pure h⟩) htake))
end
theorem vals_ev2 : ∀ {vs : List V} {us : List Value}, Vals vs us → Vals (ev2 vs) (ev2 us)
  | _, _, .nil => .nil
  | _, _, .cons r .nil => .cons r .nil
  | _, _, .cons r (.cons _ t) => .cons r (vals_ev2 t)
theorem reps_ev2 {K : PySem.W.Frag} {Z : Hp} : ∀ {vs : List V} {ds : List D}, Reps K Z vs ds → Reps K Z (ev2 vs) (ev2 ds)
  | _, _, .nil => .nil
  | _, _, .cons r .nil => .cons r .nil
  | _, _, .cons r (.cons _ t) => .cons r (reps_ev2 t)
def tSt2 (K : PySem.W.Frag) (te : TE) : TE := fun σ H Q => te σ H fun x H1 => ∃ a xs, x = .ref a ∧ SqT K H1 a xs ∧ ∀ p, H1 p = none → Q (.ref p) (upd H1 p (.tup (ev2 xs)))
theorem pe_st2 {X : Cx} {e : Expr} {te : TE} {k : Nat} {p1 p3 pos : Pos} (he : PE X e te) : PE X (.Subscript e (.Slice none none (some (.Constant (.int 2) k p1)) p3) pos) (tSt2 X.K te) := by
  refine ⟨fun pins s σ H Q I h => ?_⟩
  refine Subscript_ (thn (he.run pins s σ H _ I h) fun v s1 ⟨x, H1, I1, r1, q1⟩ => ?_)
  have hst : PO X (some (.Constant (.int 2) k p1)) (tPart (tC (.int 2))) := po_some pe_int
  refine wpAny_Slice (thn (po_none.run pins s1 σ H1 (fun o H2 => o = none ∧ H2 = H1) I1 ⟨rfl, rfl⟩) fun vl s2 ⟨l, H2, I2, pl, el, e2⟩ => ?_)
  subst el e2
  refine thn (po_none.run pins s2 σ H2 (fun o H3 => o = none ∧ H3 = H2) I2 ⟨rfl, rfl⟩) fun vu s3 ⟨u, H3, I3, pu, eu, e3⟩ => ?_
  subst eu e3
  refine thn (hst.run pins s3 σ H3 (fun o H4 => o = some 2 ∧ H4 = H3) I3 ⟨2, rfl, rfl, rfl⟩) fun vs s4 ⟨o, H4, I4, ps, eo, e4⟩ => ?_
  subst eo e4
  have I5 : Inv X pins σ H4 { s4 with heap := s4.heap.push { cls := .type "slice", data := .fields #[vl, vu, vs] } } := I4.kept (t' := s4.toks) fun b ob q => Heap.get?_push_of_some _ q
  obtain ⟨a, xs, ex, hx, q⟩ := q1
  subst ex
  cases r1
  cases pl
  cases pu
  obtain ⟨its, r, ht, hz⟩ := I5.tuple hx
  have hlen := r.length
  cases ps with
  | int i u =>
    show wpAny (model X.prog X.w) X.A (subscriptTail e (.Slice none none (some (.Constant (.int 2) k p1)) p3) (.ref a) (.ref s4.heap.objs.size)) (EP X pins σ Q) X.xe { s4 with heap := s4.heap.push { cls := .type "slice", data := .fields #[.none, .none, .int 2 u] } }
    refine tail_any (ops := [.ref a, .ref s4.heap.objs.size]) ht.typeIs (PyProof.Rows.slot_tuple_getitem.lookup) ?_ (by with_unfolding_all rfl)
    refine getItem_tuple_2 ht (Heap.IsSliceOf.new _ .none .none (.int 2 u)) ?_ (by rw [List.size_toArray]; omega)
    refine ⟨.ref _, _, I5.laid (t' := s4.toks) (o := .tup (ev2 xs)) (fun b ob q => Heap.get?_push_of_some _ q) (Nat.le_refl _) ?_, rfl, q _ (I5.hok.fresh (Nat.le_refl _))⟩
    exact ⟨by rw [ev2_len]; omega, _, vals_ev2 r, IsTup.new _ _⟩
def gSt2 : D → R D
  | .tuple xs => .ok (.tuple (ev2 xs))
  | _ => .no
theorem st2_sem {K : PySem.W.Frag} {H Z : Hp} {v : V} {d z : D} {Q : VK} (hz : Same Z H) (r : Rep K Z v d) (h : gSt2 d = .ok z) (hq : ∀ v Z' H', Gr Z H Z' H' → Rep K Z' v z → Q v H') : ∃ a xs, v = .ref a ∧ SqT K H a xs ∧ ∀ p, H p = none → Q (.ref p) (upd H p (.tup (ev2 xs))) := by
  unfold gSt2 at h
  split at h
  · cases h
    cases r with
    | tup t q => exact ⟨_, _, rfl, same_seqT hz t, fun p np => hq _ _ _ (Gr.new hz np) (.tup (.inl upd_same) ((reps_ev2 q).mono (same_upd (hz.free np))))⟩
  · cases h
theorem dp_st2 {X : Cx} {us : List Nat} {e : Expr} {f : PF} {k : Nat} {p1 p3 pos : Pos} (h : DP X us e f) : DP X us (.Subscript e (.Slice none none (some (.Constant (.int 2) k p1)) p3) pos) (cUn gSt2 f) := by
  obtain ⟨t, h1, h2⟩ := h.ex
  refine ⟨_, pe_st2 h1, fun σ H Z env d Q hz he hf hq => ?_⟩
  obtain ⟨x, e1, e2⟩ := R.of_bind hf
  exact h2 σ H Z env x _ hz he e1 fun v Z1 H1 g r => st2_sem g.zh r e2 fun w Z2 H2 g2 r2 => hq w Z2 H2 (g.trans g2) r2
end Dz

set_option maxRecDepth 100000
set_option maxHeartbeats 2000000
namespace Dz
open PySem PySem.Spec PyProof.Rows L2
/-! ## sorted(a tuple) -/
section
variable {prog : Program} {w : World} {A : Around} {E : Value → Shared → Prop} {s : Shared}
open PyProof.Rows PySem.W in
theorem collect_tuple {l : Addr} {vs : List Value} {Q : List Value → Shared → Prop} (hl : IsTup s.heap l vs.toArray)
    (h : Q vs { s with heap := (s.heap.push (seqObj "list" #[] 0)).update s.heap.objs.size (Obj.mapSeq (· ++ vs.toArray)) }) (hsz : vs.length ≤ sizeLine) :
    wpAny (model prog w) A (collect (.ref l)) Q E s := by
  obtain ⟨o, ho, hc, n, hd⟩ := id hl
  unfold collect
  refine wpAny_bind (wpAny_runValue (codeAny_builtin entry_proto_collect' ?_))
  show wpAny _ _ (do again (.builtin "list.__iadd__" ⟨[← newList [], .ref l], []⟩)) _ _ s
  refine wpAny_bind (wpAny_newList (wpAny_pure ⟨Code.quiet_builtin _ (by decide +kernel), codeAny_builtin entry_list_iadd' ?_⟩))
  show wpAny _ _ (Builtin.List.listExtendWith (.ref s.heap.objs.size) (.ref l) (.ref s.heap.objs.size)) _ _ { s with heap := s.heap.push (seqObj "list" #[] 0) }
  unfold Builtin.List.listExtendWith
  have ho' : (s.heap.push (seqObj "list" #[] 0)).get? l = some o := Heap.get?_push_of_some _ ho
  refine wpAny_bind (wpAny_typeOf (T := "tuple") ⟨o, ho', hc⟩ ?_)
  have ht : (Value.type "tuple" == Value.type "tuple") = true := by rfl
  rw [if_pos (by rw [ht]; simp)]
  refine wpAny_bind (listItems_at ho' hd ?_)
  refine wpAny_bind (listItems_at (xs := #[]) (n := 0) (Heap.get?_push_size _ rfl) rfl ?_)
  rw [if_neg (by simp)]
  refine wpAny_bind (listUpdate_at (xs := #[]) (n := 0) (Heap.get?_push_size _ rfl) rfl ?_ (Nat.zero_le _) (by show (#[] ++ vs.toArray).size ≤ sizeLine + 1; simp only [Array.size_append, List.size_toArray, List.length_nil]; omega))
  refine wpAny_pure ?_
  show wpAny (model prog w) A (do
      let o ← load s.heap.objs.size
      match o.data with
      | .seq xs _ => pure xs.toList
      | _ => unsupported "internal:collect") Q E { s with heap := (s.heap.push (seqObj "list" #[] 0)).update s.heap.objs.size (Obj.mapSeq (· ++ vs.toArray)) }
  refine wpAny_bind (wpAny_load (get?_update_seq (Heap.get?_push_size _ rfl) _) ?_)
  show wpAny _ _ (pure ((#[] : Array Value) ++ vs.toArray).toList) Q E _
  rw [show ((#[] : Array Value) ++ vs.toArray).toList = vs by simp]
  exact wpAny_pure h
open PyProof.Rows PySem.W in
theorem sorted_of_sortT {l : Addr} {vs : List Value} {kw : List (Str × Value)} {Q : Value → Shared → Prop} (hl : IsTup s.heap l vs.toArray) (hL : vs.length ≤ sizeLine) (ha1 : argsOk "sorted" ⟨[.ref l], kw⟩) (ha2 : ∀ x, argsOk "list.sort" ⟨[.ref x], kw⟩)
    (body : ∀ E' : Value → Shared → Prop, wpAny (model prog w) A.in1.in1 (Builtin.«list.sort» ⟨[.ref (s.heap.objs.size + 1)], kw⟩) (fun f s' => f = .done (.ret .none) ∧ Q (.ref (s.heap.objs.size + 1)) s') E' { s with heap := copyHeap s.heap vs }) :
    wpAny (model prog w) A (call (.builtin "sorted") [.ref l] kw) Q E s := by
  refine call_function_entry_kw kind_sorted plain_sorted entry_sorted ha1 ?_
  unfold Builtin.«sorted»
  refine wpAny_bind (m := checkCount "sorted" 1 1 _) (wpAny_pure ?_)
  refine wpAny_bind (collect_tuple hl ?_ hL)
  refine wpAny_bind (wpAny_newList ?_ hL)
  have hsz : ((s.heap.push (seqObj "list" #[] 0)).update s.heap.objs.size (Obj.mapSeq (· ++ vs.toArray))).objs.size = s.heap.objs.size + 1 := by
    rw [Heap.size_update, size_push']
  show wpAny _ _ _ _ _ { s with heap := copyHeap s.heap vs }
  rw [hsz]
  refine wpAny_bind (wpAny_holding (wpAny_call_entry_kw slot_list_sort ⟨_, copyHeap_at s.heap vs, rfl⟩ entry_list_sort ?body (ha2 _)))
  case body =>
    show wpAny (model prog w) A.in1.in1 (Builtin.«list.sort» ⟨[.ref (s.heap.objs.size + 1)], kw⟩) _ _ _
    refine wpAny_mono (body _) (fun f s' hf => ?_) fun _ _ e => e
    obtain ⟨rfl, hq⟩ := hf
    exact ⟨_, rfl, wpAny_pure ⟨_, rfl, hq⟩⟩
open PyProof.Rows PySem.W in
theorem sorted_valsT {κ : KeyKind} {l : Addr} {vs : List Value} {Q : Value → Shared → Prop} (hl : IsTup s.heap l vs.toArray) (S : SortsAt prog w A.in1.in1 { s with heap := sortingHeap (copyHeap s.heap vs) (s.heap.objs.size + 1) vs } κ vs) (hL : vs.length ≤ sizeLine)
    (h : Q (.ref (s.heap.objs.size + 1)) { s with heap := sortedAll s.heap vs (sortVals κ false vs vs).toArray }) : wpAny (model prog w) A (call (.builtin "sorted") [.ref l]) Q E s :=
  sorted_of_sortT hl hL (args_sorted1 _) (fun _ => args_list_sort _) fun _ => list_sort_vals (s := { s with heap := copyHeap s.heap vs }) (copyHeap_at s.heap vs) S hL ⟨rfl, h⟩
open PyProof.Rows PySem.W in
theorem sorted_dataT {β : Type} {vs : List Value} {bs : List β} {enc : β → PyData} {R : Value → β → Prop} {l : Addr} {Q : Value → Shared → Prop} (hl : IsTup s.heap l vs.toArray) (e : EachIs R vs bs) (er : EachIs (fun v b => ∃ as, Reads s.heap v (enc b) as) vs bs) (hal : AllAlike (bs.map enc)) (hk : Sortable (bs.map enc)) (hL : bs.length ≤ sizeLine)
    (hu : ∀ b, b ∈ bs → A.units + 2 + (enc b).depth < cLine) (h : ∀ out, out.length = bs.length → EachIs R out (bs.mergeSort (dataLe false enc)) → Q (.ref (s.heap.objs.size + 1)) { s with heap := sortedAll s.heap vs (List.toArray out) }) :
    wpAny (model prog w) A (call (.builtin "sorted") [.ref l]) Q E s := by
  have er' : EachIs (fun v b => ∃ as, Reads (sortingHeap (copyHeap s.heap vs) (s.heap.objs.size + 1) vs) v (enc b) as) vs bs := er.mono fun _ _ ⟨as, r⟩ => ⟨as, PyProof.Rows.Reads.keeps (fun _ _ => sorting_copy_old) r⟩
  exact sorted_valsT hl (SortsAt.data (s := { s with heap := sortingHeap (copyHeap s.heap vs) (s.heap.objs.size + 1) vs }) (each_map (R := fun v d => ∃ as, Reads (sortingHeap (copyHeap s.heap vs) (s.heap.objs.size + 1) vs) v d as) enc er') hal hk (bound_map hu)) (by rw [e.length]; exact hL)
    (h _ (by rw [sortVals_length false rfl]; exact e.length) (sortVals_data false e er' hal))
end
def rSortT (K : PySem.W.Frag) : List V → Hp → VK → Prop := fun xs H Q => ∃ (a : Addr) (zs : List (V × D)), xs = [.ref a] ∧ SqT K H a (zs.map (·.1)) ∧ (∀ z ∈ zs, Dp K H z.1 z.2) ∧ sortOk (zs.map (·.2)) = true ∧
  ∀ p, H p = none → Q (.ref p) (upd H p (.lst ((zs.mergeSort (PySem.W.dataLe false (·.2))).map (·.1))))
theorem cr_sortT {X : Cx} {k : Nat} (hr : RmG k X.A) : CallR X (.builtin "sorted") (rSortT X.K) := by
  intro pins s σ H vs us Q I r h
  obtain ⟨a, zs, rfl, hs, hd, hk, q⟩ := h
  obtain ⟨its, rv, hl, hz⟩ := I.tuple hs
  rw [Vals.ref1 r]
  have e := each_zip rv rfl
  have hun := hr.un
  have hlen : zs.length = its.length := by rw [← rv.length, List.length_map]
  refine sorted_dataT (enc := fun z : V × D => z.2) (R := fun u z => L2.RelV z.1 u) hl e (each_mem e fun u z hz rz => Dp.reads I z.2 z.1 u (hd z hz) rz) (sortOk_alike hk) (sortOk_sortable hk) (by rw [List.length_map] at hz; exact hz) (fun z hz => ?_) fun out ho he => ?_
  · have := SeqAt.depth_of_shaped (sortOk_shaped hk z.2 (List.mem_map_of_mem hz))
    omega
  · obtain ⟨ep, he'⟩ := PyProof.Rows.sortedAll_at s.heap its out.toArray
    have hv := vals_each he
    have hl2 : ((zs.mergeSort (PySem.W.dataLe false fun z : V × D => z.2)).map (·.1)).length ≤ sizeLine := by
      rw [List.length_map, List.length_mergeSort]
      rw [List.length_map] at hz
      exact hz
    refine ⟨.ref _, upd H (s.heap.objs.size + 1) (.lst ((zs.mergeSort (PySem.W.dataLe false fun z : V × D => z.2)).map (·.1))), I.laid (t' := s.toks) (fun _ _ => PyProof.Rows.sortedAll_old) (Nat.le_succ _) ⟨hl2, out, ep, hv, he'⟩, rfl, q _ (I.hok.fresh (Nat.le_succ _))⟩
def gSortedT : List D → R D
  | [.tuple ds] => R.when (sortOk ds) (.ok (.list (sortD ds)))
  | as => gSorted as
def rSortXT (K : PySem.W.Frag) : List V → Hp → VK → Prop := fun xs H Q => rSortX K xs H Q ∨ rSortT K xs H Q
theorem cr_sortXT {X : Cx} {k : Nat} (hr : RmG k X.A) : CallR X (.builtin "sorted") (rSortXT X.K) := (cr_sortX hr).or (cr_sortT hr)
theorem v_sortedT {K : PySem.W.Frag} : OpN K (rSortXT K) gSortedT := fun xs H Z as c Q hz r h hq => by
  unfold gSortedT at h
  split at h
  · rename_i ds
    obtain ⟨h1, h2⟩ := R.of_when h
    cases h2
    cases r with
    | cons r t =>
      cases t
      cases r with
      | @tup a0 vs0 _ tt q =>
        obtain ⟨z1, z2, z3⟩ := zip_reps q
        refine .inr ⟨_, _, rfl, by rw [z1]; exact same_seqT hz tt, fun z hzm => ?_, by rw [z2]; exact h1, fun p np => ?_⟩
        · refine (z3 z hzm).dp hz (SeqAt.canLay_of_shaped (sortOk_shaped h1 _ ?_))
          have := List.mem_map_of_mem (f := (·.2)) hzm
          rw [z2] at this
          exact this
        · have g := Gr.new (o := .lst (((vs0.zip ds).mergeSort (PySem.W.dataLe false fun z : V × D => z.2)).map (·.1))) hz np
          refine hq _ _ _ g (.lst upd_same ?_)
          have r2 := reps_of (K := K) (Z := Z) (zs := (vs0.zip ds).mergeSort (PySem.W.dataLe false fun z : V × D => z.2)) fun z hzm => z3 z ((List.mergeSort_perm (vs0.zip ds) (PySem.W.dataLe false fun z : V × D => z.2)).mem_iff.mp hzm)
          have e2 : ((vs0.zip ds).mergeSort (PySem.W.dataLe false fun z : V × D => z.2)).map (·.2) = sortD ds := by
            have := List.map_mergeSort (l := vs0.zip ds) (f := fun z : V × D => z.2) (r := PySem.W.dataLe false fun z : V × D => z.2) (s := PySem.W.dataLe false id) fun a _ b _ => rfl
            unfold sortD
            rw [this, z2]
          rw [e2] at r2
          exact r2.mono g.zz
  · exact .inl (v_sorted xs H Z as c Q hz r h hq)
/-- whole numbers sorted -/
theorem sortD_ints {ns ms : List Int} (hp : ns.Perm ms) (hm : ms.Pairwise (· ≤ ·)) : sortD (ns.map PyData.int) = ms.map PyData.int := by
  unfold sortD
  have h1 : (ns.map PyData.int).mergeSort (PySem.W.dataLe false id) = (ns.mergeSort fun x y => decide (x ≤ y)).map PyData.int := by
    rw [List.map_mergeSort (r := fun x y : Int => decide (x ≤ y)) (s := PySem.W.dataLe false id)]
    intro a _ b _
    exact (congrFun (congrFun (PySem.W.dataLe_int (β := Int) (fun x => x)) a) b).symm
  rw [h1]
  have hs := List.pairwise_mergeSort (le := fun x y : Int => decide (x ≤ y)) (by intro x y z h1 h2; simp only [decide_eq_true_eq] at *; omega) (by intro x y; simp only [Bool.or_eq_true, decide_eq_true_eq]; omega) ns
  have hs' : (ns.mergeSort fun x y => decide (x ≤ y)).Pairwise (· ≤ ·) := hs.imp fun h => of_decide_eq_true h
  rw [List.Perm.eq_of_pairwise (fun x y _ _ h1 h2 => Int.le_antisymm h1 h2) hs' hm ((List.mergeSort_perm _ _).trans hp)]
theorem sortOk_ints (ns : List Int) : sortOk (ns.map PyData.int) = true := by
  unfold sortOk
  rw [Bool.and_eq_true, Bool.and_eq_true, Bool.or_eq_true]
  refine ⟨⟨List.all_eq_true.mpr fun d hd => List.all_eq_true.mpr fun e he => ?_, .inr (List.all_eq_true.mpr fun d hd => ?_)⟩, List.all_eq_true.mpr fun d hd => ?_⟩
  · obtain ⟨a, _, rfl⟩ := List.mem_map.mp hd
    obtain ⟨b, _, rfl⟩ := List.mem_map.mp he
    rfl
  · obtain ⟨a, _, rfl⟩ := List.mem_map.mp hd
    rfl
  · obtain ⟨a, _, rfl⟩ := List.mem_map.mp hd
    rfl
end Dz

set_option maxRecDepth 100000
set_option maxHeartbeats 2000000
namespace Dz
open PySem PySem.Spec PyProof.Rows L2
/-! ## going through a mirror, statement by statement: what stands behind it -/
def Wx {α : Type} (f : Env → R (α × Env)) (env : Env) (Q : α → Env → Prop) : Prop := ∃ d e, f env = .ok (d, e) ∧ Q d e
def WF (F : List D → R (D × D)) (as : List D) (Q : D → D → Prop) : Prop := ∃ d s, F as = .ok (d, s) ∧ Q d s
theorem wx_of {α : Type} {f : Env → R (α × Env)} {env e : Env} {d : α} {Q : α → Env → Prop} (h : f env = .ok (d, e)) (q : Q d e) : Wx f env Q := ⟨d, e, h, q⟩
theorem wf_of {F : List D → R (D × D)} {as : List D} {Q : D → D → Prop} {d s : D} (h : F as = .ok (d, s)) (q : Q d s) : WF F as Q := ⟨d, s, h, q⟩
theorem Wx.mono {α : Type} {f : Env → R (α × Env)} {env : Env} {Q Q' : α → Env → Prop} (h : Wx f env Q) (q : ∀ d e, Q d e → Q' d e) : Wx f env Q' := by
  obtain ⟨d, e, h1, h2⟩ := h
  exact ⟨d, e, h1, q d e h2⟩
theorem of_r {α : Type} {r r' : R α} (h : r = r') : r = r' := h
theorem imp_r {α : Type} {a b : Bool} {r r' : R α} (h : a = b → r = r') : a = b → r = r' := h
/-! ### slots -/
theorem setZ {α : Type} {a b : α} {l : List α} : (a :: l).set 0 b = b :: l := rfl
theorem setS {α : Type} {a b : α} {l l' : List α} {i : Nat} (h : l.set i b = l') : (a :: l).set (i + 1) b = a :: l' := by rw [List.set_cons_succ, h]
theorem getZ {α : Type} {a : α} {l : List α} : (a :: l)[0]? = some a := rfl
theorem getS {α : Type} {a : α} {l : List α} {i : Nat} {o : Option α} (h : l[i]? = o) : (a :: l)[i + 1]? = o := by rw [List.getElem?_cons_succ, h]
theorem wipe0 {e : Env} : wipeE e [] = e := rfl
theorem wipeS {e e1 e2 : Env} {v : Nat} {vs : List Nat} (h : wipeE e vs = e1) (h2 : e1.set v none = e2) : wipeE e (v :: vs) = e2 := by rw [wipeE, h, h2]
theorem rest0 {e e' : Env} : restE e e' [] = e' := rfl
theorem restS {e e' e1 e2 : Env} {v : Nat} {o : Option D} {vs : List Nat} (h : restE e e' vs = e1) (h1 : e[v]? = some o) (h2 : e1.set v o = e2) : restE e e' (v :: vs) = e2 := by rw [restE, h, h1]; exact h2
/-! ### pure expressions -/
theorem cV_ok {i : Nat} {env : Env} {d : D} (h : env[i]? = some (some d)) : cV i env = .ok d := by unfold cV; rw [h]
theorem cC_ok {d : D} {env : Env} : cC d env = .ok d := rfl
theorem cC_nat {n : Nat} {env : Env} : cC (.int (@OfNat.ofNat Int n (@instOfNat n))) env = .ok (.int ((@OfNat.ofNat Nat n (instOfNatNat n) : Nat) : Int)) := rfl
theorem slot_ok {i : Nat} {env : Env} {d : D} (h : env[i]? = some (some d)) : slotAt env i = .ok d := by unfold slotAt; rw [h]
theorem lst_ok {i : Nat} {env : Env} {ds : List D} (h : env[i]? = some (some (.list ds))) : lstAt env i = .ok ds := by unfold lstAt; rw [h]
theorem aNil_ok {env : Env} : aNil env = .ok [] := rfl
theorem aCons_ok {f : PF} {g : AF} {env : Env} {d : D} {ds : List D} (h : f env = .ok d) (h2 : g env = .ok ds) : aCons f g env = .ok (d :: ds) := by unfold aCons; rw [h, R.bind_ok, h2]; rfl
theorem aStar_ok {f : PF} {g : AF} {env : Env} {d : D} {xs ds : List D} (h : f env = .ok d) (hi : itemsOf d = .ok xs) (h2 : g env = .ok ds) : aStar f g env = .ok (xs ++ ds) := by unfold aStar; rw [h, R.bind_ok, hi, R.bind_ok, h2]; rfl
theorem cTup_ok {f : AF} {env : Env} {ds : List D} (h : f env = .ok ds) (hz : ds.length ≤ sizeLine) : cTup f env = .ok (.tuple ds) := by unfold cTup; rw [h, R.bind_ok, decide_eq_true hz]; rfl
theorem cLst_ok {f : AF} {env : Env} {ds : List D} (h : f env = .ok ds) (hz : ds.length ≤ sizeLine) : cLst f env = .ok ds := by unfold cLst; rw [h, R.bind_ok, decide_eq_true hz]; rfl
theorem cCall_ok {g : List D → R D} {f : AF} {env : Env} {as : List D} {c : D} (h1 : f env = .ok as) (h3 : g as = .ok c) : cCall g f env = .ok c := by unfold cCall; rw [h1]; exact h3
theorem cTst_ok' {f : PF} {env : Env} {d : D} {b : Bool} (h : f env = .ok d) (h2 : toB d = .ok b) : cTst f env = .ok b := by unfold cTst; rw [h]; exact h2
theorem toB_ok {b : Bool} : toB (.bool b) = .ok b := rfl
theorem cAnd_w {f g : Env → R Bool} {env : Env} {a b : Bool} (h : f env = .ok a) (h2 : a = true → g env = .ok b) : cAnd f g env = .ok (a && b) := by
  cases a with
  | true => exact cAnd_t h (h2 rfl)
  | false => exact cAnd_f h
theorem cOr_w {f g : Env → R Bool} {env : Env} {a b : Bool} (h : f env = .ok a) (h2 : a = false → g env = .ok b) : cOr f g env = .ok (a || b) := by
  cases a with
  | true => exact cOr_t h
  | false => exact cOr_fr h (h2 rfl)
theorem cAndV_w {f g : PF} {env : Env} {a b : Bool} (h : cTst f env = .ok a) (h2 : a = true → g env = .ok (.bool b)) : cAndV f g env = .ok (.bool (a && b)) := by
  unfold cAndV
  rw [h, R.bind_ok]
  cases a with
  | true => exact h2 rfl
  | false => rfl
theorem cOrV_w {f g : PF} {env : Env} {a b : Bool} (h : cTst f env = .ok a) (h2 : a = false → g env = .ok (.bool b)) : cOrV f g env = .ok (.bool (a || b)) := by
  unfold cOrV
  rw [h, R.bind_ok]
  cases a with
  | true => rfl
  | false => exact h2 rfl
theorem cNotV_w {f : PF} {env : Env} {a : Bool} (h : cTst f env = .ok a) : cNotV f env = .ok (.bool (!a)) := by
  unfold cNotV
  rw [h, R.bind_ok]
theorem cBl_ok {f : Env → R Bool} {env : Env} {a : Bool} (h : f env = .ok a) : cBl f env = .ok (.bool a) := by
  unfold cBl
  rw [h, R.bind_ok]
theorem cIf_T {c : Env → R Bool} {f g : PF} {env : Env} {d : D} {b : Bool} (h : c env = .ok b) (hb : b = true) (h2 : f env = .ok d) : cIf c f g env = .ok d := cIf_t (hb ▸ h) h2
theorem cIf_F {c : Env → R Bool} {f g : PF} {env : Env} {d : D} {b : Bool} (h : c env = .ok b) (hb : b = false) (h2 : g env = .ok d) : cIf c f g env = .ok d := cIf_f (hb ▸ h) h2
/-- both sides whole numbers -/
theorem cIf_nat {c : Env → R Bool} {f g : PF} {env : Env} {m n : Nat} {b : Bool} (h : c env = .ok b) (h1 : b = true → f env = .ok (.int (m : Int))) (h2 : b = false → g env = .ok (.int (n : Int))) : cIf c f g env = .ok (.int ((if b = true then m else n : Nat) : Int)) := by
  cases b with
  | true => exact cIf_t h (h1 rfl)
  | false => exact cIf_f h (h2 rfl)
theorem cFnW {n : Nat} {F : List D → R D} {fa : AF} {env : Env} {ds : List D} {d : D} (h1 : fa env = .ok ds) (h2 : ds.length = n) (h3 : F ds = .ok d) : cFn n F fa env = .ok d := cFn_ok h1 h2 h3
theorem cChain_w {g g' : D → D → R D} {fa fb fc : PF} {env : Env} {a b c : D} {k k' : Bool} (h1 : fa env = .ok a) (h2 : fb env = .ok b) (h3 : g a b = .ok (.bool k)) (h4 : fc env = .ok c) (h5 : g' b c = .ok (.bool k')) : cChain g g' fa fb fc env = .ok (.bool (k && k')) := by
  unfold cChain
  rw [h1, R.bind_ok, h2, R.bind_ok, h3, R.bind_ok]
  cases k with
  | true => exact (congrArg (fun r => R.bind r _) h4).trans h5
  | false => rfl
theorem cPart_ok {f : PF} {env : Env} {k : Int} (h : f env = .ok (.int k)) : cPart f env = .ok (some k) := by unfold cPart; rw [h]; rfl
theorem cNoPart_ok {env : Env} : cNoPart env = .ok none := rfl
theorem cSl_w {f : PF} {fl fh : OF} {env : Env} {d r : D} {l h : Option Int} (h1 : f env = .ok d) (h2 : fl env = .ok l) (h3 : fh env = .ok h) (h4 : gSl d l h = .ok r) : cSl f fl fh env = .ok r := by
  unfold cSl
  rw [h1, R.bind_ok, h2, R.bind_ok, h3, R.bind_ok, h4]
theorem gSl_from {w : List Int} {p : Nat} : gSl (wD w) (some (p : Int)) none = .ok (wD (w.drop p)) := by
  unfold wD gSl; dsimp only; rw [cutD_from, List.map_drop]
theorem gSl_to {w : List Int} {p : Nat} : gSl (wD w) none (some (p : Int)) = .ok (wD (w.take p)) := by
  unfold wD gSl; dsimp only; rw [cutD_to, List.map_take]
theorem gSl_mid {w : List Int} {p q : Nat} : gSl (wD w) (some (p : Int)) (some (q : Int)) = .ok (wD ((w.take q).drop p)) := by
  unfold wD gSl; dsimp only; rw [cutD_mid, List.map_drop, List.map_take]
theorem gSl_fromL {w : List D} {p : Nat} : gSl (.list w) (some (p : Int)) none = .ok (.list (w.drop p)) := by
  unfold gSl; dsimp only; rw [cutD_from]
theorem gSl_toL {w : List D} {p : Nat} : gSl (.list w) none (some (p : Int)) = .ok (.list (w.take p)) := by
  unfold gSl; dsimp only; rw [cutD_to]
theorem gSl_fromT {w : List D} {p : Nat} : gSl (.tuple w) (some (p : Int)) none = .ok (.tuple (w.drop p)) := by
  unfold gSl; dsimp only; rw [cutD_from]
theorem gSl_toT {w : List D} {p : Nat} : gSl (.tuple w) none (some (p : Int)) = .ok (.tuple (w.take p)) := by
  unfold gSl; dsimp only; rw [cutD_to]
theorem gAdd_il {a : Int} {n : Nat} : gAdd (.int a) (.int ((@OfNat.ofNat Nat n (instOfNatNat n) : Nat) : Int)) = .ok (.int (a + @OfNat.ofNat Int n (@instOfNat n))) := rfl
theorem gSub_il {a : Int} {n : Nat} : gSub (.int a) (.int ((@OfNat.ofNat Nat n (instOfNatNat n) : Nat) : Int)) = .ok (.int (a - @OfNat.ofNat Int n (@instOfNat n))) := rfl
theorem gLt_il {a : Int} {n : Nat} : gCmp .lt (.int a) (.int ((@OfNat.ofNat Nat n (instOfNatNat n) : Nat) : Int)) = .ok (.bool (decide (a < @OfNat.ofNat Int n (@instOfNat n)))) := rfl
theorem gLe_il {a : Int} {n : Nat} : gCmp .le (.int a) (.int ((@OfNat.ofNat Nat n (instOfNatNat n) : Nat) : Int)) = .ok (.bool (decide (a ≤ @OfNat.ofNat Int n (@instOfNat n)))) := rfl
theorem gGt_il {a : Int} {n : Nat} : gCmp .gt (.int a) (.int ((@OfNat.ofNat Nat n (instOfNatNat n) : Nat) : Int)) = .ok (.bool (decide (@OfNat.ofNat Int n (@instOfNat n) < a))) := rfl
theorem gGe_il {a : Int} {n : Nat} : gCmp .ge (.int a) (.int ((@OfNat.ofNat Nat n (instOfNatNat n) : Nat) : Int)) = .ok (.bool (decide (@OfNat.ofNat Int n (@instOfNat n) ≤ a))) := rfl
theorem gEq_il {a : Int} {n : Nat} : gEq (.int a) (.int ((@OfNat.ofNat Nat n (instOfNatNat n) : Nat) : Int)) = .ok (.bool (decide (a = @OfNat.ofNat Int n (@instOfNat n)))) := rfl
theorem gNe_il {a : Int} {n : Nat} : gNe (.int a) (.int ((@OfNat.ofNat Nat n (instOfNatNat n) : Nat) : Int)) = .ok (.bool (!decide (a = @OfNat.ofNat Int n (@instOfNat n)))) := rfl
theorem gNeg_nat {n : Nat} : gNeg (.int (n : Int)) = .ok (.int (-(n : Int))) := rfl
theorem gGe_nat (a b : Nat) : gCmp .ge (.int (a : Int)) (.int (b : Int)) = .ok (.bool (decide (b ≤ a))) := by
  rw [gCmp_int]
  show R.ok (PyData.bool (decide ((b : Int) ≤ (a : Int)))) = _
  rw [show decide ((b : Int) ≤ (a : Int)) = decide (b ≤ a) from decide_eq_decide.mpr (by omega)]
theorem gLt_i (a b : Int) : gCmp .lt (.int a) (.int b) = .ok (.bool (decide (a < b))) := by rw [gCmp_int]; rfl
theorem gLe_i (a b : Int) : gCmp .le (.int a) (.int b) = .ok (.bool (decide (a ≤ b))) := by rw [gCmp_int]; rfl
theorem gGt_i (a b : Int) : gCmp .gt (.int a) (.int b) = .ok (.bool (decide (b < a))) := by rw [gCmp_int]; rfl
theorem gGe_i (a b : Int) : gCmp .ge (.int a) (.int b) = .ok (.bool (decide (b ≤ a))) := by rw [gCmp_int]; rfl
theorem gMul_i1 {a b : Int} (h : -(2 ^ 60) < a ∧ a < 2 ^ 60) : gMul (.int a) (.int b) = .ok (.int (a * b)) := by
  show gMulW (.int a) (.int b) = _
  exact gMulW_of (.inl ⟨by omega, by omega⟩)
theorem gMul_i2 {a b : Int} (h : -(2 ^ 60) < b ∧ b < 2 ^ 60) : gMul (.int a) (.int b) = .ok (.int (a * b)) := by
  show gMulW (.int a) (.int b) = _
  exact gMulW_of (.inr ⟨by omega, by omega⟩)
theorem gMod_i {a b : Int} (h : 0 < b) : gMod (.int a) (.int b) = .ok (.int (a % b)) := by
  show R.when (decide (0 < b)) _ = _
  rw [decide_eq_true h, R.when_true]
theorem gDiv_i {a b : Int} (h : 0 < b) (h2 : b < 1073741824) : gDiv (.int a) (.int b) = .ok (.int (a / b)) := by
  show R.when (decide (0 < b ∧ b < 1073741824)) _ = _
  rw [decide_eq_true ⟨h, h2⟩, R.when_true]
theorem gDiv_il {a : Int} {n : Nat} (h : 0 < @OfNat.ofNat Nat n (instOfNatNat n)) (h2 : @OfNat.ofNat Nat n (instOfNatNat n) < 1073741824) : gDiv (.int a) (.int ((@OfNat.ofNat Nat n (instOfNatNat n) : Nat) : Int)) = .ok (.int (a / @OfNat.ofNat Int n (@instOfNat n))) := by
  have := gDiv_i (a := a) (b := ((@OfNat.ofNat Nat n (instOfNatNat n) : Nat) : Int)) (by omega) (by omega)
  exact this
theorem gLen_list {ds : List D} : gLen [.list ds] = .ok (.int ((ds.length : Nat) : Int)) := rfl
theorem gLen_tup {ds : List D} : gLen [.tuple ds] = .ok (.int ((ds.length : Nat) : Int)) := rfl
theorem gLen_map {α : Type} {l : List α} {c : α → D} : gLen [.list (l.map c)] = .ok (.int ((l.length : Nat) : Int)) := by
  show R.ok (PyData.int ((l.map c).length : Nat)) = _
  rw [List.length_map]
theorem gLen_mapT {α : Type} {l : List α} {c : α → D} : gLen [.tuple (l.map c)] = .ok (.int ((l.length : Nat) : Int)) := by
  show R.ok (PyData.int ((l.map c).length : Nat)) = _
  rw [List.length_map]
theorem gTuple1_list {ds : List D} : gTuple1 [.list ds] = .ok (.tuple ds) := rfl
theorem gTuple1_tup {ds : List D} : gTuple1 [.tuple ds] = .ok (.tuple ds) := rfl
theorem gTuple1_ints {w : List Int} : gTuple1 [.list (w.map PyData.int)] = .ok (wD w) := rfl
theorem itemsOf_wD {w : List Int} : itemsOf (wD w) = .ok (w.map PyData.int) := rfl
theorem itemsOf_list {ds : List D} : itemsOf (.list ds) = .ok ds := rfl
theorem itemsOf_tuple {ds : List D} : itemsOf (.tuple ds) = .ok ds := rfl
theorem gIx_map {α : Type} {l : List α} {c : α → D} {i : Nat} (h : i < l.length) : gIx (.list (l.map c)) (.int (i : Int)) = .ok (c l[i]) := by
  have := gIx_list0 (ds := l.map c) (r := i) (by rw [List.length_map]; exact h)
  rw [this, List.getElem_map]
theorem gIx_tup0 {ds : List D} {r : Nat} (hr : r < ds.length) : gIx (.tuple ds) (.int (r : Nat)) = .ok ds[r] := by
  have e : atI ds (r : Int) = some ds[r] := by
    unfold atI ixN
    rw [if_pos (by omega)]
    simp [hr]
  show (match atI ds (r : Int) with | some d => R.ok d | none => .no) = _
  rw [e]
theorem gIx_mapT {α : Type} {l : List α} {c : α → D} {i : Nat} (h : i < l.length) : gIx (.tuple (l.map c)) (.int (i : Int)) = .ok (c l[i]) := by
  have := gIx_tup0 (ds := l.map c) (r := i) (by rw [List.length_map]; exact h)
  rw [this, List.getElem_map]
theorem setE_ok {i : Nat} {d : D} {env e' : Env} (h : env.set i (some d) = e') : setE i d env = .ok e' := by rw [← h]; rfl
theorem setNil_ok {env : Env} : setNil [] env = .ok env := rfl
theorem setCons_ok {g : GF} {gs : List D → Env → R Env} {d : D} {ds : List D} {env e1 e2 : Env} (h : g d env = .ok e1) (h2 : gs ds e1 = .ok e2) : setCons g gs (d :: ds) env = .ok e2 := by
  show (g d env).bind (gs ds) = _
  rw [h, R.bind_ok, h2]
theorem setTup_ok {n : Nat} {gs : List D → Env → R Env} {ds : List D} {env e' : Env} (hn : ds.length = n) (h : gs ds env = .ok e') : setTup n gs (.tuple ds) env = .ok e' := by unfold setTup; rw [← h]; show R.when _ _ = _; rw [decide_eq_true hn, R.when_true]
/-! ### comprehensions -/
def LcB (tgt : GF) (ff : Env → R Bool) (fe : PF) (d : D) (env : Env) (b : Bool) (y : D) : Prop := ∃ e1, tgt d env = .ok e1 ∧ ff e1 = .ok b ∧ (b = true → fe e1 = .ok y)
theorem lcB_mk {tgt : GF} {ff : Env → R Bool} {fe : PF} {d y : D} {env e1 : Env} {b : Bool} (h : tgt d env = .ok e1) (h2 : ff e1 = .ok b) (h3 : b = true → fe e1 = .ok y) : LcB tgt ff fe d env b y := ⟨e1, h, h2, h3⟩
def LcY (tgt : GF) (fe : PF) (d : D) (env : Env) (y : D) : Prop := ∃ e1, tgt d env = .ok e1 ∧ fe e1 = .ok y
theorem lcY_mk {tgt : GF} {fe : PF} {d y : D} {env e1 : Env} (h : tgt d env = .ok e1) (h3 : fe e1 = .ok y) : LcY tgt fe d env y := ⟨e1, h, h3⟩
theorem cLc_w {α : Type} {fi : IF} {vs : List Nat} {tgt : GF} {ff : Env → R Bool} {fe : PF} {env e0 : Env} {l : List α} {c : α → D} {p : α → Bool} {g : α → D} (hi : fi env = .ok (l.map c)) (hw : wipeE env vs = e0) (hz : l.length ≤ sizeLine)
    (h : ∀ x ∈ l, LcB tgt ff fe (c x) e0 (p x) (g x)) : cLc fi vs tgt ff fe env = .ok ((l.filter p).map g) := by
  subst hw
  exact cLc_mapA c p g hi hz h
theorem cLcY_w {α : Type} {fi : IF} {vs : List Nat} {tgt : GF} {fe : PF} {env e0 : Env} {l : List α} {c : α → D} {g : α → D} (hi : fi env = .ok (l.map c)) (hw : wipeE env vs = e0) (hz : l.length ≤ sizeLine)
    (h : ∀ x ∈ l, LcY tgt fe (c x) e0 (g x)) : cLc fi vs tgt cYes fe env = .ok (l.map g) := by
  subst hw
  have := cLc_mapA (fi := fi) (vs := vs) (tgt := tgt) (ff := cYes) (fe := fe) (env := env) c (fun _ => true) g hi hz fun x hx => by
    obtain ⟨e1, h1, h2⟩ := h x hx
    exact ⟨e1, h1, rfl, fun _ => h2⟩
  rw [this, List.filter_eq_self.mpr fun _ _ => rfl]
theorem cLcR_w {fi : IF} {vs : List Nat} {tgt : GF} {ff : Env → R Bool} {fe : PF} {env e0 : Env} {n : Nat} {c : Nat → D} {p : Nat → Bool} {g : Nat → D} (hi : fi env = .ok ((List.range n).map c)) (hw : wipeE env vs = e0) (hz : n ≤ sizeLine)
    (h : ∀ x, x < n → LcB tgt ff fe (c x) e0 (p x) (g x)) : cLc fi vs tgt ff fe env = .ok (((List.range n).filter p).map g) := cLc_w hi hw (by rw [List.length_range]; exact hz) fun x hx => h x (List.mem_range.mp hx)
theorem cLcYR_w {fi : IF} {vs : List Nat} {tgt : GF} {fe : PF} {env e0 : Env} {n : Nat} {c : Nat → D} {g : Nat → D} (hi : fi env = .ok ((List.range n).map c)) (hw : wipeE env vs = e0) (hz : n ≤ sizeLine)
    (h : ∀ x, x < n → LcY tgt fe (c x) e0 (g x)) : cLc fi vs tgt cYes fe env = .ok ((List.range n).map g) := cLcY_w hi hw (by rw [List.length_range]; exact hz) fun x hx => h x (List.mem_range.mp hx)
theorem cRng1_w {f : PF} {env : Env} {n : Nat} (h : f env = .ok (.int (n : Int))) (hn : n < 2 ^ 60) : cRng1 f env = .ok ((List.range n).map fun (i : Nat) => PyData.int (i : Int)) := cRng1_nat h hn
theorem cRng2_w {f g : PF} {env : Env} {a b : Nat} (h : f env = .ok (.int (a : Int))) (h' : g env = .ok (.int (b : Int))) (ha : a < 2 ^ 60) (hb : b < 2 ^ 60) : cRng2 f g env = .ok ((List.range (b - a)).map fun (k : Nat) => PyData.int ((a + k : Nat) : Int)) := cRng2_nat h h' ⟨ha, hb⟩
theorem cLR1_w {f : PF} {env : Env} {n : Nat} (h : f env = .ok (.int (n : Int))) (hn : n < 2 ^ 20) : cLR1 f env = .ok ((List.range n).map fun (i : Nat) => PyData.int (i : Int)) := by
  rw [cLR1_ok h (rgOkB_small (by omega)), ← rgD0]; rfl
theorem cLR2_w {f g : PF} {env : Env} {a b : Nat} (h : f env = .ok (.int (a : Int))) (h' : g env = .ok (.int (b : Int))) (ha : a < 2 ^ 20) (hb : b < 2 ^ 20) : cLR2 f g env = .ok ((List.range (b - a)).map fun (k : Nat) => PyData.int ((a + k : Nat) : Int)) := by
  rw [cLR2_ok h h' (rgOkB_small (by omega))]
  unfold rgD
  rw [show ((b : Int) - (a : Int)).toNat = b - a by omega]
  rfl
/-! ### booleans -/
theorem bf_dec {p : Prop} [Decidable p] (h : ¬ p) : decide p = false := decide_eq_false h
theorem bt_dec {p : Prop} [Decidable p] (h : p) : decide p = true := decide_eq_true h
theorem bf_not {b : Bool} (h : b = true) : (!b) = false := by rw [h]; rfl
theorem bt_not {b : Bool} (h : b = false) : (!b) = true := by rw [h]; rfl
theorem bf_or {a b : Bool} (h : a = false) (h2 : b = false) : (a || b) = false := by rw [h, h2]; rfl
theorem bt_or1 {a b : Bool} (h : a = true) : (a || b) = true := by rw [h]; rfl
theorem bt_or2 {a b : Bool} (h : b = true) : (a || b) = true := by rw [h, Bool.or_true]
theorem bf_and1 {a b : Bool} (h : a = false) : (a && b) = false := by rw [h]; rfl
theorem bf_and2 {a b : Bool} (h : b = false) : (a && b) = false := by rw [h, Bool.and_false]
theorem bt_and {a b : Bool} (h : a = true) (h2 : b = true) : (a && b) = true := by rw [h, h2]; rfl
theorem bf_ne {a b : Bool} (h : a = b) : (a != b) = false := by rw [h]; cases b <;> rfl
theorem gEq_bool (a b : Bool) : gEq (.bool a) (.bool b) = .ok (.bool (a == b)) := by cases a <;> cases b <;> rfl
theorem shown_eq {a b : D} (h : a = b) : a.shown = b.shown := by rw [h]
theorem gIsB_ok {a b : Bool} : gIsB (.bool a) (.bool b) = .ok (.bool (decide (a = b))) := rfl
theorem gNotB_ok {a b : Bool} : gNotB (.bool a) (.bool b) = .ok (.bool (!decide (a = b))) := rfl
theorem gAdd_list' {a b : List D} (h : a.length + b.length ≤ sizeLine) : gAdd (.list a) (.list b) = .ok (.list (a ++ b)) := gAdd_list h
/-! ### statements -/
def seqQ (b : SF) (Q : Flo → Env → Prop) : Flo → Env → Prop
  | .nx, e => Wx b e Q
  | f, e => Q f e
theorem seqQ_nx {b : SF} {Q : Flo → Env → Prop} {e : Env} (h : Wx b e Q) : seqQ b Q .nx e := h
theorem seqQ_rt {b : SF} {Q : Flo → Env → Prop} {e : Env} {d : D} (h : Q (.rt d) e) : seqQ b Q (.rt d) e := h
theorem seqQ_ct {b : SF} {Q : Flo → Env → Prop} {e : Env} (h : Q .ct e) : seqQ b Q .ct e := h
theorem seqQ_bk {b : SF} {Q : Flo → Env → Prop} {e : Env} (h : Q .bk e) : seqQ b Q .bk e := h
theorem wx_sSeq {a b : SF} {env : Env} {Q : Flo → Env → Prop} (h : Wx a env (seqQ b Q)) : Wx (sSeq a b) env Q := by
  obtain ⟨fl, e, h1, h2⟩ := h
  cases fl with
  | nx =>
    obtain ⟨fl2, e2, h3, h4⟩ := h2
    exact ⟨fl2, e2, sSeq_ok h1 h3, h4⟩
  | ct => exact ⟨_, _, by unfold sSeq; rw [h1]; rfl, h2⟩
  | bk => exact ⟨_, _, by unfold sSeq; rw [h1]; rfl, h2⟩
  | rt d => exact ⟨_, _, by unfold sSeq; rw [h1]; rfl, h2⟩
section
variable {env e' e1 e2 : Env} {Q : Flo → Env → Prop} {i j : Nat} {d d' : D}
theorem wx_sNil (q : Q .nx env) : Wx sNil env Q := ⟨_, _, rfl, q⟩
theorem wx_sPass (q : Q .nx env) : Wx sPass env Q := ⟨_, _, rfl, q⟩
theorem wx_sBreak (q : Q .bk env) : Wx sBreak env Q := ⟨_, _, rfl, q⟩
theorem wx_sCont (q : Q .ct env) : Wx sCont env Q := ⟨_, _, rfl, q⟩
theorem wx_sRetN (q : Q (.rt .none) env) : Wx sRetN env Q := ⟨_, _, rfl, q⟩
theorem wx_sSet {f : PF} (h : f env = .ok d) (hs : env.set i (some d) = e') (q : Q .nx e') : Wx (sSet i f) env Q := ⟨_, _, sSet_ok h, by rw [hs]; exact q⟩
theorem wx_sSetL {f : Env → R (List D)} {ds : List D} (h : f env = .ok ds) (hs : env.set i (some (.list ds)) = e') (q : Q .nx e') : Wx (sSetL i f) env Q := ⟨_, _, sSetL_ok h, by rw [hs]; exact q⟩
theorem wx_sTgt {g : GF} {f : PF} (h : f env = .ok d) (hg : g d env = .ok e') (q : Q .nx e') : Wx (sTgt g f) env Q := ⟨_, _, sTgt_ok h hg, q⟩
theorem wx_sPar {f g : PF} (h : f env = .ok d) (h2 : g env = .ok d') (hs : env.set i (some d) = e1) (hs2 : e1.set j (some d') = e2) (q : Q .nx e2) : Wx (sPar i j f g) env Q := ⟨_, _, sPar_ok h h2, by rw [hs, hs2]; exact q⟩
theorem wx_sExpr {f : PF} (h : f env = .ok d) (q : Q .nx env) : Wx (sExpr f) env Q := ⟨_, _, by unfold sExpr; rw [h]; rfl, q⟩
theorem wx_sRet {f : PF} (h : f env = .ok d) (q : Q (.rt d) env) : Wx (sRet f) env Q := ⟨_, _, sRet_ok h, q⟩
theorem wx_sIfF {c : Env → R Bool} {g g' : SF} {b : Bool} (h : c env = .ok b) (hb : b = false) (q : Wx g' env Q) : Wx (sIf c g g') env Q := by
  obtain ⟨x, y, h1, h2⟩ := q
  exact ⟨x, y, sIf_false (hb ▸ h) h1, h2⟩
theorem wx_sIfT {c : Env → R Bool} {g g' : SF} {b : Bool} (h : c env = .ok b) (hb : b = true) (q : Wx g env Q) : Wx (sIf c g g') env Q := by
  obtain ⟨x, y, h1, h2⟩ := q
  exact ⟨x, y, sIf_true (hb ▸ h) h1, h2⟩
theorem wx_sIf {c : Env → R Bool} {g g' : SF} {b : Bool} (h : c env = .ok b) (ht : b = true → Wx g env Q) (hf : b = false → Wx g' env Q) : Wx (sIf c g g') env Q := by
  cases b with
  | true => exact wx_sIfT h rfl (ht rfl)
  | false => exact wx_sIfF h rfl (hf rfl)
theorem wx_sIf3 {c : Env → R Bool} {g g' : SF} {b : Bool} (h : c env = .ok b) (q : (b = false ∧ Wx g' env Q) ∨ (b = true ∧ Wx g env Q)) : Wx (sIf c g g') env Q := by
  rcases q with ⟨h1, h2⟩ | ⟨h1, h2⟩
  · exact wx_sIfF h h1 h2
  · exact wx_sIfT h h1 h2
theorem wx_sFor {fi : IF} {gt : GF} {g : SF} {ds : List D} (h : fi env = .ok ds) (q : Wx (forL gt g ds) env Q) : Wx (sFor fi gt g) env Q := by
  obtain ⟨x, y, h1, h2⟩ := q
  exact ⟨x, y, sFor_ok h h1, h2⟩
theorem wx_sApp {f : PF} {ds : List D} (h : f env = .ok d) (h2 : env[i]? = some (some (.list ds))) (hz : ds.length < sizeLine) (hs : env.set i (some (.list (ds ++ [d]))) = e') (q : Q .nx e') : Wx (sApp i f) env Q := ⟨_, _, sApp_ok h h2 hz, by rw [hs]; exact q⟩
theorem wx_sSetIx {fi f : PF} {ds : List D} {k : Nat} (h : f env = .ok d) (hk : fi env = .ok (.int (k : Int))) (h2 : env[i]? = some (some (.list ds))) (hz : k < ds.length) (hs : env.set i (some (.list (ds.set k d))) = e') (q : Q .nx e') : Wx (sSetIx i fi f) env Q := ⟨_, _, by
  unfold sSetIx
  rw [h, R.bindP_ok, hk, R.bindP_ok, lst_ok h2, R.bindP_ok, ixOf_nat hz, R.bindP_ok], by rw [hs]; exact q⟩
theorem wx_sExt {f : PF} {ds es : List D} (h : f env = .ok (.list es)) (h2 : env[i]? = some (some (.list ds))) (hz : ds.length + es.length ≤ sizeLine) (hs : env.set i (some (.list (ds ++ es))) = e') (q : Q .nx e') : Wx (sExt i f) env Q := ⟨_, _, by
  unfold sExt
  rw [h, R.bindP_ok, lst_ok h2, R.bindP_ok]
  show R.when _ _ = _
  rw [decide_eq_true hz, R.when_true], by rw [hs]; exact q⟩
theorem wx_sForOwn {gt : GF} {g : SF} {ds : List D} (h : env[i]? = some (some (.list ds))) (hs : env.set i none = e') (q : Wx (forL gt g ds) e' Q) : Wx (sForOwn i gt g) env Q := by
  obtain ⟨x, y, h1, h2⟩ := q
  exact ⟨x, y, by unfold sForOwn; rw [lst_ok h, R.bindP_ok, hs]; exact h1, h2⟩
/-! ### loops -/
theorem wx_forNil {gt : GF} {g : SF} (q : Q .nx env) : Wx (forL gt g []) env Q := ⟨_, _, rfl, q⟩
def forQ' (gt : GF) (g : SF) (ds : List D) (Q : Flo → Env → Prop) : Flo → Env → Prop
  | .nx, e => Wx (forL gt g ds) e Q
  | .ct, e => Wx (forL gt g ds) e Q
  | .bk, e => Q .nx e
  | .rt d, e => Q (.rt d) e
theorem forQ_nx {gt : GF} {g : SF} {ds : List D} (q : Wx (forL gt g ds) env Q) : forQ' gt g ds Q .nx env := q
theorem forQ_ct {gt : GF} {g : SF} {ds : List D} (q : Wx (forL gt g ds) env Q) : forQ' gt g ds Q .ct env := q
theorem forQ_bk {gt : GF} {g : SF} {ds : List D} (q : Q .nx env) : forQ' gt g ds Q .bk env := q
theorem forQ_rt {gt : GF} {g : SF} {ds : List D} (q : Q (.rt d) env) : forQ' gt g ds Q (.rt d) env := q
theorem wx_forCons {gt : GF} {g : SF} {ds : List D} (h : gt d env = .ok e1) (q : Wx g e1 (forQ' gt g ds Q)) : Wx (forL gt g (d :: ds)) env Q := by
  obtain ⟨fl, e2, h1, h2⟩ := q
  cases fl with
  | nx => obtain ⟨x, y, h3, h4⟩ := h2; exact ⟨x, y, by rw [forL, h, R.bindP_ok, h1, R.bind_ok]; exact h3, h4⟩
  | ct => obtain ⟨x, y, h3, h4⟩ := h2; exact ⟨x, y, by rw [forL, h, R.bindP_ok, h1, R.bind_ok]; exact h3, h4⟩
  | bk => exact ⟨_, _, by rw [forL, h, R.bindP_ok, h1, R.bind_ok], h2⟩
  | rt d => exact ⟨_, _, by rw [forL, h, R.bindP_ok, h1, R.bind_ok], h2⟩
/-- a loop with an invariant -/
theorem wx_forInv {gt : GF} {g : SF} {ds : List D} (I : Env → Prop) (h0 : I env) (hb : ∀ d ∈ ds, ∀ e, I e → ∃ e1, gt d e = .ok e1 ∧ Wx g e1 (fun fl e2 => (fl = .nx ∨ fl = .ct) ∧ I e2)) (q : ∀ e', I e' → Q .nx e') : Wx (forL gt g ds) env Q := by
  obtain ⟨e', h1, h2⟩ := forL_inv (gt := gt) (g := g) (ds := ds) (P := I) (fun d hd e he => by
    obtain ⟨e1, a1, fl, e2, a2, a3, a4⟩ := hb d hd e he
    refine ⟨e1, e2, a1, ?_, a4⟩
    rcases a3 with rfl | rfl
    · exact .inl a2
    · exact .inr a2) env h0
  exact ⟨_, _, h1, q _ h2⟩
/-- a loop over a list, with what stands behind each part of it -/
theorem wx_forFold {α S : Type} {gt : GF} {g : SF} (c : α → D) (f : S → α → S) (P : S → Env → Prop) {l : List α} {s : S} (h0 : P s env) (hb : ∀ x ∈ l, ∀ s e, P s e → ∃ e1, gt (c x) e = .ok e1 ∧ Wx g e1 (fun fl e2 => fl = .nx ∧ P (f s x) e2)) (q : ∀ e', P (l.foldl f s) e' → Q .nx e') : Wx (forL gt g (l.map c)) env Q := by
  obtain ⟨e', h1, h2⟩ := forL_state (gt := gt) (g := g) c f P h0 (fun x hx s e hp => by
    obtain ⟨e1, a1, fl, e2, a2, a3, a4⟩ := hb x hx s e hp
    exact ⟨e1, e2, a1, a3 ▸ a2, a4⟩)
  exact ⟨_, _, h1, q _ h2⟩
/-- a loop over numbers from 0 on, with what stands behind so many of them -/
theorem wx_forRange {gt : GF} {g : SF} (c : Nat → D) (P : Nat → Env → Prop) {n : Nat} (h0 : P 0 env) (hb : ∀ k, k < n → ∀ e, P k e → ∃ e1, gt (c k) e = .ok e1 ∧ Wx g e1 (fun fl e2 => fl = .nx ∧ P (k + 1) e2)) (q : ∀ e', P n e' → Q .nx e') : Wx (forL gt g ((List.range n).map c)) env Q := by
  have key : ∀ (m : Nat) (k : Nat) (e : Env), k + m = n → P k e → Wx (forL gt g (((List.range n).drop k).map c)) e Q := fun m => by
    induction m with
    | zero =>
      intro k e hk hp
      obtain rfl : k = n := by omega
      rw [List.drop_eq_nil_of_le (by simp)]
      exact wx_forNil (q _ hp)
    | succ m ih =>
      intro k e hk hp
      rw [List.drop_eq_getElem_cons (by simp; omega), List.map_cons]
      simp only [List.getElem_range]
      obtain ⟨e1, a1, fl, e2, a2, a3, a4⟩ := hb k (by omega) e hp
      subst a3
      exact wx_forCons a1 ⟨_, _, a2, ih (k + 1) e2 (by omega) a4⟩
  have := key n 0 env (by omega) h0
  simpa using this
/-- a loop that tells v where q fails -/
theorem wx_forAll {α : Type} {gt : GF} {g : SF} {v : D} (c : α → D) (q : α → Bool) (P : Env → Prop) {l : List α} (h0 : P env) (hb : ∀ x ∈ l, ∀ e, P e → ∃ e1, gt (c x) e = .ok e1 ∧ Wx g e1 (fun fl e2 => if q x = true then fl = .nx ∧ P e2 else fl = .rt v)) (ht : l.all q = true → ∀ e', P e' → Q .nx e') (hf : l.all q = false → ∀ e', Q (.rt v) e') : Wx (forL gt g (l.map c)) env Q := by
  induction l generalizing env with
  | nil => exact wx_forNil (ht rfl _ h0)
  | cons x l ih =>
    obtain ⟨e1, a1, fl, e2, a2, a3⟩ := hb x List.mem_cons_self env h0
    rw [List.map_cons]
    refine wx_forCons a1 ⟨_, _, a2, ?_⟩
    cases hq : q x with
    | true =>
      rw [hq, if_pos rfl] at a3
      obtain ⟨rfl, a4⟩ := a3
      refine ih a4 (fun y hy => hb y (List.mem_cons_of_mem _ hy)) (fun h => ht ?_) (fun h => hf ?_)
      · rw [List.all_cons, hq, h]; rfl
      · rw [List.all_cons, hq, h]; rfl
    | false =>
      rw [hq, if_neg Bool.false_ne_true] at a3
      subst a3
      exact hf (by rw [List.all_cons, hq]; rfl) e2
theorem wx_sWhile {n : Nat} {fc : Env → R Bool} {g : SF} (P : Nat → Env → Prop) {stop : Nat} (h0 : P 0 env) (hn : stop < n) (hb : ∀ k, k < stop → ∀ e, P k e → fc e = .ok true ∧ Wx g e (fun fl e2 => fl = .nx ∧ P (k + 1) e2)) (hs : ∀ e, P stop e → fc e = .ok false ∧ Q .nx e) : Wx (sWhile n fc g) env Q := by
  have key : ∀ (fuel k : Nat) (e : Env), k ≤ stop → stop - k < fuel → P k e → Wx (whileL fc g fuel) e Q := fun fuel => by
    induction fuel with
    | zero => intro k e _ h; omega
    | succ fuel ih =>
      intro k e hk hf hp
      by_cases h : k = stop
      · subst h
        obtain ⟨a1, a2⟩ := hs e hp
        exact ⟨_, _, by rw [whileL, a1, R.bindP_ok, if_neg Bool.false_ne_true], a2⟩
      · obtain ⟨a1, fl, e2, a2, a3, a4⟩ := hb k (by omega) e hp
        subst a3
        obtain ⟨x, y, b1, b2⟩ := ih (k + 1) e2 (by omega) (by omega) a4
        exact ⟨x, y, by rw [whileL, a1, R.bindP_ok, if_pos rfl, a2, R.bind_ok]; exact b1, b2⟩
  exact key n 0 env (by omega) (by omega) h0
/-- .. while, with what is less each time -/
theorem wx_whileV {α : Type} {n : Nat} {fc : Env → R Bool} {g : SF} (E : α → Env) (m : α → Nat) (I : α → Prop) {a : α} (he : env = E a) (h0 : I a) (hn : m a < n) (hb : ∀ a, I a → (fc (E a) = .ok true ∧ Wx g (E a) (fun fl e2 => fl = .nx ∧ ∃ a', e2 = E a' ∧ I a' ∧ m a' < m a)) ∨ (fc (E a) = .ok false ∧ Q .nx (E a))) : Wx (sWhile n fc g) env Q := by
  subst he
  have key : ∀ (fuel : Nat) (a : α), m a < fuel → I a → Wx (whileL fc g fuel) (E a) Q := fun fuel => by
    induction fuel with
    | zero => intro a h; omega
    | succ fuel ih =>
      intro a hm hI
      rcases hb a hI with ⟨a1, fl, e2, a2, a3, a', a4, a5, a6⟩ | ⟨a1, a2⟩
      · subst a3 a4
        obtain ⟨x, y, b1, b2⟩ := ih a' (by omega) a5
        exact ⟨x, y, by rw [whileL, a1, R.bindP_ok, if_pos rfl, a2, R.bind_ok]; exact b1, b2⟩
      · exact ⟨_, _, by rw [whileL, a1, R.bindP_ok, if_neg Bool.false_ne_true], a2⟩
  exact key n a hn h0
end
/-! ### what changes sources -/
section
variable {env e' e1 e2 : Env} {i j n : Nat} {d d' : D}
theorem wx_eP {f : PF} {Q : D → Env → Prop} (h : f env = .ok d) (q : Q d env) : Wx (eP f) env Q := ⟨_, _, eP_ok h, q⟩
theorem wx_eT {f : Env → R Bool} {b : Bool} {Q : Bool → Env → Prop} (h : f env = .ok b) (q : Q b env) : Wx (eT f) env Q := ⟨_, _, eT_ok h, q⟩
theorem wx_eO {f : Env → R (List D)} {ds : List D} {Q : List D → Env → Prop} (h : f env = .ok ds) (q : Q ds env) : Wx (eO f) env Q := ⟨_, _, eO_ok h, q⟩
theorem wx_eI {f : IF} {ds : List D} {Q : List D → Env → Prop} (h : f env = .ok ds) (q : Q ds env) : Wx (eI f) env Q := ⟨_, _, eI_ok h, q⟩
theorem wx_eYes {Q : Bool → Env → Prop} (q : Q true env) : Wx eYes env Q := ⟨_, _, rfl, q⟩
def setQ (i : Nat) (Q : Flo → Env → Prop) : D → Env → Prop := fun d e => Q .nx (e.set i (some d))
theorem setQ_ok {Q : Flo → Env → Prop} (hs : env.set i (some d) = e') (q : Q .nx e') : setQ i Q d env := by unfold setQ; rw [hs]; exact q
theorem wx_eSet {f : EF} {Q : Flo → Env → Prop} (h : Wx f env (setQ i Q)) : Wx (eSet i f) env Q := by
  obtain ⟨d, e, h1, h2⟩ := h
  exact ⟨_, _, eSet_ok h1, h2⟩
def setLQ (i : Nat) (Q : Flo → Env → Prop) : List D → Env → Prop := fun d e => Q .nx (e.set i (some (.list d)))
theorem setLQ_ok {Q : Flo → Env → Prop} {ds : List D} (hs : env.set i (some (.list ds)) = e') (q : Q .nx e') : setLQ i Q ds env := by unfold setLQ; rw [hs]; exact q
theorem wx_eSetL {f : EAF} {Q : Flo → Env → Prop} (h : Wx f env (setLQ i Q)) : Wx (eSetL i f) env Q := by
  obtain ⟨d, e, h1, h2⟩ := h
  exact ⟨_, _, eSetL_ok h1, h2⟩
def tgtQ (g : GF) (Q : Flo → Env → Prop) : D → Env → Prop := fun d e => ∃ e', g d e = .ok e' ∧ Q .nx e'
theorem tgtQ_ok {g : GF} {Q : Flo → Env → Prop} (hg : g d env = .ok e') (q : Q .nx e') : tgtQ g Q d env := ⟨_, hg, q⟩
theorem wx_eTgt {g : GF} {f : EF} {Q : Flo → Env → Prop} (h : Wx f env (tgtQ g Q)) : Wx (eTgt g f) env Q := by
  obtain ⟨d, e, h1, e', h2, h3⟩ := h
  exact ⟨_, _, eTgt_ok h1 h2, h3⟩
def retQ (Q : Flo → Env → Prop) : D → Env → Prop := fun d e => Q (.rt d) e
theorem retQ_ok {Q : Flo → Env → Prop} (q : Q (.rt d) env) : retQ Q d env := q
theorem wx_eRet {f : EF} {Q : Flo → Env → Prop} (h : Wx f env (retQ Q)) : Wx (eRet f) env Q := by
  obtain ⟨d, e, h1, h2⟩ := h
  exact ⟨_, _, eRet_ok h1, h2⟩
def exprQ (Q : Flo → Env → Prop) : D → Env → Prop := fun _ e => Q .nx e
theorem exprQ_ok {Q : Flo → Env → Prop} (q : Q .nx env) : exprQ Q d env := q
theorem wx_eExpr {f : EF} {Q : Flo → Env → Prop} (h : Wx f env (exprQ Q)) : Wx (eExpr f) env Q := by
  obtain ⟨d, e, h1, h2⟩ := h
  exact ⟨_, _, by unfold eExpr; rw [h1]; rfl, h2⟩
theorem wx_eaNil {Q : List D → Env → Prop} (q : Q [] env) : Wx eaNil env Q := ⟨_, _, rfl, q⟩
def con2Q (d : D) (Q : List D → Env → Prop) : List D → Env → Prop := fun ds e => Q (d :: ds) e
def con1Q (g : EAF) (Q : List D → Env → Prop) : D → Env → Prop := fun d e => Wx g e (con2Q d Q)
theorem con1Q_ok {g : EAF} {Q : List D → Env → Prop} (h : Wx g env (con2Q d Q)) : con1Q g Q d env := h
theorem con2Q_ok {ds : List D} {Q : List D → Env → Prop} (h : Q (d :: ds) env) : con2Q d Q ds env := h
theorem wx_eaCons {f : EF} {g : EAF} {Q : List D → Env → Prop} (h : Wx f env (con1Q g Q)) : Wx (eaCons f g) env Q := by
  obtain ⟨d, e, h1, ds, e2, h2, h3⟩ := h
  refine ⟨_, _, ?_, h3⟩
  unfold eaCons
  rw [h1, R.bind_ok]
  show R.bind (g e) _ = _
  rw [h2]
  rfl
def fnQ (i : Nat) (e : Env) (Q : D → Env → Prop) : D → D → Prop := fun d s => Q d (e.set i (some s))
theorem fnQ_ok {Q : D → Env → Prop} {s : D} (hs : env.set i (some s) = e') (q : Q d e') : fnQ i env Q d s := by unfold fnQ; rw [hs]; exact q
def fnmQ (i n : Nat) (F : List D → R (D × D)) (Q : D → Env → Prop) : List D → Env → Prop := fun ds e => ∃ s, slotAt e i = .ok s ∧ ds.length + 1 = n ∧ WF F (s :: ds) (fnQ i e Q)
theorem fnmQ_ok {F : List D → R (D × D)} {Q : D → Env → Prop} {ds : List D} {s : D} (hs : env[i]? = some (some s)) (hn : ds.length + 1 = n) (h : WF F (s :: ds) (fnQ i env Q)) : fnmQ i n F Q ds env := ⟨s, slot_ok hs, hn, h⟩
theorem wx_eFnM {F : List D → R (D × D)} {fa : EAF} {Q : D → Env → Prop} {s0 : D} (h0 : env[i]? = some (some s0)) (h : Wx fa env (fnmQ i n F Q)) : Wx (eFnM i n F fa) env Q := by
  obtain ⟨ds, e, h1, s, h2, h3, d, s', h4, h5⟩ := h
  exact ⟨_, _, eFnM_ok (slot_ok h0) h1 h2 h3 h4, h5⟩
def fneQ (n : Nat) (F : List D → R D) (Q : D → Env → Prop) : List D → Env → Prop := fun ds e => ∃ d, ds.length = n ∧ F ds = .ok d ∧ Q d e
theorem fneQ_ok {F : List D → R D} {Q : D → Env → Prop} {ds : List D} (hn : ds.length = n) (h : F ds = .ok d) (q : Q d env) : fneQ n F Q ds env := ⟨d, hn, h, q⟩
theorem wx_eFn {F : List D → R D} {fa : EAF} {Q : D → Env → Prop} (h : Wx fa env (fneQ n F Q)) : Wx (eFn n F fa) env Q := by
  obtain ⟨ds, e, h1, d, h2, h3, h4⟩ := h
  exact ⟨_, _, eFn_ok h1 h2 h3, h4⟩
def callQ (g : List D → R D) (Q : D → Env → Prop) : List D → Env → Prop := fun ds e => ∃ d, g ds = .ok d ∧ Q d e
theorem callQ_ok {g : List D → R D} {Q : D → Env → Prop} {ds : List D} (h : g ds = .ok d) (q : Q d env) : callQ g Q ds env := ⟨d, h, q⟩
theorem wx_eCall {g : List D → R D} {fa : EAF} {Q : D → Env → Prop} (h : Wx fa env (callQ g Q)) : Wx (eCall g fa) env Q := by
  obtain ⟨ds, e, h1, d, h2, h3⟩ := h
  refine ⟨_, _, ?_, h3⟩
  unfold eCall
  rw [h1, R.bind_ok]
  show R.bind (g ds) _ = _
  rw [h2]
  rfl
def bin2Q (g : D → D → R D) (a : D) (Q : D → Env → Prop) : D → Env → Prop := fun b e => ∃ c, g a b = .ok c ∧ Q c e
def bin1Q (g : D → D → R D) (fb : EF) (Q : D → Env → Prop) : D → Env → Prop := fun a e => Wx fb e (bin2Q g a Q)
theorem bin1Q_ok {g : D → D → R D} {fb : EF} {Q : D → Env → Prop} (h : Wx fb env (bin2Q g d Q)) : bin1Q g fb Q d env := h
theorem bin2Q_ok {g : D → D → R D} {a b c : D} {Q : D → Env → Prop} (h : g a b = .ok c) (q : Q c env) : bin2Q g a Q b env := ⟨c, h, q⟩
theorem wx_eBin {g : D → D → R D} {fa fb : EF} {Q : D → Env → Prop} (h : Wx fa env (bin1Q g fb Q)) : Wx (eBin g fa fb) env Q := by
  obtain ⟨a, e, h1, b, e2, h2, c, h3, h4⟩ := h
  exact ⟨_, _, eBin_ok h1 h2 h3, h4⟩
def unQ (g : D → R D) (Q : D → Env → Prop) : D → Env → Prop := fun a e => ∃ c, g a = .ok c ∧ Q c e
theorem unQ_ok {g : D → R D} {a c : D} {Q : D → Env → Prop} (h : g a = .ok c) (q : Q c env) : unQ g Q a env := ⟨c, h, q⟩
theorem wx_eUn {g : D → R D} {fa : EF} {Q : D → Env → Prop} (h : Wx fa env (unQ g Q)) : Wx (eUn g fa) env Q := by
  obtain ⟨a, e, h1, c, h2, h3⟩ := h
  refine ⟨_, _, ?_, h3⟩
  unfold eUn
  rw [h1, R.bind_ok]
  show R.bind (g a) _ = _
  rw [h2]
  rfl
def elistQ (Q : D → Env → Prop) : List D → Env → Prop := fun ds e => Q (.list ds) e
theorem elistQ_ok {ds : List D} {Q : D → Env → Prop} (q : Q (.list ds) env) : elistQ Q ds env := q
theorem wx_eList {f : EAF} {Q : D → Env → Prop} (h : Wx f env (elistQ Q)) : Wx (eList f) env Q := by
  obtain ⟨ds, e, h1, h2⟩ := h
  exact ⟨_, _, eList_ok h1, h2⟩
def etupQ (Q : D → Env → Prop) : List D → Env → Prop := fun ds e => ds.length ≤ sizeLine ∧ Q (.tuple ds) e
theorem etupQ_ok {ds : List D} {Q : D → Env → Prop} (hz : ds.length ≤ sizeLine) (q : Q (.tuple ds) env) : etupQ Q ds env := ⟨hz, q⟩
theorem wx_eTup {f : EAF} {Q : D → Env → Prop} (h : Wx f env (etupQ Q)) : Wx (eTup f) env Q := by
  obtain ⟨ds, e, h1, h2, h3⟩ := h
  refine ⟨_, _, ?_, h3⟩
  unfold eTup
  rw [h1, R.bind_ok]
  show R.when _ _ = _
  rw [decide_eq_true h2, R.when_true]
def elstQ (Q : List D → Env → Prop) : List D → Env → Prop := fun ds e => ds.length ≤ sizeLine ∧ Q ds e
theorem elstQ_ok {ds : List D} {Q : List D → Env → Prop} (hz : ds.length ≤ sizeLine) (q : Q ds env) : elstQ Q ds env := ⟨hz, q⟩
theorem wx_eLst {f : EAF} {Q : List D → Env → Prop} (h : Wx f env (elstQ Q)) : Wx (eLst f) env Q := by
  obtain ⟨ds, e, h1, h2, h3⟩ := h
  refine ⟨_, _, ?_, h3⟩
  unfold eLst
  rw [h1, R.bind_ok]
  show R.when _ _ = _
  rw [decide_eq_true h2, R.when_true]
def tstQ (Q : Bool → Env → Prop) : D → Env → Prop := fun d e => ∃ b, toB d = .ok b ∧ Q b e
theorem tstQ_ok {b : Bool} {Q : Bool → Env → Prop} (q : Q b env) : tstQ Q (.bool b) env := ⟨b, rfl, q⟩
theorem wx_eTst {f : EF} {Q : Bool → Env → Prop} (h : Wx f env (tstQ Q)) : Wx (eTst f) env Q := by
  obtain ⟨d, e, h1, b, h2, h3⟩ := h
  refine ⟨_, _, ?_, h3⟩
  unfold eTst
  rw [h1, R.bind_ok]
  show R.bind (toB d) _ = _
  rw [h2]
  rfl
def andQ (g : ETF) (Q : Bool → Env → Prop) : Bool → Env → Prop := fun b e => (b = true → Wx g e Q) ∧ (b = false → Q false e)
theorem andQ_t {g : ETF} {b : Bool} {Q : Bool → Env → Prop} (hb : b = true) (q : Wx g env Q) : andQ g Q b env := ⟨fun _ => q, fun h => absurd (hb.symm.trans h) Bool.noConfusion⟩
theorem andQ_f {g : ETF} {b : Bool} {Q : Bool → Env → Prop} (hb : b = false) (q : Q false env) : andQ g Q b env := ⟨fun h => absurd (hb.symm.trans h) Bool.noConfusion, fun _ => q⟩
theorem andQ_w {g : ETF} {b : Bool} {Q : Bool → Env → Prop} (h1 : b = true → Wx g env Q) (h2 : b = false → Q false env) : andQ g Q b env := ⟨h1, h2⟩
theorem wx_eAnd {f g : ETF} {Q : Bool → Env → Prop} (h : Wx f env (andQ g Q)) : Wx (eAnd f g) env Q := by
  obtain ⟨b, e, h1, h2, h3⟩ := h
  cases b with
  | true => obtain ⟨x, y, h4, h5⟩ := h2 rfl; exact ⟨x, y, eAnd_t h1 h4, h5⟩
  | false => exact ⟨_, _, eAnd_f h1, h3 rfl⟩
def orQ (g : ETF) (Q : Bool → Env → Prop) : Bool → Env → Prop := fun b e => (b = false → Wx g e Q) ∧ (b = true → Q true e)
theorem orQ_f {g : ETF} {b : Bool} {Q : Bool → Env → Prop} (hb : b = false) (q : Wx g env Q) : orQ g Q b env := ⟨fun _ => q, fun h => absurd (hb.symm.trans h) Bool.noConfusion⟩
theorem orQ_t {g : ETF} {b : Bool} {Q : Bool → Env → Prop} (hb : b = true) (q : Q true env) : orQ g Q b env := ⟨fun h => absurd (hb.symm.trans h) Bool.noConfusion, fun _ => q⟩
theorem wx_eOr {f g : ETF} {Q : Bool → Env → Prop} (h : Wx f env (orQ g Q)) : Wx (eOr f g) env Q := by
  obtain ⟨b, e, h1, h2, h3⟩ := h
  cases b with
  | false =>
    obtain ⟨x, y, h4, h5⟩ := h2 rfl
    refine ⟨x, y, ?_, h5⟩
    unfold eOr
    rw [h1, R.bind_ok, if_neg Bool.false_ne_true]
    exact h4
  | true =>
    refine ⟨_, _, ?_, h3 rfl⟩
    unfold eOr
    rw [h1, R.bind_ok, if_pos rfl]
def notQ (Q : Bool → Env → Prop) : Bool → Env → Prop := fun b e => Q (!b) e
theorem notQ_ok {b : Bool} {Q : Bool → Env → Prop} (q : Q (!b) env) : notQ Q b env := q
theorem wx_eNot {f : ETF} {Q : Bool → Env → Prop} (h : Wx f env (notQ Q)) : Wx (eNot f) env Q := by
  obtain ⟨b, e, h1, h2⟩ := h
  refine ⟨_, _, ?_, h2⟩
  unfold eNot
  rw [h1, R.bind_ok]
def ifQ {α : Type} (f g : Env → R (α × Env)) (Q : α → Env → Prop) : Bool → Env → Prop := fun b e => (b = true → Wx f e Q) ∧ (b = false → Wx g e Q)
theorem ifQ_t {α : Type} {f g : Env → R (α × Env)} {Q : α → Env → Prop} {b : Bool} (hb : b = true) (q : Wx f env Q) : ifQ f g Q b env := ⟨fun _ => q, fun h => absurd (hb.symm.trans h) Bool.noConfusion⟩
theorem ifQ_f {α : Type} {f g : Env → R (α × Env)} {Q : α → Env → Prop} {b : Bool} (hb : b = false) (q : Wx g env Q) : ifQ f g Q b env := ⟨fun h => absurd (hb.symm.trans h) Bool.noConfusion, fun _ => q⟩
theorem ifQ_w {α : Type} {f g : Env → R (α × Env)} {Q : α → Env → Prop} {b : Bool} (ht : b = true → Wx f env Q) (hf : b = false → Wx g env Q) : ifQ f g Q b env := ⟨ht, hf⟩
theorem wx_eIfS {c : ETF} {g g' : SF} {Q : Flo → Env → Prop} (h : Wx c env (ifQ g g' Q)) : Wx (eIfS c g g') env Q := by
  obtain ⟨b, e, h1, h2, h3⟩ := h
  cases b with
  | true => obtain ⟨x, y, h4, h5⟩ := h2 rfl; exact ⟨x, y, eIfS_t h1 h4, h5⟩
  | false => obtain ⟨x, y, h4, h5⟩ := h3 rfl; exact ⟨x, y, eIfS_f h1 h4, h5⟩
theorem wx_eIf {c : ETF} {f g : EF} {Q : D → Env → Prop} (h : Wx c env (ifQ f g Q)) : Wx (eIf c f g) env Q := by
  obtain ⟨b, e, h1, h2, h3⟩ := h
  cases b with
  | true => obtain ⟨x, y, h4, h5⟩ := h2 rfl; exact ⟨x, y, eIf_t h1 h4, h5⟩
  | false => obtain ⟨x, y, h4, h5⟩ := h3 rfl; exact ⟨x, y, eIf_f h1 h4, h5⟩
def parQ (i j : Nat) (Q : Flo → Env → Prop) : List D → Env → Prop := fun ds e => ∃ a b, ds = [a, b] ∧ Q .nx ((e.set i (some a)).set j (some b))
theorem parQ_ok {a b : D} {Q : Flo → Env → Prop} (hs : env.set i (some a) = e1) (hs2 : e1.set j (some b) = e2) (q : Q .nx e2) : parQ i j Q [a, b] env := ⟨a, b, rfl, by rw [hs, hs2]; exact q⟩
theorem wx_ePar {f : EAF} {Q : Flo → Env → Prop} (h : Wx f env (parQ i j Q)) : Wx (ePar i j f) env Q := by
  obtain ⟨ds, e, h1, a, b, rfl, h2⟩ := h
  refine ⟨_, _, ?_, h2⟩
  unfold ePar
  rw [h1, R.bindP_ok]
  rfl
def storQ (is : List Nat) (Q : Flo → Env → Prop) : List D → Env → Prop := fun ds e => Q .nx (storeE e is ds)
theorem storQ_ok {is : List Nat} {ds : List D} {Q : Flo → Env → Prop} (hs : storeE env is ds = e') (q : Q .nx e') : storQ is Q ds env := by unfold storQ; rw [hs]; exact q
theorem storeN {env : Env} {ds : List D} : storeE env [] ds = env := by cases ds <;> rfl
theorem storeC {env e1 e2 : Env} {i : Nat} {is : List Nat} {d : D} {ds : List D} (h : env.set i (some d) = e1) (h2 : storeE e1 is ds = e2) : storeE env (i :: is) (d :: ds) = e2 := by rw [storeE, h, h2]
theorem wx_eStore {is : List Nat} {f : EAF} {Q : Flo → Env → Prop} (h : Wx f env (storQ is Q)) : Wx (eStore is f) env Q := by
  obtain ⟨ds, e, h1, h2⟩ := h
  refine ⟨_, _, ?_, h2⟩
  unfold eStore
  rw [h1, R.bindP_ok]
def forQ (gt : GF) (g : SF) (Q : Flo → Env → Prop) : List D → Env → Prop := fun ds e => Wx (forL gt g ds) e Q
theorem forQ_ok {gt : GF} {g : SF} {ds : List D} {Q : Flo → Env → Prop} (q : Wx (forL gt g ds) env Q) : forQ gt g Q ds env := q
theorem wx_eFor {fi : EIF} {gt : GF} {g : SF} {Q : Flo → Env → Prop} (h : Wx fi env (forQ gt g Q)) : Wx (eFor fi gt g) env Q := by
  obtain ⟨ds, e, h1, x, y, h2, h3⟩ := h
  exact ⟨x, y, eFor_ok h1 h2, h3⟩
def appQ (i : Nat) (Q : Flo → Env → Prop) : D → Env → Prop := fun d e => ∃ ds, e[i]? = some (some (.list ds)) ∧ ds.length < sizeLine ∧ Q .nx (e.set i (some (.list (ds ++ [d]))))
theorem appQ_ok {ds : List D} {Q : Flo → Env → Prop} (h : env[i]? = some (some (.list ds))) (hz : ds.length < sizeLine) (hs : env.set i (some (.list (ds ++ [d]))) = e') (q : Q .nx e') : appQ i Q d env := ⟨ds, h, hz, by rw [hs]; exact q⟩
theorem wx_eApp {f : EF} {Q : Flo → Env → Prop} (h : Wx f env (appQ i Q)) : Wx (eApp i f) env Q := by
  obtain ⟨d, e, h1, ds, h2, h3, h4⟩ := h
  refine ⟨_, _, ?_, h4⟩
  unfold eApp
  rw [h1, R.bindP_ok]
  show R.bindP (lstAt e i) _ = _
  rw [lst_ok h2, R.bindP_ok, decide_eq_true h3, R.when_true]
def rngQ (g : List D → R (List D)) (Q : List D → Env → Prop) : List D → Env → Prop := fun as e => ∃ ds, g as = .ok ds ∧ Q ds e
theorem rngQ_ok {g : List D → R (List D)} {as ds : List D} {Q : List D → Env → Prop} (h : g as = .ok ds) (q : Q ds env) : rngQ g Q as env := ⟨ds, h, q⟩
theorem wx_eRng {g : List D → R (List D)} {f : EAF} {Q : List D → Env → Prop} (h : Wx f env (rngQ g Q)) : Wx (eRng g f) env Q := by
  obtain ⟨as, e, h1, ds, h2, h3⟩ := h
  exact ⟨_, _, eRng_ok h1 h2, h3⟩
theorem rng1_w {n : Nat} (hn : n < 2 ^ 60) : rng1 [.int (n : Int)] = .ok ((List.range n).map fun (i : Nat) => PyData.int (i : Int)) := by
  rw [rng1_ok (by omega) (by omega), ← rgD0]; rfl
def itxQ (Q : List D → Env → Prop) : D → Env → Prop := fun d e => ∃ ds, itemsOf d = .ok ds ∧ Q ds e
theorem itxQ_ok {ds : List D} {Q : List D → Env → Prop} (h : itemsOf d = .ok ds) (q : Q ds env) : itxQ Q d env := ⟨ds, h, q⟩
theorem wx_eItX {f : EF} {Q : List D → Env → Prop} (h : Wx f env (itxQ Q)) : Wx (eItX f) env Q := by
  obtain ⟨d, e, h1, ds, h2, h3⟩ := h
  exact ⟨_, _, eItX_ok h1 h2, h3⟩
/-- lists of draws -/
def elcQ (vs : List Nat) (tgt : GF) (fe : EF) (Q : List D → Env → Prop) : List D → Env → Prop := fun ds e0 => Wx (eLc (fun e => .ok (ds, e)) vs tgt eYes fe) e0 Q
theorem wx_eLc {fi : EIF} {vs : List Nat} {tgt : GF} {fe : EF} {Q : List D → Env → Prop} (h : Wx fi env (elcQ vs tgt fe Q)) : Wx (eLc fi vs tgt eYes fe) env Q := by
  obtain ⟨ds, e, h1, x, y, h2, h3⟩ := h
  refine ⟨x, y, ?_, h3⟩
  unfold eLc at h2 ⊢
  rw [h1]
  exact h2
/-- .. where only the source is changed, and what is drawn has a property -/
theorem elcQ_draw {α : Type} {v : Nat} {fe : EF} {Q : List D → Env → Prop} {ds : List D} (E : D → Option D → Env) (c : α → D) (P : α → Prop) {cs : List Int} {l x t : Int} (he : env = E (srcD cs l x t) none) (hz : ds.length ≤ sizeLine)
    (hset : ∀ s d, setE v d (E s none) = .ok (E s (some d))) (hw : ∀ s o, wipeE (E s o) [v] = E s none) (hr : ∀ s s', restE (E s none) (E s' none) [v] = E s' none)
    (hfe : ∀ cs l x t d, d ∈ ds → Wx fe (E (srcD cs l x t) (some d)) (fun y e' => ∃ (a : α) (cs' : List Int) (l' x' t' : Int), y = c a ∧ e' = E (srcD cs' l' x' t') (some d) ∧ P a))
    (q : ∀ (ys : List α) (cs' : List Int) (l' x' t' : Int), ys.length = ds.length → (∀ y ∈ ys, P y) → Q (ys.map c) (E (srcD cs' l' x' t') none)) : elcQ [v] (setE v) fe Q ds env := by
  subst he
  obtain ⟨ys, cs', l', x', t', h1, h2, h3⟩ := lc_draw (fi := fun e => .ok (ds, e)) (fe := fe) (v := v) E (ds := ds) c P (s0 := srcD cs l x t) (cs := cs) (l := l) (x := x) (t := t) hz rfl hset hw hr (fun cs l x t d hd => by
    obtain ⟨y, e', h1, a, cs', l', x', t', rfl, rfl, h4⟩ := hfe cs l x t d hd
    exact ⟨a, cs', l', x', t', h1, h4⟩)
  exact ⟨_, _, h1, q ys cs' l' x' t' h2 h3⟩
end
/-! ### ends -/
theorem run_w {n : Nat} {g : SF} {args : List D} {d : D} (h : Wx g (args.map some ++ List.replicate (n - args.length) none) (fun fl _ => fl = .rt d)) : run n g args = .ok d := by
  obtain ⟨fl, e, h1, rfl⟩ := h
  exact run_ok h1
theorem runM_w {n : Nat} {g : SF} {args : List D} {Q : D → D → Prop} (h : Wx g (args.map some ++ List.replicate (n - args.length) none) (fun fl e => ∃ d s, fl = .rt d ∧ e[0]? = some (some s) ∧ Q d s)) : WF (runM n g) args Q := by
  obtain ⟨fl, e, h1, d, s, rfl, h2, h3⟩ := h
  exact ⟨d, s, runM_ok' h1 h2, h3⟩
theorem law_w {i n : Nat} {g : SF} (h : ∀ cs l x t, Wx g ((List.replicate n none).set i (some (srcD cs l x t))) (fun fl _ => fl = .rt (.bool true))) : LawTrue i n g := by
  intro cs l x t
  obtain ⟨fl, e, h1, rfl⟩ := h cs l x t
  exact ⟨e, h1⟩
theorem wf_pick {F : List D → R (D × D)} (hF : PickOk F) {cs : List Int} {l x t : Int} {m : Nat} {Q : D → D → Prop} (hm : m < 2 ^ 30) (q : ∀ (r : Nat) (cs' : List Int) (l' x' t' : Int), (r < m ∨ m < 2 ∧ r = 0) → Q (.int (r : Int)) (srcD cs' l' x' t')) : WF F [srcD cs l x t, .int (m : Int)] Q := by
  obtain ⟨r, cs', l', x', t', h1, h2, h3⟩ := hF cs l x t (m : Int) (by omega)
  obtain ⟨r, rfl⟩ := Int.eq_ofNat_of_zero_le h2
  exact ⟨_, _, h1, q r cs' l' x' t' (by omega)⟩
end Dz

set_option maxRecDepth 100000
set_option maxHeartbeats 2000000
namespace Dz
open PySem PySem.Spec PyProof.Rows L2
/-! ## more rules -/
theorem cTru_ok' {f : PF} {env : Env} {d : D} {b : Bool} (h : f env = .ok d) (h2 : gTru d = .ok b) : cTru f env = .ok b := by unfold cTru; rw [h]; exact h2
theorem gTru_bool {b : Bool} : gTru (.bool b) = .ok b := rfl
theorem gTru_list {ds : List D} : gTru (.list ds) = .ok (!ds.isEmpty) := rfl
theorem gTru_tuple {ds : List D} : gTru (.tuple ds) = .ok (!ds.isEmpty) := rfl
theorem isi_tt {ds : List D} : gIsi "tuple" (.tuple ds) = .ok (.bool true) := rfl
theorem isi_tw {w : List Int} : gIsi "tuple" (wD w) = .ok (.bool true) := rfl
theorem isi_ti {i : Int} : gIsi "tuple" (.int i) = .ok (.bool false) := rfl
theorem isi_tl {ds : List D} : gIsi "tuple" (.list ds) = .ok (.bool false) := rfl
theorem isi_tb {i : Bool} : gIsi "tuple" (.bool i) = .ok (.bool false) := rfl
theorem isi_ts {i : Str} : gIsi "tuple" (.str i) = .ok (.bool false) := rfl
theorem isi_tn : gIsi "tuple" .none = .ok (.bool false) := rfl
theorem isi_ii {i : Int} : gIsi "int" (.int i) = .ok (.bool true) := rfl
theorem isi_ib {i : Bool} : gIsi "int" (.bool i) = .ok (.bool true) := rfl
theorem isi_it {ds : List D} : gIsi "int" (.tuple ds) = .ok (.bool false) := rfl
theorem isi_iw {w : List Int} : gIsi "int" (wD w) = .ok (.bool false) := rfl
theorem isi_il {ds : List D} : gIsi "int" (.list ds) = .ok (.bool false) := rfl
theorem isi_is {i : Str} : gIsi "int" (.str i) = .ok (.bool false) := rfl
theorem isi_in : gIsi "int" .none = .ok (.bool false) := rfl
theorem isi_bi {i : Int} : gIsi "bool" (.int i) = .ok (.bool false) := rfl
theorem isi_bb {i : Bool} : gIsi "bool" (.bool i) = .ok (.bool true) := rfl
theorem isi_bt {ds : List D} : gIsi "bool" (.tuple ds) = .ok (.bool false) := rfl
theorem isi_bw {w : List Int} : gIsi "bool" (wD w) = .ok (.bool false) := rfl
theorem isi_bl {ds : List D} : gIsi "bool" (.list ds) = .ok (.bool false) := rfl
theorem isi_bs {i : Str} : gIsi "bool" (.str i) = .ok (.bool false) := rfl
theorem isi_bn : gIsi "bool" .none = .ok (.bool false) := rfl
theorem elemD_ints (a : Int) (ns : List Int) : elemD (.int a) (ns.map PyData.int) = decide (a ∈ ns) := by
  unfold elemD
  rw [List.any_map, Bool.eq_iff_iff, List.any_eq_true, decide_eq_true_eq]
  constructor
  · rintro ⟨x, hx, h⟩
    have : PyData.eqv (.int x) (.int a) = true := h
    have := of_decide_eq_true (show decide (x = a) = true by simpa [PyData.eqv] using this)
    subst this; exact hx
  · intro h
    exact ⟨a, h, by show PyData.eqv (.int a) (.int a) = true; simp [PyData.eqv]⟩
theorem shapedT_ints (ns : List Int) : SeqAt.shaped (.tuple (ns.map PyData.int)) = true := shaped_wD ns
theorem gIn_ints (a : Int) (ns : List Int) : gInS false (.int a) (.list (ns.map PyData.int)) = .ok (.bool (decide (a ∈ ns))) := by
  show R.when (SeqAt.shaped (.int a) && SeqAt.shaped (.list (ns.map PyData.int))) (R.ok (PyData.bool (elemD (.int a) (ns.map PyData.int)))) = _
  rw [shaped_int, shaped_ints, elemD_ints]; rfl
theorem gNotIn_ints (a : Int) (ns : List Int) : gInS true (.int a) (.list (ns.map PyData.int)) = .ok (.bool (!decide (a ∈ ns))) := by
  show R.when (SeqAt.shaped (.int a) && SeqAt.shaped (.list (ns.map PyData.int))) (R.ok (PyData.bool (!elemD (.int a) (ns.map PyData.int)))) = _
  rw [shaped_int, shaped_ints, elemD_ints]; rfl
theorem gIn_wD (a : Int) (ns : List Int) : gInS false (.int a) (wD ns) = .ok (.bool (decide (a ∈ ns))) := by
  show R.when (SeqAt.shaped (.int a) && SeqAt.shaped (wD ns)) (R.ok (PyData.bool (elemD (.int a) (ns.map PyData.int)))) = _
  rw [shaped_int, shaped_wD, elemD_ints]; rfl
theorem gNotIn_wD (a : Int) (ns : List Int) : gInS true (.int a) (wD ns) = .ok (.bool (!decide (a ∈ ns))) := by
  show R.when (SeqAt.shaped (.int a) && SeqAt.shaped (wD ns)) (R.ok (PyData.bool (!elemD (.int a) (ns.map PyData.int)))) = _
  rw [shaped_int, shaped_wD, elemD_ints]; rfl
theorem nats_ints (ns : List Nat) : ns.map (fun (n : Nat) => PyData.int (n : Int)) = (ns.map fun (n : Nat) => (n : Int)).map PyData.int := by rw [List.map_map]; rfl
theorem fn_ints {α : Type} (f : α → Int) (ns : List α) : ns.map (fun a => PyData.int (f a)) = (ns.map f).map PyData.int := by rw [List.map_map]; rfl
theorem gIn_f {α : Type} (a : Int) (f : α → Int) (ns : List α) : gInS false (.int a) (.list (ns.map fun x => PyData.int (f x))) = .ok (.bool (decide (a ∈ ns.map f))) := by rw [fn_ints]; exact gIn_ints _ _
theorem gNotIn_f {α : Type} (a : Int) (f : α → Int) (ns : List α) : gInS true (.int a) (.list (ns.map fun x => PyData.int (f x))) = .ok (.bool (!decide (a ∈ ns.map f))) := by rw [fn_ints]; exact gNotIn_ints _ _
theorem gIn_fT {α : Type} (a : Int) (f : α → Int) (ns : List α) : gInS false (.int a) (.tuple (ns.map fun x => PyData.int (f x))) = .ok (.bool (decide (a ∈ ns.map f))) := by rw [fn_ints]; exact gIn_wD _ _
theorem gNotIn_fT {α : Type} (a : Int) (f : α → Int) (ns : List α) : gInS true (.int a) (.tuple (ns.map fun x => PyData.int (f x))) = .ok (.bool (!decide (a ∈ ns.map f))) := by rw [fn_ints]; exact gNotIn_wD _ _
theorem cRng2_wi {f g : PF} {env : Env} {i j : Int} (h : f env = .ok (.int i)) (h' : g env = .ok (.int j)) (h1 : -(2 ^ 60) ≤ i ∧ i < 2 ^ 60) (h2 : -(2 ^ 60) ≤ j ∧ j < 2 ^ 60) : cRng2 f g env = .ok ((List.range (j - i).toNat).map fun (k : Nat) => PyData.int (i + (k : Int))) := by
  rw [cRng2_ok h h' ⟨by omega, by omega, by omega, by omega⟩]; rfl
/-! lists of whole numbers are alike -/
theorem gEq_intsL (a b : List Int) : gEq (.list (a.map PyData.int)) (.list (b.map PyData.int)) = .ok (.bool (decide (a = b))) := by
  show R.when (SeqAt.shaped (.list (a.map PyData.int)) && SeqAt.shaped (.list (b.map PyData.int))) (R.ok (PyData.bool (PyData.eqv (.list (a.map PyData.int)) (.list (b.map PyData.int))))) = _
  rw [shaped_ints, shaped_ints, PyData.eqv, eqv_ints]; rfl
theorem gNe_intsL (a b : List Int) : gNe (.list (a.map PyData.int)) (.list (b.map PyData.int)) = .ok (.bool (!decide (a = b))) := by
  show R.when (SeqAt.shaped (.list (a.map PyData.int)) && SeqAt.shaped (.list (b.map PyData.int))) (R.ok (PyData.bool (!PyData.eqv (.list (a.map PyData.int)) (.list (b.map PyData.int))))) = _
  rw [shaped_ints, shaped_ints, PyData.eqv, eqv_ints]; rfl
theorem gEq_fL {α β : Type} (f : α → Int) (g : β → Int) (a : List α) (b : List β) : gEq (.list (a.map fun x => PyData.int (f x))) (.list (b.map fun x => PyData.int (g x))) = .ok (.bool (decide (a.map f = b.map g))) := by rw [fn_ints f a, fn_ints g b]; exact gEq_intsL _ _
theorem gNe_fL {α β : Type} (f : α → Int) (g : β → Int) (a : List α) (b : List β) : gNe (.list (a.map fun x => PyData.int (f x))) (.list (b.map fun x => PyData.int (g x))) = .ok (.bool (!decide (a.map f = b.map g))) := by rw [fn_ints f a, fn_ints g b]; exact gNe_intsL _ _
theorem gEq_fT {α β : Type} (f : α → Int) (g : β → Int) (a : List α) (b : List β) : gEq (.tuple (a.map fun x => PyData.int (f x))) (.tuple (b.map fun x => PyData.int (g x))) = .ok (.bool (decide (a.map f = b.map g))) := by rw [fn_ints f a, fn_ints g b]; exact gEq_wD _ _
theorem gNe_fT {α β : Type} (f : α → Int) (g : β → Int) (a : List α) (b : List β) : gNe (.tuple (a.map fun x => PyData.int (f x))) (.tuple (b.map fun x => PyData.int (g x))) = .ok (.bool (!decide (a.map f = b.map g))) := by rw [fn_ints f a, fn_ints g b]; exact gNe_wD _ _
theorem gNe_nilF {α : Type} (f : α → Int) (a : List α) : gNe (.list (a.map fun x => PyData.int (f x))) (.list []) = .ok (.bool (!a.isEmpty)) := by
  rw [fn_ints, gNe_empty (shaped_ints _)]; cases a <;> rfl
theorem gEq_nilF {α : Type} (f : α → Int) (a : List α) : gEq (.list (a.map fun x => PyData.int (f x))) (.list []) = .ok (.bool a.isEmpty) := by
  rw [fn_ints, gEq_empty (shaped_ints _)]; cases a <;> rfl
theorem gNe_nilW (a : List (List Int)) : gNe (.list (a.map wD)) (.list []) = .ok (.bool (!a.isEmpty)) := by
  rw [gNe_empty (shaped_ws _)]; cases a <;> rfl
theorem gEq_nilW (a : List (List Int)) : gEq (.list (a.map wD)) (.list []) = .ok (.bool a.isEmpty) := by
  rw [gEq_empty (shaped_ws _)]; cases a <;> rfl
theorem shaped_fW {α : Type} (f : α → List Int) (a : List α) : SeqAt.shaped (.list (a.map fun x => wD (f x))) = true := by
  have := shaped_ws (a.map f)
  rw [List.map_map] at this
  exact this
theorem gNe_nilFW {α : Type} (f : α → List Int) (a : List α) : gNe (.list (a.map fun x => wD (f x))) (.list []) = .ok (.bool (!a.isEmpty)) := by
  rw [gNe_empty (shaped_fW f a)]; cases a <;> rfl
theorem gList1_list {ds : List D} : gList1 [.list ds] = .ok (.list ds) := rfl
theorem gList1_tuple {ds : List D} : gList1 [.tuple ds] = .ok (.list ds) := rfl
theorem gList1_wD {w : List Int} : gList1 [wD w] = .ok (.list (w.map PyData.int)) := rfl
theorem cScal_w {f : PF} {env : Env} {d : D} (h : f env = .ok d) (hn : noRef d = true) : cScal f env = .ok d := cScal_ok h hn
theorem cScalL_w {f : Env → R (List D)} {env : Env} {ds : List D} (h : f env = .ok ds) (hn : noRefs ds = true) : cScalL f env = .ok ds := cScalL_ok h hn
theorem noRefs_f {α : Type} (f : α → Int) (a : List α) : noRefs (a.map fun x => PyData.int (f x)) = true := by rw [fn_ints]; exact noRefs_ints _
theorem noRefs_b {α : Type} (f : α → Bool) : ∀ a : List α, noRefs (a.map fun x => PyData.bool (f x)) = true
  | [] => by rw [List.map_nil, noRefs]
  | x :: a => by rw [List.map_cons, noRefs, noRefs_b f a]; rfl
theorem noRef_tupF {α : Type} (f : α → Int) (a : List α) : noRef (.tuple (a.map fun x => PyData.int (f x))) = true := by rw [noRef, noRefs_f]
theorem noRef_int {i : Int} : noRef (.int i) = true := rfl
theorem noRef_bool {i : Bool} : noRef (.bool i) = true := rfl
/-- whole numbers are shown -/
theorem Shw.big {i : Int} (h : i.natAbs < 10 ^ 18) : Shw (.int i) 0 20 where
  s := by
    show decide (i.natAbs.log2 < 1920) = true
    refine decide_eq_true ?_
    rcases Nat.eq_zero_or_pos i.natAbs with e | e
    · rw [e]; decide
    · exact (Nat.log2_lt (by omega)).mpr (Nat.lt_trans h (Nat.lt_trans (show 10 ^ 18 < 2 ^ 60 by decide) (Nat.pow_lt_pow_right (by decide) (by decide))))
  c := rfl
  e := by rw [PyData.depth]; exact Nat.zero_le _
  l := by
    show (Str.ofString (toString i)).length ≤ 20
    rw [PySem.ofString_length]
    exact Nat.le_trans (int_text_length_le10 (k := 18) (by decide) h) (by decide)
theorem Shw.bool {b : Bool} : Shw (.bool b) 0 20 := by
  cases b
  · exact ⟨rfl, rfl, by rw [PyData.depth]; exact Nat.zero_le _, by show (Str.length "False") ≤ 20; decide⟩
  · exact ⟨rfl, rfl, by rw [PyData.depth]; exact Nat.zero_le _, by show (Str.length "True") ≤ 20; decide⟩
theorem Shw.none : Shw .none 0 20 := ⟨rfl, rfl, by rw [PyData.depth]; exact Nat.zero_le _, by show (Str.length "None") ≤ 20; decide⟩
/-- words of small numbers -/
theorem Shw.wordB {w : List Int} (h : ∀ n ∈ w, n.natAbs < 10 ^ 18) : Shw (wD w) 1 (22 * w.length + 3) := by
  have := Shw.tup (ds := w.map PyData.int) (h := 0) (n := 20) fun d hd => by
    obtain ⟨n, hn, rfl⟩ := List.mem_map.mp hd
    exact Shw.big (h n hn)
  rw [List.length_map] at this
  exact this.mono (Nat.le_refl _) (by omega)
/-- a list's items by draws -/
theorem gSorted_ints {ns ms : List Int} (hp : ns.Perm ms) (hm : ms.Pairwise (· ≤ ·)) : gSortedT [.tuple (ns.map PyData.int)] = .ok (.list (ms.map PyData.int)) := by
  show R.when (sortOk (ns.map PyData.int)) (R.ok (PyData.list (sortD (ns.map PyData.int)))) = _
  rw [sortOk_ints, sortD_ints hp hm]; rfl
end Dz

set_option maxRecDepth 100000
set_option maxHeartbeats 2000000
namespace Dz
open PySem PySem.Spec PyProof.Rows L2
/-! ## a name of the module that stands for a built-in function -/
theorem dp_callF {X : Cx} {us : List Nat} {x : Str} {p pos : Pos} {e : Expr} {es : List Expr} {fa : AF} {id : String} {r : List V → Hp → VK → Prop} {g : List D → R D} (hc : CallR X (.builtin id) r) (hv : OpN X.K r g) (hg : Gl X x) (hm : X.mg x = some (.builtin id)) (ha : DA X us (e :: es) fa) (hdb : (x == ("__debug__" : Str)) = false := by decide)
    (he : starEach (e :: es) X.env = (false, eval e X.env) :: starEach es X.env := by rfl) (hpl : (backTo pos (starEach es X.env)).any (·.1) = false := by rfl) : DP X us (.Call (.Name x p) (e :: es) [] pos) (cCall g fa) := by
  obtain ⟨t, h1, h2⟩ := ha.ex
  exact ⟨_, pe_callBfun hc hg hm h1 hdb he hpl, psem_call hv h2⟩
def gGcd : List D → R D
  | [.int a, .int b] => .ok (.int ((Nat.gcd a.natAbs b.natAbs : Nat) : Int))
  | _ => .no
theorem v_gcd {K : PySem.W.Frag} : OpN K rGcd gGcd := fun xs H Z as c Q hz r h hq => by
  unfold gGcd at h
  split at h
  · cases h
    cases r with
    | cons r1 t1 =>
      cases r1
      cases t1 with
      | cons r2 t2 =>
        cases r2
        cases t2
        exact ⟨_, _, rfl, hq _ _ _ (Gr.refl hz) (.int _)⟩
  · cases h
theorem gGcd_nat (a b : Nat) : gGcd [.int (a : Int), .int (b : Int)] = .ok (.int ((Nat.gcd a b : Nat) : Int)) := rfl
/-! ## the head, with names bound to values that no def stands for -/
def obsX (fa : List He.Fa) (fn : List He.DefD) (gs : List (Str × Value)) (K : PySem.W.Frag) : He.AlD × Bool := (He.obsD fa fn K, gs.all fun p => He.eqO (PySem.W.nsIn K mainGlobals p.1) (some (some p.2)))
def obsXG (n : Nat) (fa : List He.Fa) (fn : List He.DefD) (gs : List (Str × Value)) (g : Addr → Option Obj) : He.AlD × Bool := obsX fa fn gs (He.frG g (He.asD g n))
def SaysX (fa : List He.Fa) (fn : List He.DefD) (gs : List (Str × Value)) (K : PySem.W.Frag) : Prop := obsX fa fn gs K = (He.valD fn, true)
def hookX (n : Nat) (fa : List He.Fa) (fn : List He.DefD) (gs : List (Str × Value)) : PySem.W.Hook where
  α := He.AlD × Bool
  obs := fun s => obsXG n fa fn gs s.heap.get?
  val := fun _ => (He.valD fn, true)
  says := fun _ h => ∃ K : PySem.W.Frag, K.In h ∧ SaysX fa fn gs K
  of := fun _ _ e => ⟨_, He.frG_in, e⟩
  keeps := fun _ _ _ ⟨K, hK, c⟩ k => ⟨K, PySem.W.Frag.In.keeps hK k, c⟩
theorem obsXG_eq {n : Nat} {fa : List He.Fa} {fn : List He.DefD} {gs : List (Str × Value)} {g : Addr → Option Obj} {s : Shared} (h : ∀ a, g a = s.heap.get? a) : obsXG n fa fn gs g = (hookX n fa fn gs).obs s := by
  have e : g = s.heap.get? := funext h
  rw [e] <;> rfl
theorem SaysX.d {fa : List He.Fa} {fn : List He.DefD} {gs : List (Str × Value)} {K : PySem.W.Frag} (c : SaysX fa fn gs K) : He.SaysD fa fn K := congrArg (fun z : He.AlD × Bool => z.1) c
theorem SaysX.val {fa : List He.Fa} {fn : List He.DefD} {gs : List (Str × Value)} {K : PySem.W.Frag} (c : SaysX fa fn gs K) {h : Heap} {mg : Str → Option Value} (X : K.In h) (G : h.Ns mainGlobals mg) {x : Str} {v : Value} (hx : (x, v) ∈ gs) : mg x = some v := by
  have c2 : (gs.all fun p => He.eqO (PySem.W.nsIn K mainGlobals p.1) (some (some p.2))) = true := congrArg (fun z : He.AlD × Bool => z.2) c
  exact PySem.W.mg_of X G (He.eqO_ok (List.all_eq_true.mp c2 _ hx))
end Dz

set_option maxRecDepth 100000
set_option maxHeartbeats 2000000
namespace Dz
open PySem PySem.Spec PyProof.Rows L2
theorem wx_unseq {a b : SF} {env : Env} {Q : Flo → Env → Prop} (h : Wx (sSeq a b) env Q) : Wx a env (seqQ b Q) := by
  obtain ⟨fl, e, h1, h2⟩ := h
  unfold sSeq at h1
  cases ha : a env with
  | ok r =>
    obtain ⟨f1, e1⟩ := r
    rw [ha, R.bind_ok] at h1
    refine ⟨f1, e1, ha, ?_⟩
    cases f1 with
    | nx => exact ⟨_, _, h1, h2⟩
    | ct => cases h1; exact h2
    | bk => cases h1; exact h2
    | rt d => cases h1; exact h2
  | err c p => rw [ha] at h1; cases h1
  | no => rw [ha] at h1; cases h1
/-! ## words of numbers from 0 on -/
def iN (w : List Nat) : List Int := w.map fun (n : Nat) => (n : Int)
def nW (w : List Nat) : D := wD (iN w)
theorem iN_inj {a b : List Nat} : iN a = iN b ↔ a = b := by
  unfold iN
  exact List.map_inj_right fun x y h => by omega
theorem iN_len (w : List Nat) : (iN w).length = w.length := by unfold iN; rw [List.length_map]
theorem nW_eq (w : List Nat) : nW w = .tuple (w.map fun (n : Nat) => PyData.int (n : Int)) := by
  unfold nW wD iN; rw [List.map_map]; rfl
theorem nW_inj {a b : List Nat} : nW a = nW b ↔ a = b := by unfold nW; rw [wD_inj, iN_inj]
theorem shaped_nW (w : List Nat) : SeqAt.shaped (nW w) = true := shaped_wD _
theorem eqv_nW (a b : List Nat) : PyData.eqv (nW a) (nW b) = decide (a = b) := by
  unfold nW
  rw [eqv_wD]
  exact decide_eq_decide.mpr iN_inj
theorem gEq_n (a b : List Nat) : gEq (nW a) (nW b) = .ok (.bool (decide (a = b))) := by
  show R.when (SeqAt.shaped (nW a) && SeqAt.shaped (nW b)) (R.ok (PyData.bool (PyData.eqv (nW a) (nW b)))) = _
  rw [shaped_nW, shaped_nW, eqv_nW]; rfl
theorem gNe_n (a b : List Nat) : gNe (nW a) (nW b) = .ok (.bool (!decide (a = b))) := by
  show R.when (SeqAt.shaped (nW a) && SeqAt.shaped (nW b)) (R.ok (PyData.bool (!PyData.eqv (nW a) (nW b)))) = _
  rw [shaped_nW, shaped_nW, eqv_nW]; rfl
theorem gEq_n0 (a : List Nat) : gEq (nW a) (.tuple []) = .ok (.bool (decide (a = []))) := gEq_n a []
theorem gNe_n0 (a : List Nat) : gNe (nW a) (.tuple []) = .ok (.bool (!decide (a = []))) := gNe_n a []
theorem gAdd_n {a b : List Nat} (h : a.length + b.length ≤ sizeLine) : gAdd (nW a) (nW b) = .ok (nW (a ++ b)) := by
  unfold nW
  rw [gAdd_wD (by rw [iN_len, iN_len]; exact h)]
  unfold iN
  rw [List.map_append]
theorem gAdd_n0 {a : List Nat} (h : a.length ≤ sizeLine) : gAdd (.tuple []) (nW a) = .ok (nW a) := gAdd_n (a := []) (b := a) (by simpa using h)
theorem gAdd_n1 {a : List Nat} {x : Nat} (h : a.length + 1 ≤ sizeLine) : gAdd (nW a) (.tuple [.int (x : Int)]) = .ok (nW (a ++ [x])) := gAdd_n (a := a) (b := [x]) h
theorem gAdd_1n {a : List Nat} {x : Nat} (h : 1 + a.length ≤ sizeLine) : gAdd (.tuple [.int (x : Int)]) (nW a) = .ok (nW (x :: a)) := gAdd_n (a := [x]) (b := a) h
theorem gMul_n {w : List Nat} {k : Nat} (hk : k ≤ 1000) (hw : w.length ≤ 1000) : gMul (nW w) (.int (k : Int)) = .ok (nW (List.replicate k w).flatten) := by
  unfold nW
  rw [gMul_wD hk (by rw [iN_len]; exact hw)]
  unfold iN
  rw [List.map_flatten, List.map_replicate]
theorem gLen_n (w : List Nat) : gLen [nW w] = .ok (.int (w.length : Nat)) := by
  unfold nW
  rw [len_wD', iN_len]
theorem gIx_n {w : List Nat} {i : Nat} (h : i < w.length) : gIx (nW w) (.int (i : Int)) = .ok (.int ((w[i] : Nat) : Int)) := by
  rw [nW_eq]
  exact gIx_mapT h
theorem gSl_n1 {w : List Nat} {p : Nat} : gSl (nW w) (some (p : Int)) none = .ok (nW (w.drop p)) := by
  unfold nW; rw [gSl_from]; unfold iN; rw [List.map_drop]
theorem gSl_n2 {w : List Nat} {p : Nat} : gSl (nW w) none (some (p : Int)) = .ok (nW (w.take p)) := by
  unfold nW; rw [gSl_to]; unfold iN; rw [List.map_take]
theorem gSl_n3 {w : List Nat} {p q : Nat} : gSl (nW w) (some (p : Int)) (some (q : Int)) = .ok (nW ((w.take q).drop p)) := by
  unfold nW; rw [gSl_mid]; unfold iN; rw [List.map_drop, List.map_take]
theorem items_n {w : List Nat} : itemsOf (nW w) = .ok (w.map fun (n : Nat) => PyData.int (n : Int)) := by rw [nW_eq]; rfl
theorem gTuple1_n {w : List Nat} : gTuple1 [nW w] = .ok (nW w) := rfl
theorem gTuple1_f {α : Type} {l : List α} {f : α → Nat} : gTuple1 [.list (l.map fun x => PyData.int ((f x : Nat) : Int))] = .ok (nW (l.map f)) := by
  rw [nW_eq, List.map_map]; rfl
theorem gList1_n {w : List Nat} : gList1 [nW w] = .ok (.list (w.map fun (n : Nat) => PyData.int (n : Int))) := by rw [nW_eq]; rfl
theorem sum_iN : ∀ w : List Nat, (iN w).sum = ((w.sum : Nat) : Int)
  | [] => rfl
  | a :: w => by
    have e : (iN (a :: w)).sum = (a : Int) + (iN w).sum := List.sum_cons
    rw [e, sum_iN w, List.sum_cons]
    omega
theorem gSum_n {w : List Nat} : gSumX [nW w] = .ok (.int ((w.sum : Nat) : Int)) := by
  show (match intsOf ((iN w).map PyData.int) with | some ms => R.ok (PyData.int ms.sum) | none => R.no) = _
  rw [intsOf_map]
  show R.ok (PyData.int (iN w).sum) = _
  rw [sum_iN]
theorem gSum_fL {α : Type} {l : List α} {f : α → Nat} : gSumX [.list (l.map fun x => PyData.int ((f x : Nat) : Int))] = .ok (.int (((l.map f).sum : Nat) : Int)) := by
  have e : (l.map fun x => PyData.int ((f x : Nat) : Int)) = (iN (l.map f)).map PyData.int := by unfold iN; rw [List.map_map, List.map_map]; rfl
  rw [e]
  exact gSum_n (w := l.map f)
theorem gRev_n {w : List Nat} : gRev (nW w) = .ok (nW w.reverse) := by
  show R.ok (PyData.tuple ((iN w).map PyData.int).reverse) = _
  unfold nW wD iN
  rw [List.map_reverse, List.map_reverse]
theorem noRef_n (w : List Nat) : noRef (nW w) = true := noRef_wD _
theorem isi_tnw {w : List Nat} : gIsi "tuple" (nW w) = .ok (.bool true) := rfl
theorem isi_inw {w : List Nat} : gIsi "int" (nW w) = .ok (.bool false) := rfl
theorem isi_bnw {w : List Nat} : gIsi "bool" (nW w) = .ok (.bool false) := rfl
theorem gTru_n {w : List Nat} : gTru (nW w) = .ok (!w.isEmpty) := by
  rw [nW_eq]
  cases w <;> rfl
theorem elemD_f {α : Type} [DecidableEq α] (c : α → D) (hc : ∀ x y, PyData.eqv (c x) (c y) = decide (x = y)) (a : α) (l : List α) : elemD (c a) (l.map c) = decide (a ∈ l) := by
  unfold elemD
  rw [List.any_map, Bool.eq_iff_iff, List.any_eq_true, decide_eq_true_eq]
  constructor
  · rintro ⟨x, hx, h⟩
    have h : PyData.eqv (c x) (c a) = true := h
    rw [hc, decide_eq_true_eq] at h
    subst h; exact hx
  · intro h
    exact ⟨a, h, by show PyData.eqv (c a) (c a) = true; rw [hc, decide_eq_true rfl]⟩
theorem shaped_nWs (ws : List (List Nat)) : SeqAt.shaped (.list (ws.map nW)) = true := by
  have := shaped_ws (ws.map iN)
  rw [List.map_map] at this
  exact this
theorem shaped_fnW {α : Type} (f : α → List Nat) (a : List α) : SeqAt.shaped (.list (a.map fun x => nW (f x))) = true := by
  have := shaped_nWs (a.map f)
  rw [List.map_map] at this
  exact this
theorem gIn_nW (a : List Nat) (ws : List (List Nat)) : gInS false (nW a) (.list (ws.map nW)) = .ok (.bool (decide (a ∈ ws))) := by
  show R.when (SeqAt.shaped (nW a) && SeqAt.shaped (.list (ws.map nW))) (R.ok (PyData.bool (elemD (nW a) (ws.map nW)))) = _
  rw [shaped_nW, shaped_nWs, elemD_f nW eqv_nW]
  exact congrArg (fun b => R.ok (PyData.bool b)) (decide_eq_decide.mpr Iff.rfl)
theorem gNotIn_nW (a : List Nat) (ws : List (List Nat)) : gInS true (nW a) (.list (ws.map nW)) = .ok (.bool (!decide (a ∈ ws))) := by
  show R.when (SeqAt.shaped (nW a) && SeqAt.shaped (.list (ws.map nW))) (R.ok (PyData.bool (!elemD (nW a) (ws.map nW)))) = _
  rw [shaped_nW, shaped_nWs, elemD_f nW eqv_nW]
  exact congrArg (fun b => R.ok (PyData.bool (!b))) (decide_eq_decide.mpr Iff.rfl)
theorem shaped_nWsT (ws : List (List Nat)) : SeqAt.shaped (.tuple (ws.map nW)) = true := by
  have := shaped_nWs ws
  unfold SeqAt.shaped at this ⊢
  simp only [PyData.canLay0, PyData.depth] at this ⊢
  exact this
theorem gIn_nWT (a : List Nat) (ws : List (List Nat)) : gInS false (nW a) (.tuple (ws.map nW)) = .ok (.bool (decide (a ∈ ws))) := by
  show R.when (SeqAt.shaped (nW a) && SeqAt.shaped (.tuple (ws.map nW))) (R.ok (PyData.bool (elemD (nW a) (ws.map nW)))) = _
  rw [shaped_nW, shaped_nWsT, elemD_f nW eqv_nW]
  exact congrArg (fun b => R.ok (PyData.bool b)) (decide_eq_decide.mpr Iff.rfl)
theorem gNotIn_nWT (a : List Nat) (ws : List (List Nat)) : gInS true (nW a) (.tuple (ws.map nW)) = .ok (.bool (!decide (a ∈ ws))) := by
  show R.when (SeqAt.shaped (nW a) && SeqAt.shaped (.tuple (ws.map nW))) (R.ok (PyData.bool (!elemD (nW a) (ws.map nW)))) = _
  rw [shaped_nW, shaped_nWsT, elemD_f nW eqv_nW]
  exact congrArg (fun b => R.ok (PyData.bool (!b))) (decide_eq_decide.mpr Iff.rfl)
theorem gEq_nilN (a : List (List Nat)) : gEq (.list (a.map nW)) (.list []) = .ok (.bool a.isEmpty) := by
  rw [gEq_empty (shaped_nWs _)]; cases a <;> rfl
theorem gNe_nilN (a : List (List Nat)) : gNe (.list (a.map nW)) (.list []) = .ok (.bool (!a.isEmpty)) := by
  rw [gNe_empty (shaped_nWs _)]; cases a <;> rfl
theorem gNe_nilFN {α : Type} (f : α → List Nat) (a : List α) : gNe (.list (a.map fun x => nW (f x))) (.list []) = .ok (.bool (!a.isEmpty)) := by
  rw [gNe_empty (shaped_fnW f a)]; cases a <;> rfl
theorem gEq_nilFN {α : Type} (f : α → List Nat) (a : List α) : gEq (.list (a.map fun x => nW (f x))) (.list []) = .ok (.bool a.isEmpty) := by
  rw [gEq_empty (shaped_fnW f a)]; cases a <;> rfl
theorem Shw.n {w : List Nat} (h : ∀ n ∈ w, n < 10 ^ 18) : Shw (nW w) 1 (22 * w.length + 3) := by
  have := Shw.wordB (w := iN w) fun n hn => by
    obtain ⟨k, hk, rfl⟩ := List.mem_map.mp hn
    exact h k hk
  rw [iN_len] at this
  exact this
theorem sh_n {w : List Nat} (h : ∀ n ∈ w, n < 10 ^ 18) (hl : w.length ≤ 500000) : canShow (nW w) = true := (Shw.n h).ok (by decide) (by rw [sizeLine_eq]; omega)
theorem eqvAll_map {α β : Type} (f : α → D) (g : β → D) : ∀ (a : List α) (b : List β), (∀ x ∈ a, ∀ y ∈ b, PyData.eqv (f x) (g y) = true → True) → PyData.eqvAll (a.map f) (b.map g) = (decide (a.length = b.length) && (List.zipWith (fun x y => PyData.eqv (f x) (g y)) a b).all id)
  | [], [], _ => by simp [PyData.eqvAll]
  | [], _ :: _, _ => by simp [PyData.eqvAll]
  | _ :: _, [], _ => by simp [PyData.eqvAll]
  | x :: a, y :: b, _ => by
    rw [List.map_cons, List.map_cons, PyData.eqvAll, eqvAll_map f g a b (fun _ _ _ _ _ => trivial)]
    simp only [List.length_cons, List.zipWith_cons_cons, List.all_cons, id_eq, Nat.add_right_cancel_iff]
    cases PyData.eqv (f x) (g y) <;> simp
/-- lists of words are alike -/
theorem eqvAll_nW : ∀ (a b : List (List Nat)), PyData.eqvAll (a.map nW) (b.map nW) = decide (a = b)
  | [], [] => by simp [PyData.eqvAll]
  | [], _ :: _ => by simp [PyData.eqvAll]
  | _ :: _, [] => by simp [PyData.eqvAll]
  | x :: a, y :: b => by
    rw [List.map_cons, List.map_cons, PyData.eqvAll, eqvAll_nW a b, eqv_nW]
    by_cases h : x = y
    · subst h; simp
    · simp [h]
theorem gEq_nWs (a b : List (List Nat)) : gEq (.list (a.map nW)) (.list (b.map nW)) = .ok (.bool (decide (a = b))) := by
  show R.when (SeqAt.shaped (.list (a.map nW)) && SeqAt.shaped (.list (b.map nW))) (R.ok (PyData.bool (PyData.eqv (.list (a.map nW)) (.list (b.map nW))))) = _
  rw [shaped_nWs, shaped_nWs, PyData.eqv, eqvAll_nW]; rfl
theorem gNe_nWs (a b : List (List Nat)) : gNe (.list (a.map nW)) (.list (b.map nW)) = .ok (.bool (!decide (a = b))) := by
  show R.when (SeqAt.shaped (.list (a.map nW)) && SeqAt.shaped (.list (b.map nW))) (R.ok (PyData.bool (!PyData.eqv (.list (a.map nW)) (.list (b.map nW))))) = _
  rw [shaped_nWs, shaped_nWs, PyData.eqv, eqvAll_nW]; rfl
theorem gEq_nWsT (a b : List (List Nat)) : gEq (.tuple (a.map nW)) (.tuple (b.map nW)) = .ok (.bool (decide (a = b))) := by
  show R.when (SeqAt.shaped (.tuple (a.map nW)) && SeqAt.shaped (.tuple (b.map nW))) (R.ok (PyData.bool (PyData.eqv (.tuple (a.map nW)) (.tuple (b.map nW))))) = _
  rw [shaped_nWsT, shaped_nWsT, PyData.eqv, eqvAll_nW]; rfl
theorem gNe_nWsT (a b : List (List Nat)) : gNe (.tuple (a.map nW)) (.tuple (b.map nW)) = .ok (.bool (!decide (a = b))) := by
  show R.when (SeqAt.shaped (.tuple (a.map nW)) && SeqAt.shaped (.tuple (b.map nW))) (R.ok (PyData.bool (!PyData.eqv (.tuple (a.map nW)) (.tuple (b.map nW))))) = _
  rw [shaped_nWsT, shaped_nWsT, PyData.eqv, eqvAll_nW]; rfl
theorem gInt1_ok {i : Int} : gInt1 [.int i] = .ok (.int i) := rfl
theorem gAbs_nat {n : Nat} : gAbs [.int (n : Int)] = .ok (.int ((n : Nat) : Int)) := by
  show R.ok (PyData.int (if (n : Int) < 0 then -(n : Int) else n)) = _
  rw [if_neg (by omega)]
theorem gMax2_nat (a b : Nat) : gMax2 [.int (a : Int), .int (b : Int)] = .ok (.int ((max a b : Nat) : Int)) := by
  show R.ok (PyData.int (max (a : Int) (b : Int))) = _
  refine congrArg (fun z => R.ok (PyData.int z)) ?_
  omega
theorem gIx_c0 {d : D} {ds : List D} : gIx (.list (d :: ds)) (.int ((@OfNat.ofNat Nat 0 (instOfNatNat 0) : Nat) : Int)) = .ok d := gIx_list0 (ds := d :: ds) (r := 0) (by simp)
theorem gIx_t0 {d : D} {ds : List D} : gIx (.tuple (d :: ds)) (.int ((@OfNat.ofNat Nat 0 (instOfNatNat 0) : Nat) : Int)) = .ok d := gIx_tup0 (ds := d :: ds) (r := 0) (by simp)
theorem gIx_t1 {d d1 : D} {ds : List D} : gIx (.tuple (d :: d1 :: ds)) (.int ((@OfNat.ofNat Nat 1 (instOfNatNat 1) : Nat) : Int)) = .ok d1 := gIx_tup0 (ds := d :: d1 :: ds) (r := 1) (by simp)
theorem gIx_t2 {d d1 d2 : D} {ds : List D} : gIx (.tuple (d :: d1 :: d2 :: ds)) (.int ((@OfNat.ofNat Nat 2 (instOfNatNat 2) : Nat) : Int)) = .ok d2 := gIx_tup0 (ds := d :: d1 :: d2 :: ds) (r := 2) (by simp)
theorem gEq_t2 (a b a' b' : Int) : gEq (.tuple [.int a, .int b]) (.tuple [.int a', .int b']) = .ok (.bool (decide (a = a') && decide (b = b'))) := by
  have := gEq_wD [a, b] [a', b']
  rw [show gEq (.tuple [.int a, .int b]) (.tuple [.int a', .int b']) = gEq (wD [a, b]) (wD [a', b']) from rfl, this]
  simp
theorem gNe_t2 (a b a' b' : Int) : gNe (.tuple [.int a, .int b]) (.tuple [.int a', .int b']) = .ok (.bool (!(decide (a = a') && decide (b = b')))) := by
  have := gNe_wD [a, b] [a', b']
  rw [show gNe (.tuple [.int a, .int b]) (.tuple [.int a', .int b']) = gNe (wD [a, b]) (wD [a', b']) from rfl, this]
  simp
theorem gEq_t3 (a b c a' b' c' : Int) : gEq (.tuple [.int a, .int b, .int c]) (.tuple [.int a', .int b', .int c']) = .ok (.bool (decide (a = a') && (decide (b = b') && decide (c = c')))) := by
  have := gEq_wD [a, b, c] [a', b', c']
  rw [show gEq (.tuple [.int a, .int b, .int c]) (.tuple [.int a', .int b', .int c']) = gEq (wD [a, b, c]) (wD [a', b', c']) from rfl, this]
  simp
theorem gNe_t3 (a b c a' b' c' : Int) : gNe (.tuple [.int a, .int b, .int c]) (.tuple [.int a', .int b', .int c']) = .ok (.bool (!(decide (a = a') && (decide (b = b') && decide (c = c'))))) := by
  have := gNe_wD [a, b, c] [a', b', c']
  rw [show gNe (.tuple [.int a, .int b, .int c]) (.tuple [.int a', .int b', .int c']) = gNe (wD [a, b, c]) (wD [a', b', c']) from rfl, this]
  simp
end Dz

set_option maxRecDepth 100000
set_option maxHeartbeats 2000000
namespace Dz
open PySem PySem.Spec PyProof.Rows L2
/-! ## comprehensions of two fors -/
def semI (K : PySem.W.Frag) (us : List Nat) (f : IF) : TI := fun σ H R => ∃ Z env ds, Same Z H ∧ EnvU K us Z H σ env ∧ f env = .ok ds ∧ ∀ J Z' H', Gr Z H Z' H' → ItOk K J Z' ds → R J H'
theorem DI.can {X : Cx} {us : List Nat} {tg e : Expr} {f : IF} (h : DI X us tg e f) : PI X tg e (semI X.K us f) := by
  obtain ⟨w, h1, h2⟩ := h.ex
  refine ⟨fun pins s σ H R I hw => ?_⟩
  obtain ⟨Z, env, ds, a, b, c, q⟩ := hw
  exact h1.run pins s σ H R I (h2 σ H Z env ds R a b c q)
/-- .. where each slot's thing is held still, or stood ahead -/
structure EnvV (K : PySem.W.Frag) (us : List Nat) (Z H : Hp) (σ : L2.St) (env : Env) : Prop where
  len : σ.length = env.length
  slot : ∀ i d, us.contains i = false → env[i]? = some (some d) → ∃ v, σ[i]? = some (some v) ∧ Rep K Z v d
  vis : ∀ (i : Nat) d, env[i]? = some (some d) → ∃ v, σ[i]? = some (some v) ∧ (Rep K Z v d ∨ Rep K H v d)
theorem EnvV.of {K : PySem.W.Frag} {us : List Nat} {Z H : Hp} {σ : L2.St} {env : Env} (h : EnvU K us Z H σ env) : EnvV K us Z H σ env := ⟨h.len, h.slot, fun i d e => let ⟨v, a, b⟩ := h.vis i d e; ⟨v, a, .inr b⟩⟩
theorem EnvV.mono {K : PySem.W.Frag} {us : List Nat} {Z Z' H : Hp} {σ : L2.St} {env : Env} (h : EnvV K us Z H σ env) (g : Same Z Z') : EnvV K us Z' H σ env := ⟨h.len, fun i d hu e => let ⟨v, a, b⟩ := h.slot i d hu e; ⟨v, a, b.mono g⟩, fun i d e => let ⟨v, a, b⟩ := h.vis i d e; ⟨v, a, b.imp (·.mono g) id⟩⟩
theorem EnvV.toU {K : PySem.W.Frag} {us : List Nat} {Z H0 H : Hp} {σ : L2.St} {env : Env} (h : EnvV K us Z H0 σ env) (g : Same Z H) (g0 : Same H0 H) : EnvU K us Z H σ env := ⟨h.len, h.slot, fun i d e => by
  obtain ⟨v, a, b⟩ := h.vis i d e
  exact ⟨v, a, b.elim (·.mono g) (·.mono g0)⟩⟩
theorem EnvV.wipe {K : PySem.W.Frag} {us : List Nat} {Z H : Hp} {σ : L2.St} {env : Env} (h : EnvV K us Z H σ env) (vs : List Nat) : EnvV K us Z H (L2.wipe σ vs) (wipeE env vs) := ⟨by rw [wipe_length, wipeE_length, h.len], fun i d hu he => by
  obtain ⟨h1, h2⟩ := wipeE_some he
  rw [wipe_off h2]
  exact h.slot i d hu h1, fun i d he => by
  obtain ⟨h1, h2⟩ := wipeE_some he
  rw [wipe_off h2]
  exact h.vis i d h1⟩
theorem EnvV.set {K : PySem.W.Frag} {us sl : List Nat} {Z H : Hp} {σ σ' : L2.St} {env env' : Env} (h : EnvV K us Z H σ env) (l1 : σ'.length = σ.length) (l2 : env'.length = env.length) (off : ∀ j, sl.contains j = false → σ'[j]? = σ[j]? ∧ env'[j]? = env[j]?)
    (on : ∀ (j : Nat) d', sl.contains j = true → env'[j]? = some (some d') → ∃ v', σ'[j]? = some (some v') ∧ Rep K Z v' d') : EnvV K us Z H σ' env' := ⟨by rw [l1, l2, h.len], fun i d hu he => by
  cases hc : sl.contains i with
  | true => exact on i d hc he
  | false =>
    rw [(off i hc).1]
    rw [(off i hc).2] at he
    exact h.slot i d hu he, fun i d he => by
  cases hc : sl.contains i with
  | true =>
    obtain ⟨v, h1, h2⟩ := on i d hc he
    exact ⟨v, h1, .inl h2⟩
  | false =>
    rw [(off i hc).1]
    rw [(off i hc).2] at he
    exact h.vis i d he⟩
def lcGo2 (tgt : GF) (ff : Env → R Bool) (inner : Env → R (List D)) (env : Env) : List D → R (List D)
  | [] => .ok []
  | d :: ds => (tgt d env).bind fun env1 => (ff env1).bind fun c => if c = true then (inner env1).bind fun ys => (lcGo2 tgt ff inner env ds).bind fun r => .ok (ys ++ r) else lcGo2 tgt ff inner env ds
def lcIn (fi1 : IF) (vs1 : List Nat) (tgt1 : GF) (ff1 : Env → R Bool) (fe : PF) : Env → R (List D) := fun env => (fi1 env).bind fun ds => lcGo tgt1 ff1 fe (wipeE env vs1) ds
def cLc2 (fi : IF) (vs : List Nat) (tgt : GF) (ff : Env → R Bool) (inner : Env → R (List D)) : Env → R (List D) := fun env => (fi env).bind fun ds => (lcGo2 tgt ff inner (wipeE env vs) ds).bind fun r => R.when (decide (r.length ≤ sizeLine)) (.ok r)
theorem lc2_sem {K : PySem.W.Frag} {us : List Nat} {wi : TI} {fi fi1 : IF} {sl vs sl1 vs1 : List Nat} {tgt tgt1 : GF} {ff ff1 : Env → R Bool} {fe : PF} (hi : ISem K us wi fi) (hsl : ∀ j, sl.contains j = true → j ∈ vs) (hsl1 : ∀ j, sl1.contains j = true → j ∈ vs1) :
    OSem K us (tLc2 wi (semG K sl tgt) (semT K us ff) (semI K us fi1) (semG K sl1 tgt1) (semT K us ff1) (semP K us fe) vs vs1) (cLc2 fi vs tgt ff (lcIn fi1 vs1 tgt1 ff1 fe)) := by
  intro σ H Z env rs Q hz he hf hq
  obtain ⟨ds, h1, h2⟩ := R.of_bind hf
  obtain ⟨rs', h3, h4⟩ := R.of_bind h2
  obtain ⟨h5, h6⟩ := R.of_when h4
  obtain rfl : rs' = rs := by cases h6; rfl
  have hlen := of_decide_eq_true h5
  refine hi σ H Z env ds _ hz he h1 fun J Z1 H1 g1 ok p np => ?_
  have hew := (he.mono g1).wipe vs
  refine ⟨fun i m H2 => m = ds.length - i ∧ i ≤ ds.length ∧ ∃ Z2 acc done rest, Gr Z1 H1 Z2 H2 ∧ Z2 p = none ∧ H2 p = some (.lst acc) ∧ Reps K Z2 acc done ∧ lcGo2 tgt ff (lcIn fi1 vs1 tgt1 ff1 fe) (wipeE env vs) (ds.drop i) = .ok rest ∧ rs' = done ++ rest,
    ⟨_, rfl, Nat.zero_le _, Z1, [], [], rs', Gr.own g1.zh np, g1.zh.free np, upd_same, .nil, h3, rfl⟩, fun i m H2 hW => ?_⟩
  obtain ⟨rfl, hile, Z2, acc, done, rest, g2, n2, e2, r2, hrest, hrs⟩ := hW
  by_cases hlt : i < ds.length
  · refine .inr ⟨ok.go i H2 hlt (g2.zz.trans g2.zh), fun H' => ∃ Z2 acc done rest, Gr Z1 H1 Z2 H' ∧ Z2 p = none ∧ H' p = some (.lst acc) ∧ Reps K Z2 acc done ∧ lcGo2 tgt ff (lcIn fi1 vs1 tgt1 ff1 fe) (wipeE env vs) (ds.drop (i + 1)) = .ok rest ∧ rs' = done ++ rest,
      fun H' hN => ⟨ds.length - (i + 1), by omega, rfl, hlt, hN⟩, fun x H3 y => ?_⟩
    obtain ⟨Z3, d, g3, hd, r3⟩ := ok.yld i H2 x H3 Z2 hlt g2.zz g2.zh y
    have hdrop : ds.drop i = d :: ds.drop (i + 1) := by
      rw [List.drop_eq_getElem_cons hlt]
      rw [List.getElem?_eq_getElem hlt] at hd
      cases hd; rfl
    rw [hdrop] at hrest
    obtain ⟨env1, a1, a2⟩ := R.of_bind hrest
    obtain ⟨c, a3, a4⟩ := R.of_bind a2
    have hw3 := (hew.mono g2).mono g3
    refine ⟨d, Z3, wipeE env vs, env1, g3.zh, r3, hw3.len, a1, fun σ' l1 l2 off on => ?_⟩
    have nt : ∀ (l : List V) (xs : List V), HO.lst l ≠ .tup xs := fun _ _ z => by cases z
    have n3 : Z3 p = none := g3.out n2 e2 (nt _)
    have hws : wipe σ' vs = wipe σ vs := by
      have := wipe_same (σ := wipe σ vs) (σ' := σ') (vs := vs) l1 fun j hj => (off j (by
        cases q : sl.contains j with
        | false => rfl
        | true => exact absurd (hsl j q) hj)).1
      rw [this]
      exact wipe_same (wipe_length _ _) fun j hj => wipe_off hj
    refine ⟨hws, ?_⟩
    have hE := hw3.set g3.zh l1 l2 off on
    have hEV := ((EnvV.of hew).mono (g2.zz.trans g3.zz)).set l1 l2 off on
    refine ⟨Z3, env1, c, g3.zh, hE, a3, fun Z4 H4 g4 => ?_⟩
    have n4 : Z4 p = none := g4.out n3 (g3.hh _ _ e2) (nt _)
    have g24 := g3.trans g4
    cases c with
    | false =>
      rw [if_neg Bool.false_ne_true] at a4
      refine iteF ?_
      exact ⟨Z4, acc, done, rest, g2.trans g24, n4, g24.hh _ _ e2, r2.mono g24.zz, a4, hrs⟩
    | true =>
      rw [if_pos rfl] at a4
      refine iteT ?_
      obtain ⟨ys, a5, a6⟩ := R.of_bind a4
      obtain ⟨rest', a7, a8⟩ := R.of_bind a6
      cases a8
      obtain ⟨ds1, b1, b2⟩ := R.of_bind a5
      have hE4 := hE.mono g4
      refine ⟨Z4, env1, ds1, g4.zh, hE4, b1, fun J1 Z5 H5 g5 ok1 => ?_⟩
      have g25 := g24.trans g5
      have n5 : Z5 p = none := g25.out n2 e2 (nt _)
      have hd5 : H5 p = some (.lst acc) := g25.hh _ _ e2
      have hew1 := (hEV.mono (g4.zz.trans g5.zz)).wipe vs1
      refine ⟨fun j k H6 => k = ds1.length - j ∧ j ≤ ds1.length ∧ ∃ Z6 acc done1 rest1, Gr Z5 H1 Z6 H6 ∧ Z6 p = none ∧ H6 p = some (.lst acc) ∧ Reps K Z6 acc (done ++ done1) ∧ lcGo tgt1 ff1 fe (wipeE env1 vs1) (ds1.drop j) = .ok rest1 ∧ ys = done1 ++ rest1 ∧ Gr Z1 H1 Z6 H6 ∧ EnvV K us Z6 H1 (wipe σ' vs1) (wipeE env1 vs1),
        ⟨_, rfl, Nat.zero_le _, Z5, acc, [], ys, ⟨Same.refl _, g5.zh, (g2.trans g25).hh, fun a o e => .inl e⟩, n5, hd5, by rw [List.append_nil]; exact r2.mono g25.zz, b2, rfl, g2.trans g25, hew1⟩, fun j k H6 hW1 => ?_⟩
      obtain ⟨rfl, hjle, Z6, acc1, done1, rest1, g6, n6, e6, r6, hrest1, hys, g16, hE6⟩ := hW1
      by_cases hlt1 : j < ds1.length
      · refine .inr ⟨ok1.go j H6 hlt1 (g6.zz.trans g6.zh), fun H' => ∃ Z6 acc done1 rest1, Gr Z5 H1 Z6 H' ∧ Z6 p = none ∧ H' p = some (.lst acc) ∧ Reps K Z6 acc (done ++ done1) ∧ lcGo tgt1 ff1 fe (wipeE env1 vs1) (ds1.drop (j + 1)) = .ok rest1 ∧ ys = done1 ++ rest1 ∧ Gr Z1 H1 Z6 H' ∧ EnvV K us Z6 H1 (wipe σ' vs1) (wipeE env1 vs1),
          fun H' hN => ⟨ds1.length - (j + 1), by omega, rfl, hlt1, hN⟩, fun x H7 y => ?_⟩
        obtain ⟨Z7, d1, g7, hd1, r7⟩ := ok1.yld j H6 x H7 Z6 hlt1 g6.zz g6.zh y
        have hdrop1 : ds1.drop j = d1 :: ds1.drop (j + 1) := by
          rw [List.drop_eq_getElem_cons hlt1]
          rw [List.getElem?_eq_getElem hlt1] at hd1
          cases hd1; rfl
        rw [hdrop1] at hrest1
        obtain ⟨env2, c1, c2⟩ := R.of_bind hrest1
        obtain ⟨c, c3, c4⟩ := R.of_bind c2
        have hw7 := (hE6.mono g7.zz).toU g7.zh (g16.trans g7).hh
        refine ⟨d1, Z7, wipeE env1 vs1, env2, g7.zh, r7, hw7.len, c1, fun σ'' l1' l2' off' on' => ?_⟩
        have n7 : Z7 p = none := g7.out n6 e6 (nt _)
        have hws1 : wipe σ'' vs1 = wipe σ' vs1 := by
          have := wipe_same (σ := wipe σ' vs1) (σ' := σ'') (vs := vs1) l1' fun j hj => (off' j (by
            cases q : sl1.contains j with
            | false => rfl
            | true => exact absurd (hsl1 j q) hj)).1
          rw [this]
          exact wipe_same (wipe_length _ _) fun j hj => wipe_off hj
        refine ⟨hws1, ?_⟩
        have hE7 := hw7.set g7.zh l1' l2' off' on'
        refine ⟨Z7, env2, c, g7.zh, hE7, c3, fun Z8 H8 g8 => ?_⟩
        have n8 : Z8 p = none := g8.out n7 (g7.hh _ _ e6) (nt _)
        have g68 := g7.trans g8
        cases c with
        | false =>
          rw [if_neg Bool.false_ne_true] at c4
          refine iteF ?_
          exact ⟨Z8, acc1, done1, rest1, g6.trans g68, n8, g68.hh _ _ e6, r6.mono g68.zz, c4, hys, g16.trans g68, hE6.mono g68.zz⟩
        | true =>
          rw [if_pos rfl] at c4
          refine iteT ?_
          obtain ⟨yv, c5, c6⟩ := R.of_bind c4
          obtain ⟨rest1', c7, c8⟩ := R.of_bind c6
          cases c8
          refine ⟨Z8, env2, yv, g8.zh, hE7.mono g8, c5, fun u Z9 H9 g9 r9 => ?_⟩
          have g69 := g68.trans g9
          have n9 : Z9 p = none := g69.out n6 e6 (nt _)
          have hd9 : H9 p = some (.lst acc1) := g69.hh _ _ e6
          have hlen2 : acc1.length < sizeLine := by
            rw [r6.length]
            rw [hrs, hys] at hlen
            simp at hlen ⊢
            omega
          have up : ∀ {Za Ha : Hp}, Gr Za Ha Z9 H9 → Ha p = none → Gr Za Ha Z9 (upd H9 p (.lst (acc1 ++ [u]))) := fun g na => ⟨g.zz, same_upd2 g.zh n9, fun b o e => by
            rw [upd_ne (ne_of_none e na)]
            exact g.hh b o e, g.fr⟩
          refine ⟨acc1, hd9, hlen2, Z9, acc1 ++ [u], done1 ++ [yv], rest1', up (g6.trans g69) np, n9, upd_same, ?_, c7, by rw [hys]; simp, up (g16.trans g69) np, ?_⟩
          · rw [← List.append_assoc]
            exact (r6.mono g69.zz).append (.cons r9 .nil)
          · exact hE6.mono g69.zz
      · have e : j = ds1.length := by omega
        subst e
        rw [List.drop_length] at hrest1
        cases hrest1
        rw [List.append_nil] at hys
        subst hys
        refine .inl ⟨ok1.stop H6 (g6.zz.trans g6.zh), ?_⟩
        exact ⟨Z6, acc1, done ++ ys, rest', g16, n6, e6, r6, a7, by rw [hrs, List.append_assoc]⟩
  · have e : i = ds.length := by omega
    subst e
    rw [List.drop_length] at hrest
    cases hrest
    rw [List.append_nil] at hrs
    refine .inl ⟨ok.stop H2 (g2.zz.trans g2.zh), ?_⟩
    exact hq p acc Z2 H2 (g1.trans g2) (g1.hh.free np) n2 e2 (by rw [hrs]; exact r2)
theorem do_lc2 {X : Cx} {us : List Nat} {elt tg iter tg1 iter1 : Expr} {ifs ifs1 : List Expr} {scope : Scope} {own : List (Str × Nat)} {vs1 : List Nat} {pos : Pos} {sl sl1 : List Nat} {fi fi1 : IF} {tgt tgt1 : GF} {ff ff1 : Env → R Bool} {fe : PF} (hc : X.calm = true) (hN : X.N.Nodup) (hi : DI X us tg iter fi) (ok : BlkOk X.N X.env.scope scope own) (hv : vs1.all (fun j => (own.map (·.2)).contains j) = true) (hsl : sl.all (fun j => (own.map (·.2)).contains j) = true) (hsl1 : sl1.all (fun j => vs1.contains j) = true)
    (hg : ∀ (s : Shared) (H : Hp) (C : Addr) (cl : List (Str × Addr)) (fp : List Addr), DG (X.blk s H scope (compEnvC scope cl C X.env) fp) tg sl tgt) (ht : ∀ (s : Shared) (H : Hp) (C : Addr) (cl : List (Str × Addr)) (fp : List Addr), DTs (X.blk s H scope (compEnvC scope cl C X.env) fp) us ifs ff)
    (hi1 : ∀ (s : Shared) (H : Hp) (C : Addr) (cl : List (Str × Addr)) (fp : List Addr), DI (X.blk s H scope (compEnvC scope cl C X.env) fp) us tg1 iter1 fi1)
    (hg1 : ∀ (s : Shared) (H : Hp) (C : Addr) (cl : List (Str × Addr)) (fp : List Addr), DG (X.blk s H scope (compEnvC scope cl C X.env) fp) tg1 sl1 tgt1) (ht1 : ∀ (s : Shared) (H : Hp) (C : Addr) (cl : List (Str × Addr)) (fp : List Addr), DTs (X.blk s H scope (compEnvC scope cl C X.env) fp) us ifs1 ff1)
    (he : ∀ (s : Shared) (H : Hp) (C : Addr) (cl : List (Str × Addr)) (fp : List Addr), DP (X.blk s H scope (compEnvC scope cl C X.env) fp) us elt fe) (hs : ∀ x, foldedSetIterable iter X.env x = pure x := by intro _; rfl) (hs1 : ∀ env x, foldedSetIterable iter1 env x = pure x := by intro _ _; rfl) :
    DO X us (.ListComp elt [⟨tg, iter, ifs, 0⟩, ⟨tg1, iter1, ifs1, 0⟩] scope pos) (cLc2 fi (own.map (·.2)) tgt ff (lcIn fi1 vs1 tgt1 ff1 fe)) := by
  obtain ⟨w, h1, h2⟩ := hi.ex
  exact ⟨_, pe_lc2 hc hN h1 ok (fun i hi => sl_of hv i (by simpa using hi)) (fun s H C cl fp => (hg s H C cl fp).can) (fun s H C cl fp => (ht s H C cl fp).run) (fun s H C cl fp => (hi1 s H C cl fp).can) (fun s H C cl fp => (hg1 s H C cl fp).can) (fun s H C cl fp => (ht1 s H C cl fp).run) (fun s H C cl fp => (he s H C cl fp).can) hs hs1, lc2_sem h2 (sl_of hsl) (sl_of hsl1)⟩
theorem ds_lc2L {X : Cx} {C : Cf} {i : Nat} {y : Str} {py : Pos} {elt tg iter tg1 iter1 : Expr} {ifs ifs1 : List Expr} {scope : Scope} {own : List (Str × Nat)} {vs1 : List Nat} {pos spos : Pos} {sl sl1 : List Nat} {fi fi1 : IF} {tgt tgt1 : GF} {ff ff1 : Env → R Bool} {fe : PF} (hc : X.calm = true) (hN : X.N.Nodup) (hy : X.N[i]? = some y) (hyl : X.env.scope.names.lookup y = some .local)
    (hsw : swapsWith (.ListComp elt [⟨tg, iter, ifs, 0⟩, ⟨tg1, iter1, ifs1, 0⟩] scope pos) (some (.Name y py)) spos.line X.env = pure true) (hi : DI X C.us tg iter fi) (ok : BlkOk X.N X.env.scope scope own) (hv : vs1.all (fun j => (own.map (·.2)).contains j) = true) (hsl : sl.all (fun j => (own.map (·.2)).contains j) = true) (hsl1 : sl1.all (fun j => vs1.contains j) = true)
    (hg : ∀ (s : Shared) (H : Hp) (A : Addr) (cl : List (Str × Addr)) (fp : List Addr), DG (X.blk s H scope (compEnvC scope cl A X.env) fp) tg sl tgt) (ht : ∀ (s : Shared) (H : Hp) (A : Addr) (cl : List (Str × Addr)) (fp : List Addr), DTs (X.blk s H scope (compEnvC scope cl A X.env) fp) C.us ifs ff)
    (hi1 : ∀ (s : Shared) (H : Hp) (A : Addr) (cl : List (Str × Addr)) (fp : List Addr), DI (X.blk s H scope (compEnvC scope cl A X.env) fp) C.us tg1 iter1 fi1)
    (hg1 : ∀ (s : Shared) (H : Hp) (A : Addr) (cl : List (Str × Addr)) (fp : List Addr), DG (X.blk s H scope (compEnvC scope cl A X.env) fp) tg1 sl1 tgt1) (ht1 : ∀ (s : Shared) (H : Hp) (A : Addr) (cl : List (Str × Addr)) (fp : List Addr), DTs (X.blk s H scope (compEnvC scope cl A X.env) fp) C.us ifs1 ff1)
    (he : ∀ (s : Shared) (H : Hp) (A : Addr) (cl : List (Str × Addr)) (fp : List Addr), DP (X.blk s H scope (compEnvC scope cl A X.env) fp) C.us elt fe) (hu : C.ms.lookup i = some mL := by rfl) (hp : C.pins.lookup i = none := by rfl) (hs : ∀ x, foldedSetIterable iter X.env x = pure x := by intro _; rfl) (hs1 : ∀ env x, foldedSetIterable iter1 env x = pure x := by intro _ _; rfl) :
    DS X C (.Assign [.Name y py] (.ListComp elt [⟨tg, iter, ifs, 0⟩, ⟨tg1, iter1, ifs1, 0⟩] scope pos) spos) (sSetL i (cLc2 fi (own.map (·.2)) tgt ff (lcIn fi1 vs1 tgt1 ff1 fe))) := by
  obtain ⟨w, h1, h2⟩ := hi.ex
  exact ⟨_, ps_setLc2 hc hN hy hyl hsw h1 ok (fun i hi => sl_of hv i (by simpa using hi)) (fun s H A cl fp => (hg s H A cl fp).can) (fun s H A cl fp => (ht s H A cl fp).run) (fun s H A cl fp => (hi1 s H A cl fp).can) (fun s H A cl fp => (hg1 s H A cl fp).can) (fun s H A cl fp => (ht1 s H A cl fp).run) (fun s H A cl fp => (he s H A cl fp).can) hs hs1, ssem_setL (lc2_sem h2 (sl_of hsl) (sl_of hsl1)) hu hp⟩
theorem ds_lc2F {X : Cx} {C : Cf} {i : Nat} {y : Str} {py : Pos} {elt tg iter tg1 iter1 : Expr} {ifs ifs1 : List Expr} {scope : Scope} {own : List (Str × Nat)} {vs1 : List Nat} {pos spos : Pos} {sl sl1 : List Nat} {fi fi1 : IF} {tgt tgt1 : GF} {ff ff1 : Env → R Bool} {fe : PF} (hc : X.calm = true) (hN : X.N.Nodup) (hy : X.N[i]? = some y) (hyl : X.env.scope.names.lookup y = some .local)
    (hsw : swapsWith (.ListComp elt [⟨tg, iter, ifs, 0⟩, ⟨tg1, iter1, ifs1, 0⟩] scope pos) (some (.Name y py)) spos.line X.env = pure true) (hi : DI X C.us tg iter fi) (ok : BlkOk X.N X.env.scope scope own) (hv : vs1.all (fun j => (own.map (·.2)).contains j) = true) (hsl : sl.all (fun j => (own.map (·.2)).contains j) = true) (hsl1 : sl1.all (fun j => vs1.contains j) = true)
    (hg : ∀ (s : Shared) (H : Hp) (A : Addr) (cl : List (Str × Addr)) (fp : List Addr), DG (X.blk s H scope (compEnvC scope cl A X.env) fp) tg sl tgt) (ht : ∀ (s : Shared) (H : Hp) (A : Addr) (cl : List (Str × Addr)) (fp : List Addr), DTs (X.blk s H scope (compEnvC scope cl A X.env) fp) C.us ifs ff)
    (hi1 : ∀ (s : Shared) (H : Hp) (A : Addr) (cl : List (Str × Addr)) (fp : List Addr), DI (X.blk s H scope (compEnvC scope cl A X.env) fp) C.us tg1 iter1 fi1)
    (hg1 : ∀ (s : Shared) (H : Hp) (A : Addr) (cl : List (Str × Addr)) (fp : List Addr), DG (X.blk s H scope (compEnvC scope cl A X.env) fp) tg1 sl1 tgt1) (ht1 : ∀ (s : Shared) (H : Hp) (A : Addr) (cl : List (Str × Addr)) (fp : List Addr), DTs (X.blk s H scope (compEnvC scope cl A X.env) fp) C.us ifs1 ff1)
    (he : ∀ (s : Shared) (H : Hp) (A : Addr) (cl : List (Str × Addr)) (fp : List Addr), DP (X.blk s H scope (compEnvC scope cl A X.env) fp) C.us elt fe) (hu : C.us.contains i = false := by rfl) (hp : C.pins.lookup i = none := by rfl) (hs : ∀ x, foldedSetIterable iter X.env x = pure x := by intro _; rfl) (hs1 : ∀ env x, foldedSetIterable iter1 env x = pure x := by intro _ _; rfl) :
    DS X C (.Assign [.Name y py] (.ListComp elt [⟨tg, iter, ifs, 0⟩, ⟨tg1, iter1, ifs1, 0⟩] scope pos) spos) (sSet i (cList (cLc2 fi (own.map (·.2)) tgt ff (lcIn fi1 vs1 tgt1 ff1 fe)))) := by
  obtain ⟨w, h1, h2⟩ := hi.ex
  exact ⟨_, ps_setLc2 hc hN hy hyl hsw h1 ok (fun i hi => sl_of hv i (by simpa using hi)) (fun s H A cl fp => (hg s H A cl fp).can) (fun s H A cl fp => (ht s H A cl fp).run) (fun s H A cl fp => (hi1 s H A cl fp).can) (fun s H A cl fp => (hg1 s H A cl fp).can) (fun s H A cl fp => (ht1 s H A cl fp).run) (fun s H A cl fp => (he s H A cl fp).can) hs hs1, ssem_set (lc2_sem h2 (sl_of hsl) (sl_of hsl1)).p hu hp⟩
/-! ## defs that call themselves: nothing is known of the last one -/
theorem mkFn0 {P : Program} {w : World} {K : PySem.W.Frag} {mg : Str → Option Value} {base : Heap} {x : Str} {st : Stmt} {ps : List Str} {k : Nat} (F : FunAt K mg x st)
    (hb : ∀ (kV doc pm : Value) (an : Option Addr) (cdv ct : Value) (us : List Value), us.length = ps.length → bindArgs (PySem.W.fnOf x x (defArgs st) (defBody st) (defScope st) .none kV doc pm an cdv ct) ⟨us, []⟩ = pure (ps.zip us)) :
    HasFn P w K mg base x k ps.length (fun _ => .no) := by
  obtain ⟨fa, fd, F, hm⟩ := F.ex
  exact ⟨fa, fd, ps, ⟨fun vs H Q E h => h.1, fun _ _ _ _ h => by obtain ⟨_, _, _, _, _, _, h, _⟩ := h; cases h⟩, hm, F.kp, F.bindsN hb⟩
theorem mkFnM0 {P : Program} {w : World} {K : PySem.W.Frag} {mg : Str → Option Value} {base : Heap} {x : Str} {st : Stmt} {ps : List Str} {k : Nat} {m : Mode} (F : FunAt K mg x st)
    (hb : ∀ (kV doc pm : Value) (an : Option Addr) (cdv ct : Value) (us : List Value), us.length = ps.length → bindArgs (PySem.W.fnOf x x (defArgs st) (defBody st) (defScope st) .none kV doc pm an cdv ct) ⟨us, []⟩ = pure (ps.zip us)) :
    HasFnM P w K mg base x k ps.length m (fun _ => .no) := by
  obtain ⟨fa, fd, F, hm⟩ := F.ex
  exact ⟨fa, fd, ps, ⟨fun vs H Q E h => h.1, fun _ _ _ _ h => by obtain ⟨_, _, _, _, _, _, _, _, _, _, _, _, _, _, h, _⟩ := h; cases h⟩, hm, F.kp, F.bindsN hb⟩
/-! plain -/
def LcI (tgt : GF) (ff : Env → R Bool) (inner : Env → R (List D)) (d : D) (env : Env) (b : Bool) (ys : List D) : Prop := ∃ e1, tgt d env = .ok e1 ∧ ff e1 = .ok b ∧ (b = true → inner e1 = .ok ys)
theorem lcI_mk {tgt : GF} {ff : Env → R Bool} {inner : Env → R (List D)} {d : D} {ys : List D} {env e1 : Env} {b : Bool} (h : tgt d env = .ok e1) (h2 : ff e1 = .ok b) (h3 : b = true → inner e1 = .ok ys) : LcI tgt ff inner d env b ys := ⟨e1, h, h2, h3⟩
theorem lcGo2_w {α : Type} {tgt : GF} {ff : Env → R Bool} {inner : Env → R (List D)} {env : Env} {c : α → D} {p : α → Bool} {g : α → List D} : ∀ {l : List α}, (∀ x ∈ l, LcI tgt ff inner (c x) env (p x) (g x)) → lcGo2 tgt ff inner env (l.map c) = .ok ((l.filter p).flatMap g)
  | [], _ => rfl
  | x :: l, h => by
    obtain ⟨e1, h1, h2, h3⟩ := h x List.mem_cons_self
    have ih := lcGo2_w fun y hy => h y (List.mem_cons_of_mem _ hy)
    rw [List.map_cons]
    unfold lcGo2
    rw [h1, R.bind_ok, h2, R.bind_ok]
    cases hp : p x with
    | true =>
      rw [if_pos rfl, h3 hp, R.bind_ok, ih, R.bind_ok, List.filter_cons, if_pos hp]
      rfl
    | false =>
      rw [if_neg Bool.false_ne_true, ih, List.filter_cons, if_neg (by rw [hp]; exact Bool.false_ne_true)]
theorem cLc2_w {α : Type} {fi : IF} {vs : List Nat} {tgt : GF} {ff : Env → R Bool} {inner : Env → R (List D)} {env e0 : Env} {l : List α} {c : α → D} {p : α → Bool} {g : α → List D} (hi : fi env = .ok (l.map c)) (hw : wipeE env vs = e0)
    (h : ∀ x ∈ l, LcI tgt ff inner (c x) e0 (p x) (g x)) (hz : ((l.filter p).flatMap g).length ≤ sizeLine) : cLc2 fi vs tgt ff inner env = .ok ((l.filter p).flatMap g) := by
  subst hw
  unfold cLc2
  rw [hi, R.bind_ok, lcGo2_w h, R.bind_ok, decide_eq_true hz, R.when_true]
theorem lcIn_w {α : Type} {fi1 : IF} {vs1 : List Nat} {tgt1 : GF} {ff1 : Env → R Bool} {fe : PF} {env e0 : Env} {l : List α} {c : α → D} {p : α → Bool} {g : α → D} (hi : fi1 env = .ok (l.map c)) (hw : wipeE env vs1 = e0) (h : ∀ x ∈ l, LcB tgt1 ff1 fe (c x) e0 (p x) (g x)) : lcIn fi1 vs1 tgt1 ff1 fe env = .ok ((l.filter p).map g) := by
  subst hw
  unfold lcIn
  rw [hi, R.bind_ok, lcGo_mapA c p g h]
theorem lcInY_w {α : Type} {fi1 : IF} {vs1 : List Nat} {tgt1 : GF} {fe : PF} {env e0 : Env} {l : List α} {c : α → D} {g : α → D} (hi : fi1 env = .ok (l.map c)) (hw : wipeE env vs1 = e0) (h : ∀ x ∈ l, LcY tgt1 fe (c x) e0 (g x)) : lcIn fi1 vs1 tgt1 cYes fe env = .ok (l.map g) := by
  have := lcIn_w (fi1 := fi1) (vs1 := vs1) (tgt1 := tgt1) (ff1 := cYes) (fe := fe) (env := env) (p := fun _ => true) (g := g) hi hw fun x hx => by
    obtain ⟨e1, h1, h2⟩ := h x hx
    exact ⟨e1, h1, rfl, fun _ => h2⟩
  rw [this, List.filter_eq_self.mpr fun _ _ => rfl]
theorem cLc2Y_w {α : Type} {fi : IF} {vs : List Nat} {tgt : GF} {inner : Env → R (List D)} {env e0 : Env} {l : List α} {c : α → D} {g : α → List D} (hi : fi env = .ok (l.map c)) (hw : wipeE env vs = e0)
    (h : ∀ x ∈ l, ∃ e1, tgt (c x) e0 = .ok e1 ∧ inner e1 = .ok (g x)) (hz : (l.flatMap g).length ≤ sizeLine) : cLc2 fi vs tgt cYes inner env = .ok (l.flatMap g) := by
  have e : l.filter (fun _ => true) = l := List.filter_eq_self.mpr fun _ _ => rfl
  have := cLc2_w (fi := fi) (vs := vs) (tgt := tgt) (ff := cYes) (inner := inner) (env := env) (c := c) (p := fun _ => true) (g := g) hi hw (fun x hx => by
    obtain ⟨e1, h1, h2⟩ := h x hx
    exact ⟨e1, h1, rfl, fun _ => h2⟩) (by rw [e]; exact hz)
  rw [this, e]
end Dz

set_option maxRecDepth 100000
set_option maxHeartbeats 2000000
namespace Dz
open PySem PySem.Spec PyProof.Rows L2
/-! ## words sorted -/
theorem dataLe_words {β : Type} (x : β → List Int) : PySem.W.dataLe false (fun b => wD (x b)) = fun p q => decide (x p ≤ x q) := by
  funext p q
  show (!PySem.W.dataLt (.tuple ((x q).map .int)) (.tuple ((x p).map .int))) = _
  rw [PySem.W.dataLt_tuple]
  show (!PySem.W.rowLt ((x q).map .int) ((x p).map .int)) = _
  rw [PySem.W.dataLt_ints]
  by_cases h : x q < x p
  · have h' : ¬ x p ≤ x q := fun r => List.not_lt.mpr r h
    simp [h, h']
  · have h' : x p ≤ x q := List.not_lt.mp h
    simp [h, h']
theorem sortD_words {ns ms : List (List Int)} (hp : ns.Perm ms) (hm : ms.Pairwise (· ≤ ·)) : sortD (ns.map wD) = ms.map wD := by
  unfold sortD
  have h1 : (ns.map wD).mergeSort (PySem.W.dataLe false id) = (ns.mergeSort fun x y => decide (x ≤ y)).map wD := by
    rw [List.map_mergeSort (r := fun x y : List Int => decide (x ≤ y)) (s := PySem.W.dataLe false id)]
    intro a _ b _
    exact (congrFun (congrFun (dataLe_words (β := List Int) (fun x => x)) a) b).symm
  rw [h1]
  have hs := List.pairwise_mergeSort (le := fun x y : List Int => decide (x ≤ y)) (by intro x y z h1 h2; simp only [decide_eq_true_eq] at *; exact List.le_trans h1 h2) (by intro x y; simp only [Bool.or_eq_true, decide_eq_true_eq]; exact List.le_total x y) ns
  have hs' : (ns.mergeSort fun x y => decide (x ≤ y)).Pairwise (· ≤ ·) := hs.imp fun h => of_decide_eq_true h
  rw [List.Perm.eq_of_pairwise (fun x y _ _ h1 h2 => List.le_antisymm h1 h2) hs' hm ((List.mergeSort_perm _ _).trans hp)]
theorem alikeAll_ints : ∀ a b : List Int, PySem.W.alikeAll (a.map PyData.int) (b.map PyData.int) = true
  | [], _ => by rw [List.map_nil, PySem.W.alikeAll]
  | _ :: _, [] => by rw [List.map_nil, List.map_cons, PySem.W.alikeAll]
  | x :: a, y :: b => by
    rw [List.map_cons, List.map_cons, PySem.W.alikeAll, alikeAll_ints a b, PySem.W.alike]; rfl
theorem sortOk_words (ns : List (List Int)) (hne : ∀ n ∈ ns, n ≠ []) : sortOk (ns.map wD) = true := by
  unfold sortOk
  rw [Bool.and_eq_true, Bool.and_eq_true, Bool.or_eq_true]
  refine ⟨⟨List.all_eq_true.mpr fun d hd => List.all_eq_true.mpr fun e he => ?_, .inl (List.all_eq_true.mpr fun d hd => ?_)⟩, List.all_eq_true.mpr fun d hd => ?_⟩
  · obtain ⟨a, _, rfl⟩ := List.mem_map.mp hd
    obtain ⟨b, _, rfl⟩ := List.mem_map.mp he
    show PySem.W.alikeAll (a.map PyData.int) (b.map PyData.int) = true
    exact alikeAll_ints a b
  · obtain ⟨a, ha, rfl⟩ := List.mem_map.mp hd
    cases a with
    | nil => exact absurd rfl (hne _ ha)
    | cons x a => rfl
  · obtain ⟨a, _, rfl⟩ := List.mem_map.mp hd
    exact shaped_wD a
/-! one thing, or none, sorted -/
open PySem.W PySem.Calls in
theorem sortsSmall {prog : Program} {w : World} {A : Around} {s : Shared} {vs : List Value} {ds : List PyData} (e : PySem.W.EachIs (fun v d => ∃ as, Reads s.heap v d as) vs ds) (hal : PySem.W.AllAlike ds) (hn : ∀ d ∈ ds, d ≠ .none) (hu : ∀ d, d ∈ ds → A.units + d.depth < cLine) (hl : ds.length ≤ 1) : PySem.W.SortsAt prog w A s (PySem.W.dataKind s.heap ds) vs := by
  refine ⟨fun v hv => ?_, general', ?_, fun h2 => ?_⟩
  · obtain ⟨d, hd, as, r⟩ := e.left v hv
    exact ⟨_, PySem.W.dataKind_some hal hd r⟩
  · intro E x y a b Q ha hb hq
    obtain ⟨d, as, hd, ra, rfl⟩ := PySem.W.dataKind_inv ha
    obtain ⟨d', as', hd', rb, rfl⟩ := PySem.W.dataKind_inv hb
    have : keyLt' general' x y = oneLt' false x y := rfl
    rw [this]
    exact PySem.W.oneLt_alike (fun h => absurd h Bool.false_ne_true) ra rb (hal d hd d' hd') (hn d hd) (Nat.lt_of_le_of_lt (Nat.add_le_add_left (Nat.min_le_left _ _) _) (hu d hd)) hq
  · rw [e.length] at h2
    omega
def smallOk (ds : List D) : Bool := decide (ds.length ≤ 1) && (ds.all (fun d => PySem.W.alike d d) && ds.all (fun d => SeqAt.shaped d)) && ds.all (fun d => match d with | .none => false | _ => true)
theorem smallOk_of {ds : List D} (h : smallOk ds = true) : ds.length ≤ 1 ∧ PySem.W.AllAlike ds ∧ (∀ d ∈ ds, SeqAt.shaped d = true) ∧ ∀ d ∈ ds, d ≠ .none := by
  unfold smallOk at h
  rw [Bool.and_eq_true, Bool.and_eq_true, Bool.and_eq_true, decide_eq_true_eq] at h
  obtain ⟨⟨h1, h2, h3⟩, h4⟩ := h
  refine ⟨h1, fun d hd d' hd' => ?_, List.all_eq_true.mp h3, fun d hd e => ?_⟩
  · have : d = d' := by
      match ds, h1, hd, hd' with
      | [x], _, hd, hd' =>
        have a : d = x := by simpa using hd
        have b : d' = x := by simpa using hd'
        rw [a, b]
    subst this
    exact List.all_eq_true.mp h2 d hd
  · subst e
    have := List.all_eq_true.mp h4 _ hd
    cases this
def rSortS (K : PySem.W.Frag) : List V → Hp → VK → Prop := fun xs H Q => ∃ (a : Addr) (zs : List (V × D)), xs = [.ref a] ∧ SqL K H a (zs.map (·.1)) ∧ (∀ z ∈ zs, Dp K H z.1 z.2) ∧ smallOk (zs.map (·.2)) = true ∧
  ∀ p, H p = none → Q (.ref p) (upd H p (.lst (zs.map (·.1))))
theorem sort1 {α : Type} {le : α → α → Bool} {l : List α} (h : l.length ≤ 1) : l.mergeSort le = l := by
  match l, h with
  | [], _ => exact List.mergeSort_nil
  | [x], _ => exact List.mergeSort_singleton x
theorem cr_sortS {X : Cx} {k : Nat} (hr : RmG k X.A) : CallR X (.builtin "sorted") (rSortS X.K) := by
  intro pins s σ H vs us Q I r h
  obtain ⟨a, zs, rfl, hs, hd, hk, q⟩ := h
  obtain ⟨its, rv, hl, hz⟩ := I.list hs
  rw [Vals.ref1 r]
  obtain ⟨k1, k2, k3, k4⟩ := smallOk_of hk
  have e := each_zip rv rfl
  have hun := hr.un
  have hlen : zs.length = its.length := by rw [← rv.length, List.length_map]
  have er := each_mem e fun u z hz rz => Dp.reads I z.2 z.1 u (hd z hz) rz
  have er' : PySem.W.EachIs (fun v (b : V × D) => ∃ as, Reads (PySem.W.sortingHeap (PySem.W.copyHeap s.heap its) (s.heap.objs.size + 1) its) v b.2 as) its zs := er.mono fun _ _ ⟨as, r⟩ => ⟨as, PyProof.Rows.Reads.keeps (fun _ _ => PySem.W.sorting_copy_old) r⟩
  refine PySem.W.sorted_vals hl.isList (sortsSmall (s := { s with heap := PySem.W.sortingHeap (PySem.W.copyHeap s.heap its) (s.heap.objs.size + 1) its }) (PySem.W.each_map (R := fun v d => ∃ as, Reads (PySem.W.sortingHeap (PySem.W.copyHeap s.heap its) (s.heap.objs.size + 1) its) v d as) (fun z : V × D => z.2) er') k2 k4 (fun d hd' => ?_) k1) (by rw [← rv.length]; exact hz) ?_
  · have := SeqAt.depth_of_shaped (k3 d hd')
    show X.A.units + 2 + d.depth < cLine
    omega
  · have he := PySem.W.sortVals_data false e er' k2
    rw [sort1 (by rw [List.length_map] at k1; exact k1)] at he
    obtain ⟨ep, he'⟩ := PyProof.Rows.sortedAll_at s.heap its (PySem.W.sortVals (PySem.W.dataKind (PySem.W.sortingHeap (PySem.W.copyHeap s.heap its) (s.heap.objs.size + 1) its) (zs.map fun z => z.2)) false its its).toArray
    have hv := vals_each he
    exact ⟨.ref _, upd H (s.heap.objs.size + 1) (.lst (zs.map (·.1))), I.laid (t' := s.toks) (fun _ _ => PyProof.Rows.sortedAll_old) (Nat.le_succ _) ⟨hz, _, ep, hv, he'⟩, rfl, q _ (I.hok.fresh (Nat.le_succ _))⟩
def gSortedU : List D → R D
  | [.list ds] => if smallOk ds = true then .ok (.list ds) else gSortedT [.list ds]
  | as => gSortedT as
def rSortU (K : PySem.W.Frag) : List V → Hp → VK → Prop := fun xs H Q => rSortXT K xs H Q ∨ rSortS K xs H Q
theorem cr_sortU {X : Cx} {k : Nat} (hr : RmG k X.A) : CallR X (.builtin "sorted") (rSortU X.K) := (cr_sortXT hr).or (cr_sortS hr)
theorem v_sortedU {K : PySem.W.Frag} : OpN K (rSortU K) gSortedU := fun xs H Z as c Q hz r h hq => by
  unfold gSortedU at h
  split at h
  · rename_i ds
    split at h
    · rename_i h1
      cases h
      cases r with
      | cons r t =>
        cases t
        cases r with
        | @lst a0 vs0 _ tt q =>
          obtain ⟨z1, z2, z3⟩ := zip_reps q
          refine .inr ⟨_, _, rfl, .inl (.inl (by rw [z1]; exact hz _ _ tt)), fun z hzm => ?_, by rw [z2]; exact h1, fun p np => ?_⟩
          · refine (z3 z hzm).dp hz (SeqAt.canLay_of_shaped ((smallOk_of h1).2.2.1 _ ?_))
            have := List.mem_map_of_mem (f := (·.2)) hzm
            rw [z2] at this
            exact this
          · rw [z1]
            have g := Gr.new (o := .lst vs0) hz np
            exact hq _ _ _ g (.lst upd_same (q.mono g.zz))
    · exact .inl (v_sortedT xs H Z _ c Q hz r h hq)
  · exact .inl (v_sortedT xs H Z as c Q hz r h hq)
theorem gSortedU_words {ns ms : List (List Int)} (hs : ns.length ≤ 1 ∨ ∀ n ∈ ns, n ≠ []) (hp : ns.Perm ms) (hm : ms.Pairwise (· ≤ ·)) : gSortedU [.list (ns.map wD)] = .ok (.list (ms.map wD)) := by
  unfold gSortedU
  dsimp only
  split
  · rename_i h
    have h1 := (smallOk_of h).1
    rw [List.length_map] at h1
    have : ns = ms := by
      match ns, ms, hp, h1 with
      | [], ms, hp, _ => exact (List.nil_perm.mp hp).symm ▸ rfl
      | [x], ms, hp, _ => exact (List.singleton_perm.mp hp).symm ▸ rfl
    rw [this]
  · rename_i h
    have hne : ∀ n ∈ ns, n ≠ [] := by
      rcases hs with h1 | h1
      · exfalso
        apply h
        unfold smallOk
        rw [Bool.and_eq_true, Bool.and_eq_true, Bool.and_eq_true, decide_eq_true_eq]
        refine ⟨⟨by rw [List.length_map]; exact h1, List.all_eq_true.mpr fun d hd => ?_, List.all_eq_true.mpr fun d hd => ?_⟩, List.all_eq_true.mpr fun d hd => ?_⟩
        · obtain ⟨a, _, rfl⟩ := List.mem_map.mp hd
          exact alikeAll_ints a a
        · obtain ⟨a, _, rfl⟩ := List.mem_map.mp hd
          exact shaped_wD a
        · obtain ⟨a, _, rfl⟩ := List.mem_map.mp hd
          rfl
      · exact h1
    show R.when (sortOk (ns.map wD)) (R.ok (PyData.list (sortD (ns.map wD)))) = _
    rw [sortOk_words ns hne, sortD_words hp hm]; rfl
/-! ### more rules -/
theorem cItX_lit1 {a : Int} {env : Env} : cItX (cTup (aCons (cC (.int a)) aNil)) env = .ok ([a].map PyData.int) := rfl
theorem cItX_lit2 {a b : Int} {env : Env} : cItX (cTup (aCons (cC (.int a)) (aCons (cC (.int b)) aNil))) env = .ok ([a, b].map PyData.int) := rfl
theorem cItX_lit3 {a b c : Int} {env : Env} : cItX (cTup (aCons (cC (.int a)) (aCons (cC (.int b)) (aCons (cC (.int c)) aNil)))) env = .ok ([a, b, c].map PyData.int) := rfl
theorem cItX_lit4 {a b c d : Int} {env : Env} : cItX (cTup (aCons (cC (.int a)) (aCons (cC (.int b)) (aCons (cC (.int c)) (aCons (cC (.int d)) aNil))))) env = .ok ([a, b, c, d].map PyData.int) := rfl
theorem cTup_star1 {f g : PF} {env : Env} {w : List Int} {x : Int} (h : f env = .ok (wD w)) (h2 : g env = .ok (.int x)) (hz : w.length + 1 ≤ sizeLine) : cTup (aStar f (aCons g aNil)) env = .ok (wD (w ++ [x])) := by
  have := cTup_ok (f := aStar f (aCons g aNil)) (env := env) (aStar_ok h itemsOf_wD (aCons_ok h2 aNil_ok)) (by rw [List.length_append, List.length_map]; exact hz)
  rw [this]
  unfold wD
  rw [List.map_append]
  rfl
theorem gAdd_w1 {w : List Int} {x : Int} (h : w.length + 1 ≤ sizeLine) : gAdd (wD w) (.tuple [.int x]) = .ok (wD (w ++ [x])) := gAdd_wD (a := w) (b := [x]) h
theorem gAdd_1w {w : List Int} {x : Int} (h : 1 + w.length ≤ sizeLine) : gAdd (.tuple [.int x]) (wD w) = .ok (wD (x :: w)) := gAdd_wD (a := [x]) (b := w) h
theorem gEq_w0 (a : List Int) : gEq (wD a) (.tuple []) = .ok (.bool (decide (a = []))) := gEq_wD a []
theorem gNe_w0 (a : List Int) : gNe (wD a) (.tuple []) = .ok (.bool (!decide (a = []))) := gNe_wD a []
theorem gAdd_listM {α : Type} {c : α → D} {a b : List α} (h : a.length + b.length ≤ sizeLine) : gAdd (.list (a.map c)) (.list (b.map c)) = .ok (.list ((a ++ b).map c)) := by
  rw [gAdd_list (by rw [List.length_map, List.length_map]; exact h), List.map_append]
theorem gAdd_tupM {α : Type} {c : α → D} {a b : List α} (h : a.length + b.length ≤ sizeLine) : gAdd (.tuple (a.map c)) (.tuple (b.map c)) = .ok (.tuple ((a ++ b).map c)) := by
  rw [gAdd_tup (by rw [List.length_map, List.length_map]; exact h), List.map_append]
theorem eqvAll_wD : ∀ (a b : List (List Int)), PyData.eqvAll (a.map wD) (b.map wD) = decide (a = b)
  | [], [] => by simp [PyData.eqvAll]
  | [], _ :: _ => by simp [PyData.eqvAll]
  | _ :: _, [] => by simp [PyData.eqvAll]
  | x :: a, y :: b => by
    rw [List.map_cons, List.map_cons, PyData.eqvAll, eqvAll_wD a b, eqv_wD]
    by_cases h : x = y
    · subst h; simp
    · simp [h]
theorem shaped_wsT (ws : List (List Int)) : SeqAt.shaped (.tuple (ws.map wD)) = true := by
  have := shaped_ws ws
  unfold SeqAt.shaped at this ⊢
  simp only [PyData.canLay0, PyData.depth] at this ⊢
  exact this
theorem gEq_ws (a b : List (List Int)) : gEq (.list (a.map wD)) (.list (b.map wD)) = .ok (.bool (decide (a = b))) := by
  show R.when (SeqAt.shaped (.list (a.map wD)) && SeqAt.shaped (.list (b.map wD))) (R.ok (PyData.bool (PyData.eqv (.list (a.map wD)) (.list (b.map wD))))) = _
  rw [shaped_ws, shaped_ws, PyData.eqv, eqvAll_wD]; rfl
theorem gNe_ws (a b : List (List Int)) : gNe (.list (a.map wD)) (.list (b.map wD)) = .ok (.bool (!decide (a = b))) := by
  show R.when (SeqAt.shaped (.list (a.map wD)) && SeqAt.shaped (.list (b.map wD))) (R.ok (PyData.bool (!PyData.eqv (.list (a.map wD)) (.list (b.map wD))))) = _
  rw [shaped_ws, shaped_ws, PyData.eqv, eqvAll_wD]; rfl
theorem gEq_wsT (a b : List (List Int)) : gEq (.tuple (a.map wD)) (.tuple (b.map wD)) = .ok (.bool (decide (a = b))) := by
  show R.when (SeqAt.shaped (.tuple (a.map wD)) && SeqAt.shaped (.tuple (b.map wD))) (R.ok (PyData.bool (PyData.eqv (.tuple (a.map wD)) (.tuple (b.map wD))))) = _
  rw [shaped_wsT, shaped_wsT, PyData.eqv, eqvAll_wD]; rfl
theorem gNe_wsT (a b : List (List Int)) : gNe (.tuple (a.map wD)) (.tuple (b.map wD)) = .ok (.bool (!decide (a = b))) := by
  show R.when (SeqAt.shaped (.tuple (a.map wD)) && SeqAt.shaped (.tuple (b.map wD))) (R.ok (PyData.bool (!PyData.eqv (.tuple (a.map wD)) (.tuple (b.map wD))))) = _
  rw [shaped_wsT, shaped_wsT, PyData.eqv, eqvAll_wD]; rfl
theorem gEq_wsT0 (a : List (List Int)) : gEq (.tuple (a.map wD)) (.tuple []) = .ok (.bool a.isEmpty) := by
  have := gEq_wsT a []
  rw [List.map_nil] at this
  rw [this]
  cases a <;> rfl
theorem gNe_wsT0 (a : List (List Int)) : gNe (.tuple (a.map wD)) (.tuple []) = .ok (.bool (!a.isEmpty)) := by
  have := gNe_wsT a []
  rw [List.map_nil] at this
  rw [this]
  cases a <;> rfl
theorem gIn_wD2 (a : List Int) (ws : List (List Int)) : gInS false (wD a) (.list (ws.map wD)) = .ok (.bool (decide (a ∈ ws))) := by
  show R.when (SeqAt.shaped (wD a) && SeqAt.shaped (.list (ws.map wD))) (R.ok (PyData.bool (elemD (wD a) (ws.map wD)))) = _
  rw [shaped_wD, shaped_ws, elemD_f wD eqv_wD]
  exact congrArg (fun b => R.ok (PyData.bool b)) (decide_eq_decide.mpr Iff.rfl)
theorem gNotIn_wD2 (a : List Int) (ws : List (List Int)) : gInS true (wD a) (.list (ws.map wD)) = .ok (.bool (!decide (a ∈ ws))) := by
  show R.when (SeqAt.shaped (wD a) && SeqAt.shaped (.list (ws.map wD))) (R.ok (PyData.bool (!elemD (wD a) (ws.map wD)))) = _
  rw [shaped_wD, shaped_ws, elemD_f wD eqv_wD]
  exact congrArg (fun b => R.ok (PyData.bool (!b))) (decide_eq_decide.mpr Iff.rfl)
theorem gIn_wD2T (a : List Int) (ws : List (List Int)) : gInS false (wD a) (.tuple (ws.map wD)) = .ok (.bool (decide (a ∈ ws))) := by
  show R.when (SeqAt.shaped (wD a) && SeqAt.shaped (.tuple (ws.map wD))) (R.ok (PyData.bool (elemD (wD a) (ws.map wD)))) = _
  rw [shaped_wD, shaped_wsT, elemD_f wD eqv_wD]
  exact congrArg (fun b => R.ok (PyData.bool b)) (decide_eq_decide.mpr Iff.rfl)
theorem gNotIn_wD2T (a : List Int) (ws : List (List Int)) : gInS true (wD a) (.tuple (ws.map wD)) = .ok (.bool (!decide (a ∈ ws))) := by
  show R.when (SeqAt.shaped (wD a) && SeqAt.shaped (.tuple (ws.map wD))) (R.ok (PyData.bool (!elemD (wD a) (ws.map wD)))) = _
  rw [shaped_wD, shaped_wsT, elemD_f wD eqv_wD]
  exact congrArg (fun b => R.ok (PyData.bool (!b))) (decide_eq_decide.mpr Iff.rfl)
theorem gRev_w {w : List Int} : gRev (wD w) = .ok (wD w.reverse) := by
  show R.ok (PyData.tuple (w.map PyData.int).reverse) = _
  unfold wD
  rw [List.map_reverse]
def LcZ (tgt : GF) (inner : Env → R (List D)) (d : D) (env : Env) (ys : List D) : Prop := ∃ e1, tgt d env = .ok e1 ∧ inner e1 = .ok ys
theorem lcZ_mk {tgt : GF} {inner : Env → R (List D)} {d : D} {ys : List D} {env e1 : Env} (h : tgt d env = .ok e1) (h2 : inner e1 = .ok ys) : LcZ tgt inner d env ys := ⟨e1, h, h2⟩
theorem cLc2Z_w {α β : Type} {fi : IF} {vs : List Nat} {tgt : GF} {inner : Env → R (List D)} {env e0 : Env} {l : List α} {c : α → D} {g : α → List β} {k : β → D} (hi : fi env = .ok (l.map c)) (hw : wipeE env vs = e0)
    (h : ∀ x ∈ l, LcZ tgt inner (c x) e0 ((g x).map k)) (hz : (l.flatMap g).length ≤ sizeLine) : cLc2 fi vs tgt cYes inner env = .ok ((l.flatMap g).map k) := by
  have := cLc2Y_w (fi := fi) (vs := vs) (tgt := tgt) (inner := inner) (env := env) (c := c) (g := fun x => (g x).map k) hi hw h (by rw [← List.map_flatMap, List.length_map]; exact hz)
  rw [this, List.map_flatMap]
theorem exW {gt : GF} {d : D} {env e1 : Env} {P : Env → Prop} (h : gt d env = .ok e1) (q : P e1) : ∃ e, gt d env = .ok e ∧ P e := ⟨_, h, q⟩
/-- a loop over a list, by what was gone through -/
theorem wx_forPre {α : Type} {gt : GF} {g : SF} {env : Env} {Q : Flo → Env → Prop} (c : α → D) (P : List α → Env → Prop) {l : List α} (h0 : P [] env) (hb : ∀ done x rest, l = done ++ x :: rest → ∀ e, P done e → ∃ e1, gt (c x) e = .ok e1 ∧ Wx g e1 (fun fl e2 => fl = .nx ∧ P (done ++ [x]) e2)) (q : ∀ e', P l e' → Q .nx e') : Wx (forL gt g (l.map c)) env Q := by
  have key : ∀ (rest done : List α) (e : Env), l = done ++ rest → P done e → Wx (forL gt g (rest.map c)) e Q := fun rest => by
    induction rest with
    | nil =>
      intro done e hl hp
      rw [List.append_nil] at hl
      subst hl
      exact wx_forNil (q _ hp)
    | cons x rest ih =>
      intro done e hl hp
      obtain ⟨e1, a1, fl, e2, a2, a3, a4⟩ := hb done x rest hl e hp
      subst a3
      rw [List.map_cons]
      exact wx_forCons a1 ⟨_, _, a2, ih (done ++ [x]) e2 (by rw [hl]; simp) a4⟩
  exact key l [] env rfl h0
end Dz

set_option maxRecDepth 100000
set_option maxHeartbeats 2000000
namespace Dz
open PySem PySem.Spec PyProof.Rows L2
/-! ## a name of the module that stands for an int -/
theorem dp_gint {X : Cx} {us : List Nat} {x : Str} {i : Int} {pos : Pos} (hg : Gl X x) (hm : ∃ t, X.mg x = some (.int i t)) (hd : (x == ("__debug__" : Str)) = false := by decide) : DP X us (.Name x pos) (cC (.int i)) := by
  obtain ⟨t, hm⟩ := hm
  exact ⟨_, pe_glob (v := .int i) hg hm ⟨t, rfl⟩ hd, fun σ H Z env d Q hz he hf hq => by cases hf; exact hq _ _ _ (Gr.refl hz) (.int i)⟩
/-! ## a def without parameters, called -/
section
variable {X : Cx} {us : List Nat} {x : Str} {p pos : Pos} {k j n : Nat} {f : Addr} {fd : FuncData} {ps : List Str} {sp : Sp} {ds : List (Str × Value)} {dvs : List V} {CX : CtxE} {E : XK}
theorem dp_fn0 {F : List D → R D} (G0 : HasFn X.prog X.w X.K X.mg X.base x j 0 F) (hr : RmG k X.A) (hj : j ≤ k) (hg : Gl X x)
    (hdb : (x == ("__debug__" : Str)) = false := by decide) : DP X us (.Call (.Name x p) [] [] pos) (cFn 0 F aNil) := by
  obtain ⟨f, fd, ps, G, hm, hk, hb⟩ := G0.ex
  refine ⟨tCall (spP X.K 0 F) [] (fun _ _ _ => False) tNil, ⟨fun pins s σ H Q I h => wpAny_Call_Name_kw (ld_glob I hg hm (PySem.W.callWith_K0 I.kIn hk (runG (us := []) G (hr.mono hj) hb .nil pass0 I .nil h)) hdb)⟩, fun σ H Z env d Q hz he hf hq => ?_⟩
  obtain ⟨ds, e1, e2⟩ := R.of_bind hf
  obtain ⟨e3, e4⟩ := R.of_when e2
  cases e1
  exact ⟨rfl, Z, [], d, hz, .nil, e4, fun v Z2 H2 g2 r2 => hq v Z2 H2 g2 r2⟩
end
end Dz

set_option maxRecDepth 100000
set_option maxHeartbeats 2000000
namespace Dz
open PySem PySem.Spec PyProof.Rows L2
/-! ## x += e, ints -/
def gAddI : D → D → R D
  | .int i, .int j => .ok (.int (i + j))
  | _, _ => .no
theorem v_addI {K : PySem.W.Frag} : Op2 K rAdd gAddI := fun x y H Z a b c Q hz r1 r2 h hq => by
  unfold gAddI at h
  split at h
  · cases h; cases r1; cases r2
    exact ⟨_, _, rfl, rfl, hq _ _ _ (Gr.refl hz) (.int _)⟩
  · cases h
section
variable {X : Cx} {C : Cf} {e : Expr} {f : PF} {x : Str} {i : Nat} {pos p' : Pos}
theorem ds_aug (hN : X.N.Nodup) (hi : X.N[i]? = some x) (hx : Loc X.env.scope x) (h : DP X C.us e f) (hu : C.us.contains i = false := by rfl) (hp : C.pins.lookup i = none := by rfl)
    (hf : X.fn x = true ∨ X.env.scope.names.lookup x = some .local := by first | exact .inl rfl | exact .inr rfl | assumption) : DS X C (.AugAssign (.Name x p') .Add e pos) (sSet i (cBin gAddI (cV i) f)) := by
  obtain ⟨t, a, b⟩ := h.ex
  exact ⟨_, ps_aug hN hi hx a in_add hf, ssem_set (psem_op v_addI (psem_var hu) b) hu hp⟩
end
theorem gAddI_nat {a b : Nat} : gAddI (.int (a : Int)) (.int (b : Int)) = .ok (.int ((a + b : Nat) : Int)) := rfl
end Dz

set_option maxRecDepth 100000
set_option maxHeartbeats 2000000
namespace Dz
open PySem PySem.Spec PyProof.Rows L2
/-! ## a part of a list, as a list of one's own -/
def cSlL (f : PF) (fl fh : OF) : Env → R (List D) := fun env => (f env).bind fun d => (fl env).bind fun l => (fh env).bind fun h => match d with
  | .list xs => .ok (cutD xs l h)
  | _ => .no
section
variable {X : Cx} {us : List Nat} {e : Expr} {f : PF} {lo hi : Option Expr} {fl fh : OF} {pos p2 : Pos}
theorem do_sl (h : DP X us e f) (hl : DPart X us lo fl) (hh : DPart X us hi fh) : DO X us (.Subscript e (.Slice lo hi none p2) pos) (cSlL f fl fh) := by
  obtain ⟨t, h1, h2⟩ := h.ex
  obtain ⟨tl, h3, h4⟩ := hl.ex
  obtain ⟨th, h5, h6⟩ := hh.ex
  refine ⟨_, pe_slice (sl_tupA.or sl_list) h1 h3 h5, fun σ H Z env ds Q hz he hf hq => ?_⟩
  obtain ⟨d0, e1, e2⟩ := R.of_bind hf
  obtain ⟨l, e3, e4⟩ := R.of_bind e2
  obtain ⟨hh', e5, e6⟩ := R.of_bind e4
  refine h2 σ H Z env d0 _ hz he e1 fun v Z1 H1 g1 r1 => ?_
  refine h4 σ H1 Z1 env l _ g1.zh (he.mono g1) e3 fun Z2 H2 g2 => ?_
  have he2 := (he.mono g1).mono g2
  refine h6 σ H2 Z2 env hh' _ g2.zh he2 e5 fun Z3 H3 g3 => ?_
  have g := (g1.trans g2).trans g3
  have r := (r1.mono g2.zz).mono g3.zz
  split at e6
  · cases e6
    cases r with
    | lst tt q =>
      refine .inr ⟨_, _, rfl, .inl (.inl (g.zh _ _ tt)), fun p np => ?_⟩
      exact hq p _ Z3 _ (g.trans (Gr.own g.zh np)) (g.hh.free np) (g.zh.free np) upd_same (cutD_reps q _ _)
  · cases e6
end
end Dz

set_option maxRecDepth 100000
set_option maxHeartbeats 2000000
namespace Dz
open PySem PySem.Spec PyProof.Rows L2
/-! ## dicts: an empty one is of either kind -/
section
variable {X : Cx} {pins : List (Addr × Obj)} {σ : L2.St} {H H' : Hp} {s : Shared} {a : Addr} {y v : V} {u r : Value} {o : Option V} {A : Around} {E : Value → Shared → Prop}
theorem dT_of_dK {P : Program} {w : World} {h : Heap} (x : ObjOk P w H h a (.dK [])) : ObjOk P w H' h a (.dT []) := by
  obtain ⟨z, hd, vs, rel, ob, es, ep, h1, h2, h3, h4, h5, _⟩ := x
  cases rel
  refine ⟨z, hd, [], .nil, ob, es, ep, h1, h2, h3, ?_, List.nodup_nil⟩
  cases q : es.toList with
  | nil => rfl
  | cons x r =>
    rw [q] at h5
    cases h5
theorem dK_of_dT {P : Program} {w : World} {h : Heap} (x : ObjOk P w H h a (.dT [])) : ObjOk P w H' h a (.dK []) := by
  obtain ⟨z, hd, vs, rel, ob, es, ep, h1, h2, h3, h4, h5⟩ := x
  cases rel
  have e0 : es.toList = [] := h4
  refine ⟨z, hd, [], .nil, ob, es, ep, h1, h2, h3, fun x hx => ?_, ?_, List.nodup_nil⟩
  · have := Array.mem_toList_iff.mpr hx
    rw [e0] at this
    cases this
  · rw [e0]
    exact .nil
theorem Inv.asT (I : L2.Inv X pins σ H s) (h : H a = some (.dK [])) : L2.Inv X pins σ (upd H a (.dT [])) s := by
  have x := I.hok a _ h
  have he : ∃ q, s.heap.get? a = some q := by
    obtain ⟨z, hd, vs, rel, ob, es, ep, h1, _⟩ := x
    exact ⟨ob, h1⟩
  exact I.write (x := a) (e := a) (h' := s.heap) (t' := s.toks) (by rw [h]; exact True.intro) (.inl rfl) (fun b q hb z => z) he (dT_of_dK x)
theorem upd_self {H : Hp} {a : Addr} {o : HO} (h : H a = some o) : upd H a o = H := by
  funext b
  by_cases e : b = a
  · subst e; rw [upd_same, h]
  · rw [upd_ne e]
theorem Inv.asK (h : H a = some (.dK [])) (I : L2.Inv X pins σ (upd H a (.dT [])) s) : L2.Inv X pins σ H s := by
  have x := I.hok a _ upd_same
  have he : ∃ q, s.heap.get? a = some q := by
    obtain ⟨z, hd, vs, rel, ob, es, ep, h1, _⟩ := x
    exact ⟨ob, h1⟩
  have I2 := I.write (x := a) (e := a) (h' := s.heap) (t' := s.toks) (o := .dK []) (by rw [upd_same]; exact True.intro) (.inl rfl) (fun b q hb z => z) he (dK_of_dT x)
  rw [upd_upd, upd_self h] at I2
  exact I2
/-- what stands in the dict at a for y: a dict of the key's kind, or an empty one -/
def DGetX (H : Hp) (a : Addr) (y : V) (o : Option V) : Prop :=
  DGet H a y o ∨ (H a = some (.dK []) ∧ ∃ (k : List Key) (b : Addr), y = .ref b ∧ H b = some (.tup (k.map kV)) ∧ o = none)
def DPutX (H : Hp) (a : Addr) (y v : V) (H' : Hp) : Prop :=
  DPut H a y v H' ∨ (H a = some (.dK []) ∧ ∃ (k : List Key) (b : Addr), y = .ref b ∧ H b = some (.tup (k.map kV)) ∧ H' = upd H a (.dT [(k, v)]))
theorem ne_tup {H : Hp} {a b : Addr} {xs : List V} {kvs : List (Key × V)} (h : H a = some (.dK kvs)) (h' : H b = some (.tup xs)) : b ≠ a := ne_of h' h (fun z => nomatch z)
theorem DGet.empty {H : Hp} {a b : Addr} {k : List Key} (h : H a = some (.dK [])) (h' : H b = some (.tup (k.map kV))) : DGet (upd H a (.dT [])) a (.ref b) none :=
  DGet.t (kvs := []) (k := k) upd_same (by rw [upd_ne (ne_tup h h')]; exact h')
theorem d_inX {Q : Value → Shared → Prop} (hu : A.units + 1 < cLine) (I : L2.Inv X pins σ H s) (g : DGetX H a y o) (ry : RelV y u) (h : ∀ s', L2.Inv X pins σ H s' → Q (.bool o.isSome) s') :
    wpAny (model X.prog X.w) A (compareOp .In u (.ref a)) Q E s := by
  rcases g with g | ⟨h0, k, b, rfl, hb, rfl⟩
  · exact d_in hu I g ry h
  · exact d_in hu (Inv.asT I h0) (DGet.empty h0 hb) ry fun s' I' => h s' (Inv.asK h0 I')
theorem d_notInX {Q : Value → Shared → Prop} (hu : A.units + 1 < cLine) (I : L2.Inv X pins σ H s) (g : DGetX H a y o) (ry : RelV y u) (h : ∀ s', L2.Inv X pins σ H s' → Q (.bool (!o.isSome)) s') :
    wpAny (model X.prog X.w) A (compareOp .NotIn u (.ref a)) Q E s := by
  rcases g with g | ⟨h0, k, b, rfl, hb, rfl⟩
  · exact d_notIn hu I g ry h
  · exact d_notIn hu (Inv.asT I h0) (DGet.empty h0 hb) ry fun s' I' => h s' (Inv.asK h0 I')
theorem d_setItemX {Q : Unit → Shared → Prop} (hu : A.units + 1 < cLine) (I : L2.Inv X pins σ H s) (g : DPutX H a y v H') (ry : RelV y u) (rv : RelV v r) (h : ∀ s', L2.Inv X pins σ H' s' → Q () s') :
    wpAny (model X.prog X.w) A (setItem (.ref a) u r) Q E s := by
  rcases g with g | ⟨h0, k, b, rfl, hb, rfl⟩
  · exact d_setItem hu I g ry rv h
  · refine d_setItem hu (Inv.asT I h0) (DPut.t (kvs := []) (k := k) (v := v) upd_same (by rw [upd_ne (ne_tup h0 hb)]; exact hb) (by rw [sizeLine_eq]; decide)) ry rv fun s' I' => h s' ?_
    rw [upd_upd] at I'
    exact I'
theorem d_get1X {Q : Value → Shared → Prop} (hu : A.units + 1 < cLine) (I : L2.Inv X pins σ H s) (g : DGetX H a y o) (ry : RelV y u) (h : ∀ w' s', L2.Inv X pins σ H s' → RelV (o.getD .non) w' → Q w' s') :
    wpAny (model X.prog X.w) A (call (.builtin "dict.get") [.ref a, u]) Q E s := by
  rcases g with g | ⟨h0, k, b, rfl, hb, rfl⟩
  · exact d_get1 hu I g ry h
  · exact d_get1 hu (Inv.asT I h0) (DGet.empty h0 hb) ry fun w' s' I' => h w' s' (Inv.asK h0 I')
theorem d_get2X {d : V} {Q : Value → Shared → Prop} (hu : A.units + 1 < cLine) (I : L2.Inv X pins σ H s) (g : DGetX H a y o) (ry : RelV y u) (rd : RelV d r) (h : ∀ w' s', L2.Inv X pins σ H s' → RelV (o.getD d) w' → Q w' s') :
    wpAny (model X.prog X.w) A (call (.builtin "dict.get") [.ref a, u, r]) Q E s := by
  rcases g with g | ⟨h0, k, b, rfl, hb, rfl⟩
  · exact d_get2 hu I g ry rd h
  · exact d_get2 hu (Inv.asT I h0) (DGet.empty h0 hb) ry rd fun w' s' I' => h w' s' (Inv.asK h0 I')
end
/-! ### as rules by values -/
section
variable {X : Cx}
def rInD : R2 := fun y x H Q => ∃ a o, x = .ref a ∧ DGetX H a y o ∧ Q (.bl o.isSome) H
def rNotInD : R2 := fun y x H Q => ∃ a o, x = .ref a ∧ DGetX H a y o ∧ Q (.bl (!o.isSome)) H
theorem op_inD (hu : X.A.units + 1 < cLine) : OpR X (compareOp .In) rInD := by
  intro pins s σ H y x u v Q I ry rx h
  obtain ⟨a, o, rfl, g, q⟩ := h
  obtain rfl : v = Value.ref a := rx
  exact d_inX hu I g ry fun s3 I3 => ⟨.bl o.isSome, H, I3, rfl, q⟩
theorem op_notInD (hu : X.A.units + 1 < cLine) : OpR X (compareOp .NotIn) rNotInD := by
  intro pins s σ H y x u v Q I ry rx h
  obtain ⟨a, o, rfl, g, q⟩ := h
  obtain rfl : v = Value.ref a := rx
  exact d_notInX hu I g ry fun s3 I3 => ⟨.bl (!o.isSome), H, I3, rfl, q⟩
def rIxD : R2 := fun x y H Q => ∃ a v, x = .ref a ∧ DGet H a y (some v) ∧ Q v H
theorem ix_dict (hu : X.A.units + 1 < cLine) : IxR X rIxD := by
  intro value slice pins s σ H x y v u Q I rx ry h hs
  obtain ⟨a, z, rfl, g, q⟩ := h
  obtain rfl : v = Value.ref a := rx
  exact tail_any (dict_typeIs I g) PySem.F.slot_dict_getitem.lookup (d_getItem hu I g ry fun w' s3 I3 rw' => ⟨z, H, I3, rw', q⟩) hs
def rSetD : TSet := fun o i v H Q => ∃ a H', o = .ref a ∧ DPutX H a i v H' ∧ Q H'
theorem set_dict (hu : X.A.units + 1 < cLine) : PSet X rSetD := by
  intro pins s σ H o i v ov iv u Q I ro ri rv h
  obtain ⟨a, H', rfl, g, q⟩ := h
  obtain rfl : ov = Value.ref a := ro
  exact d_setItemX hu I g ri rv fun s3 I3 => ⟨H', I3, q⟩
def rGetD : V → List V → Hp → VK → Prop := fun x xs H Q => ∃ a, x = .ref a ∧ ((∃ y o, xs = [y] ∧ DGetX H a y o ∧ Q (o.getD .non) H) ∨ ∃ y d o, xs = [y, d] ∧ DGetX H a y o ∧ Q (o.getD d) H)
theorem mt_getD (hu : X.A.units + 1 < cLine) : MtR X "dict.get" rGetD := by
  intro pins s σ H x xs v us Q I rx rs h
  obtain ⟨a, rfl, h⟩ := h
  obtain rfl : v = Value.ref a := rx
  rcases h with ⟨y, o, rfl, g, q⟩ | ⟨y, d, o, rfl, g, q⟩
  · cases rs with
    | cons ry t =>
      cases t
      exact d_get1X hu I g ry fun w' s3 I3 rw' => ⟨_, H, I3, rw', q⟩
  · cases rs with
    | cons ry t =>
      cases t with
      | cons rd t =>
        cases t
        exact d_get2X hu I g ry rd fun w' s3 I3 rw' => ⟨_, H, I3, rw', q⟩
end
/-! ## dicts as data -/
abbrev DK := Key ⊕ List Key
def asK : D → Option Key
  | .int i => some (.inl i)
  | .str x => some (.inr x)
  | _ => none
def asKs : List D → Option (List Key)
  | [] => some []
  | d :: ds => match asK d, asKs ds with
    | some k, some ks => some (k :: ks)
    | _, _ => none
def asDK : D → Option DK
  | .tuple ds => (asKs ds).map .inr
  | d => (asK d).map .inl
def findD : List (D × D) → DK → Option D
  | [], _ => none
  | p :: r, k => if asDK p.1 = some k then some p.2 else findD r k
def okFor : List (D × D) → DK → Bool
  | [], _ => true
  | p :: _, k => match asDK p.1, k with
    | some (.inl _), .inl _ => true
    | some (.inr _), .inr _ => true
    | _, _ => false
def putD (ds : List (D × D)) (kd : D) (k : DK) (v : D) : List (D × D) :=
  if (findD ds k).isSome = true then ds.map (fun p => if asDK p.1 = some k then (p.1, v) else p) else ds ++ [(kd, v)]
theorem asK_kD (k : Key) : asK (kD k) = some k := by cases k <;> rfl
theorem asK_some {d : D} {k : Key} (h : asK d = some k) : d = kD k := by
  unfold asK at h
  split at h
  · cases h; rfl
  · cases h; rfl
  · cases h
theorem asKs_map (ks : List Key) : asKs (ks.map kD) = some ks := by
  induction ks with
  | nil => rfl
  | cons k ks ih => simp only [List.map_cons, asKs, asK_kD, ih]
theorem asKs_some : ∀ {ds : List D} {ks : List Key}, asKs ds = some ks → ds = ks.map kD
  | [], ks, h => by cases h; rfl
  | d :: ds, ks, h => by
    unfold asKs at h
    split at h
    · rename_i k ks' e1 e2
      cases h
      rw [asK_some e1, asKs_some e2]; rfl
    · cases h
theorem asDK_k (k : Key) : asDK (kD k) = some (.inl k) := by cases k <;> rfl
theorem asDK_t (ks : List Key) : asDK (.tuple (ks.map kD)) = some (.inr ks) := by
  show (asKs (ks.map kD)).map Sum.inr = _
  rw [asKs_map]; rfl
theorem asDK_inl {d : D} {k : Key} (h : asDK d = some (.inl k)) : d = kD k := by
  unfold asDK at h
  split at h
  · cases q : asKs _ with
    | none => rw [q] at h; cases h
    | some z => rw [q] at h; cases h
  · cases q : asK d with
    | none => rw [q] at h; cases h
    | some z => rw [q] at h; cases h; exact asK_some q
theorem asDK_inr {d : D} {ks : List Key} (h : asDK d = some (.inr ks)) : d = .tuple (ks.map kD) := by
  unfold asDK at h
  split at h
  · rename_i ds
    cases q : asKs ds with
    | none => rw [q] at h; cases h
    | some z => rw [q] at h; cases h; rw [asKs_some q]
  · cases q : asK d with
    | none => rw [q] at h; cases h
    | some z => rw [q] at h; cases h
theorem asDK_inj {d d' : D} {k : DK} (h : asDK d = some k) (h' : asDK d' = some k) : d = d' := by
  cases k with
  | inl k => rw [asDK_inl h, asDK_inl h']
  | inr ks => rw [asDK_inr h, asDK_inr h']
section
variable {K : PySem.W.Frag} {Z : Hp}
theorem TpAt.left {a : Addr} {xs : List V} (h : TpAt K Z a xs) : Z a = some (.tup xs) := by
  rcases h with h | ⟨h, _⟩
  · exact h
  · exact absurd h (by decide)
theorem Rep.key1 {v : V} {k : Key} (r : Rep K Z v (kD k)) : v = kV k := by
  cases k with
  | inl i => cases r; rfl
  | inr x => cases r; rfl
theorem Reps.keys : ∀ {ks : List Key} {vs : List V}, Reps K Z vs (ks.map kD) → vs = ks.map kV
  | [], _, h => by cases h; rfl
  | k :: ks, _, h => by
    cases h with
    | cons r t => rw [Rep.key1 r, Reps.keys t]; rfl
theorem Rep.keyT {v : V} {ks : List Key} (r : Rep K Z v (.tuple (ks.map kD))) : ∃ b, v = .ref b ∧ Z b = some (.tup (ks.map kV)) := by
  cases r with
  | tup t q => exact ⟨_, rfl, by rw [← Reps.keys q]; exact t.left⟩
theorem RepK.find : ∀ {kvs : List (Key × V)} {ds : List (D × D)}, RepK K Z kvs ds → ∀ k, (∀ d, findD ds (.inl k) = some d → ∃ v, valV kvs k = some v ∧ Rep K Z v d) ∧ (findD ds (.inl k) = none → valV kvs k = none)
  | _, _, .nil, k => ⟨fun d h => (nomatch h), fun _ => rfl⟩
  | _, _, .cons (k := j) r t, k => by
    obtain ⟨h1, h2⟩ := RepK.find t k
    unfold findD
    simp only [asDK_k, Option.some.injEq, Sum.inl.injEq]
    by_cases e : j = k
    · rw [if_pos e, valV_pos (p := (j, _)) e]
      exact ⟨fun d h => by cases h; exact ⟨_, rfl, r⟩, fun h => nomatch h⟩
    · rw [if_neg e, valV_neg (p := (j, _)) e]
      exact ⟨h1, h2⟩
theorem RepT.find : ∀ {kvs : List (List Key × V)} {ds : List (D × D)}, RepT K Z kvs ds → ∀ k, (∀ d, findD ds (.inr k) = some d → ∃ v, valV kvs k = some v ∧ Rep K Z v d) ∧ (findD ds (.inr k) = none → valV kvs k = none)
  | _, _, .nil, k => ⟨fun d h => (nomatch h), fun _ => rfl⟩
  | _, _, .cons (k := j) r t, k => by
    obtain ⟨h1, h2⟩ := RepT.find t k
    unfold findD
    simp only [asDK_t, Option.some.injEq, Sum.inr.injEq]
    by_cases e : j = k
    · rw [if_pos e, valV_pos (p := (j, _)) e]
      exact ⟨fun d h => by cases h; exact ⟨_, rfl, r⟩, fun h => nomatch h⟩
    · rw [if_neg e, valV_neg (p := (j, _)) e]
      exact ⟨h1, h2⟩
theorem RepK.append : ∀ {kvs kvs' : List (Key × V)} {ds ds' : List (D × D)}, RepK K Z kvs ds → RepK K Z kvs' ds' → RepK K Z (kvs ++ kvs') (ds ++ ds')
  | _, _, _, _, .nil, h => h
  | _, _, _, _, .cons r t, h => .cons r (RepK.append t h)
theorem RepT.append : ∀ {kvs kvs' : List (List Key × V)} {ds ds' : List (D × D)}, RepT K Z kvs ds → RepT K Z kvs' ds' → RepT K Z (kvs ++ kvs') (ds ++ ds')
  | _, _, _, _, .nil, h => h
  | _, _, _, _, .cons r t, h => .cons r (RepT.append t h)
theorem RepK.repl {k : Key} {v : V} {d : D} (rv : Rep K Z v d) : ∀ {kvs : List (Key × V)} {ds : List (D × D)}, RepK K Z kvs ds → RepK K Z (kvs.map fun kv => if kv.1 = k then (kv.1, v) else kv) (ds.map fun p => if asDK p.1 = some (.inl k) then (p.1, d) else p)
  | _, _, .nil => .nil
  | _, _, .cons (k := j) r t => by
    have q := RepK.repl (k := k) rv t
    simp only [List.map_cons, asDK_k, Option.some.injEq, Sum.inl.injEq]
    by_cases e : j = k
    · simp only [e, if_true]; exact .cons rv q
    · simp only [e, if_false]; exact .cons r q
theorem RepT.repl {k : List Key} {v : V} {d : D} (rv : Rep K Z v d) : ∀ {kvs : List (List Key × V)} {ds : List (D × D)}, RepT K Z kvs ds → RepT K Z (kvs.map fun kv => if kv.1 = k then (kv.1, v) else kv) (ds.map fun p => if asDK p.1 = some (.inr k) then (p.1, d) else p)
  | _, _, .nil => .nil
  | _, _, .cons (k := j) r t => by
    have q := RepT.repl (k := k) rv t
    simp only [List.map_cons, asDK_t, Option.some.injEq, Sum.inr.injEq]
    by_cases e : j = k
    · simp only [e, if_true]; exact .cons rv q
    · simp only [e, if_false]; exact .cons r q
theorem RepK.put {k : Key} {v : V} {d : D} {kvs : List (Key × V)} {ds : List (D × D)} (h : RepK K Z kvs ds) (rv : Rep K Z v d) : RepK K Z (putK kvs k v) (putD ds (kD k) (.inl k) d) := by
  obtain ⟨h1, h2⟩ := h.find k
  unfold putK putD
  rw [valV_any]
  cases q : findD ds (.inl k) with
  | some d0 =>
    obtain ⟨v0, e0, _⟩ := h1 _ q
    rw [e0]
    exact h.repl rv
  | none =>
    rw [h2 q]
    exact h.append (.cons rv .nil)
theorem RepT.put {k : List Key} {v : V} {d : D} {kvs : List (List Key × V)} {ds : List (D × D)} (h : RepT K Z kvs ds) (rv : Rep K Z v d) : RepT K Z (putK kvs k v) (putD ds (.tuple (k.map kD)) (.inr k) d) := by
  obtain ⟨h1, h2⟩ := h.find k
  unfold putK putD
  rw [valV_any]
  cases q : findD ds (.inr k) with
  | some d0 =>
    obtain ⟨v0, e0, _⟩ := h1 _ q
    rw [e0]
    exact h.repl rv
  | none =>
    rw [h2 q]
    exact h.append (.cons rv .nil)
theorem okFor_K {k : List Key} : ∀ {kvs : List (Key × V)} {ds : List (D × D)}, RepK K Z kvs ds → okFor ds (.inr k) = true → kvs = []
  | _, _, .nil, _ => rfl
  | _, _, .cons (k := j) r t, h => by simp [okFor, asDK_k] at h
theorem okFor_T {k : Key} : ∀ {kvs : List (List Key × V)} {ds : List (D × D)}, RepT K Z kvs ds → okFor ds (.inl k) = true → kvs = []
  | _, _, .nil, _ => rfl
  | _, _, .cons (k := j) r t, h => by simp [okFor, asDK_t] at h
/-- what a look into a dict finds -/
theorem find_sem {H : Hp} {vd vk : V} {ds : List (D × D)} {kd : D} {k : DK} (hz : Same Z H) (r : Rep K Z vd (.dict ds)) (rk : Rep K Z vk kd) (hk : asDK kd = some k) (ho : okFor ds k = true) :
    ∃ a o, vd = .ref a ∧ DGetX H a vk o ∧ (∀ d, findD ds k = some d → ∃ v, o = some v ∧ Rep K Z v d ∧ DGet H a vk (some v)) ∧ (findD ds k = none → o = none) := by
  cases k with
  | inl k =>
    rw [asDK_inl hk] at rk
    rw [Rep.key1 rk]
    cases r with
    | @dK a kvs _ e q =>
      obtain ⟨h1, h2⟩ := q.find k
      have g := DGet.k (k := k) (hz _ _ e)
      refine ⟨a, _, rfl, .inl g, fun d hd => ?_, h2⟩
      obtain ⟨v, e1, r1⟩ := h1 d hd
      exact ⟨v, e1, r1, by rw [← e1]; exact g⟩
    | @dT a kvs _ e n q => exact absurd (okFor_T q ho) n
  | inr k =>
    rw [asDK_inr hk] at rk
    obtain ⟨b, rfl, hb⟩ := Rep.keyT rk
    cases r with
    | @dK a kvs _ e q =>
      cases okFor_K q ho
      cases q
      exact ⟨a, none, rfl, .inr ⟨hz _ _ e, k, b, rfl, hz _ _ hb, rfl⟩, fun d hd => (nomatch hd), fun _ => rfl⟩
    | @dT a kvs _ e n q =>
      obtain ⟨h1, h2⟩ := q.find k
      have g := DGet.t (k := k) (hz _ _ e) (hz _ _ hb)
      refine ⟨a, _, rfl, .inl g, fun d hd => ?_, h2⟩
      obtain ⟨v, e1, r1⟩ := h1 d hd
      exact ⟨v, e1, r1, by rw [← e1]; exact g⟩
end
/-! ### k in d, d[k], d.get(k), d.get(k, x) -/
def lookD (ds : List (D × D)) (kd : D) : R (Option D) := match asDK kd with
  | some k => R.when (okFor ds k) (.ok (findD ds k))
  | none => .no
theorem of_lookD {ds : List (D × D)} {kd : D} {o : Option D} (h : lookD ds kd = .ok o) : ∃ k, asDK kd = some k ∧ okFor ds k = true ∧ findD ds k = o := by
  unfold lookD at h
  split at h
  · rename_i k e
    obtain ⟨h1, h2⟩ := R.of_when h
    cases h2
    exact ⟨k, e, h1, rfl⟩
  · cases h
def gInD (neg : Bool) : D → D → R D
  | kd, .dict ds => (lookD ds kd).bind fun o => .ok (.bool (if neg = true then !o.isSome else o.isSome))
  | _, _ => .no
def gIxD : D → D → R D
  | .dict ds, kd => (lookD ds kd).bind fun o => match o with
    | some d => .ok d
    | none => .no
  | _, _ => .no
theorem v_inD {K : PySem.W.Frag} : Op2 K rInD (gInD false) := fun y x H Z a b c Q hz ra rb h hq => by
  unfold gInD at h
  split at h
  · rename_i kd ds
    obtain ⟨o, h1, h2⟩ := R.of_bind h
    cases h2
    obtain ⟨k, e1, e2, e3⟩ := of_lookD h1
    obtain ⟨p, ov, rfl, g, g1, g2⟩ := find_sem hz rb ra e1 e2
    refine ⟨p, ov, rfl, g, ?_⟩
    have : ov.isSome = o.isSome := by
      cases o with
      | none => rw [g2 e3]; rfl
      | some d => obtain ⟨v, e4, _⟩ := g1 d e3; rw [e4]; rfl
    rw [this]
    exact hq _ _ _ (Gr.refl hz) (.bl _)
  · cases h
theorem v_notInD {K : PySem.W.Frag} : Op2 K rNotInD (gInD true) := fun y x H Z a b c Q hz ra rb h hq => by
  unfold gInD at h
  split at h
  · rename_i kd ds
    obtain ⟨o, h1, h2⟩ := R.of_bind h
    cases h2
    obtain ⟨k, e1, e2, e3⟩ := of_lookD h1
    obtain ⟨p, ov, rfl, g, g1, g2⟩ := find_sem hz rb ra e1 e2
    refine ⟨p, ov, rfl, g, ?_⟩
    have : ov.isSome = o.isSome := by
      cases o with
      | none => rw [g2 e3]; rfl
      | some d => obtain ⟨v, e4, _⟩ := g1 d e3; rw [e4]; rfl
    rw [this]
    exact hq _ _ _ (Gr.refl hz) (.bl _)
  · cases h
theorem v_ixD {K : PySem.W.Frag} : Op2 K rIxD gIxD := fun x y H Z a b c Q hz ra rb h hq => by
  unfold gIxD at h
  split at h
  · rename_i ds
    obtain ⟨o, h1, h2⟩ := R.of_bind h
    split at h2
    · cases h2
      obtain ⟨k, e1, e2, e3⟩ := of_lookD h1
      obtain ⟨p, ov, rfl, g, g1, g2⟩ := find_sem hz ra rb e1 e2
      obtain ⟨v, _, r4, g4⟩ := g1 _ e3
      exact ⟨p, v, rfl, g4, hq _ _ _ (Gr.refl hz) r4⟩
    · cases h2
  · cases h
/-- x in y, whatever y is -/
def isDict : D → Bool
  | .dict _ => true
  | _ => false
def gInX (neg : Bool) (a b : D) : R D := if isDict b = true then gInD neg a b else gInS neg a b
def gIxX (a b : D) : R D := if isDict a = true then gIxD a b else gIx a b
theorem gInX_d {neg : Bool} {a : D} {ds : List (D × D)} : gInX neg a (.dict ds) = gInD neg a (.dict ds) := rfl
theorem gIxX_d {b : D} {ds : List (D × D)} : gIxX (.dict ds) b = gIxD (.dict ds) b := rfl
section
variable {X : Cx} {k : Nat}
theorem RmG.u1 (hr : RmG k X.A) : X.A.units + 1 < cLine := by have := hr.units; omega
def rInX (K : PySem.W.Frag) : R2 := fun y x H Q => rInD y x H Q ∨ rInS K false y x H Q
def rNotInX (K : PySem.W.Frag) : R2 := fun y x H Q => rNotInD y x H Q ∨ rInS K true y x H Q
def rIxX (K : PySem.W.Frag) : R2 := fun y x H Q => rIxD y x H Q ∨ rIx K y x H Q
theorem op_inX (hr : RmG k X.A) : OpR X (compareOp .In) (rInX X.K) := (op_inD hr.u1).or (op_inS hr)
theorem op_notInX (hr : RmG k X.A) : OpR X (compareOp .NotIn) (rNotInX X.K) := (op_notInD hr.u1).or (op_notInS hr)
theorem ix_X (hr : RmG k X.A) : IxR X (rIxX X.K) := (ix_dict hr.u1).or ix_seq
theorem v_inX {K : PySem.W.Frag} : Op2 K (rInX K) (gInX false) := fun x y H Z a b c Q hz ra rb h hq => by
  unfold gInX at h
  split at h
  · exact .inl (v_inD x y H Z a b c Q hz ra rb h hq)
  · exact .inr (v_inS false x y H Z a b c Q hz ra rb h hq)
theorem v_notInX {K : PySem.W.Frag} : Op2 K (rNotInX K) (gInX true) := fun x y H Z a b c Q hz ra rb h hq => by
  unfold gInX at h
  split at h
  · exact .inl (v_notInD x y H Z a b c Q hz ra rb h hq)
  · exact .inr (v_inS true x y H Z a b c Q hz ra rb h hq)
theorem v_ixX {K : PySem.W.Frag} : Op2 K (rIxX K) gIxX := fun x y H Z a b c Q hz ra rb h hq => by
  unfold gIxX at h
  split at h
  · exact .inl (v_ixD x y H Z a b c Q hz ra rb h hq)
  · exact .inr (v_ix x y H Z a b c Q hz ra rb h hq)
end
end Dz

set_option maxRecDepth 100000
set_option maxHeartbeats 2000000
/-! ## sorted: tuples with () among them, dicts -/
namespace DzS
open PySem PySem.Calls PyProof.Rows PySem.SeqAt PySem.W
section
variable {prog : Program} {w : World} {A : Around} {E : Value → Shared → Prop} {s : Shared}
theorem call_tuple_lt {Q : Value → Shared → Prop} {l b : Addr} {items items2 : Array Value} {e r : Nat → Bool} (hl : s.heap.IsTuple l items) (hb : s.heap.IsTuple b items2)
    (he : ∀ j (h1 : j < items.size) (h2 : j < items2.size), EqAt A.in1 s items[j] items2[j] (e j)) (hr : ∀ j (h1 : j < items.size) (h2 : j < items2.size), e j = false → RcLt A.in1 s items[j] items2[j] (r j))
    (h : Q (.bool (firstLt e r (decide (items.size < items2.size)) (List.range (min items.size items2.size)))) s) : wpAny (model prog w) A (call (.builtin "tuple.__lt__") [.ref l, .ref b]) Q E s := by
  obtain ⟨⟨cls, dd, data, sl⟩, ho, hc, n, hd⟩ := id hl
  obtain ⟨⟨cls2, dd2, data2, sl2⟩, ho2, hc2, n2, hd2⟩ := id hb
  simp only at hc hd hc2 hd2
  subst hc hd hc2 hd2
  exact call_meets F.slot_tuple_lt ⟨_, ho, rfl⟩ F.entry_tuple_lt (F.args_tuple_lt_2 _ _) (PySem.SeqAt.tuple_ltAt l b items items2 n n2 dd dd2 sl sl2 e r) ⟨ho, ho2, he, hr, h⟩
theorem oneLt_tup {f : Bool} {xs ys : List PyData} {a b : Value} {as bs : List Addr} {Q : Bool → Shared → Prop} (ra : Reads s.heap a (.tuple xs) as) (rb : Reads s.heap b (.tuple ys) bs) (h : alike (.tuple xs) (.tuple ys) = true)
    (hu : A.units + min (PyData.tuple xs).depth (PyData.tuple ys).depth < cLine) (hq : Q (dataLt (.tuple xs) (.tuple ys)) s) : wpAny (model prog w) A (oneLt' f a b) Q E s := by
  cases f with
  | false => exact oneLt_alike (fun z => nomatch z) ra rb h (fun z => nomatch z) hu hq
  | true =>
    have hal : alikeAll xs ys = true := by simpa [alike] using h
    cases ra with
    | @tuple l o vs n _ as₁ h1 h2 h3 h4 =>
      cases rb with
      | @tuple l' o' vs' n' _ bs₁ k1 k2 k3 k4 =>
        have n1 : vs.size = xs.length := by simpa using ReadsAll.length _ _ _ h4
        have n2 : vs'.size = ys.length := by simpa using ReadsAll.length _ _ _ k4
        rw [dataLt_tuple, ← firstLt_toks xs ys hal, ← n1, ← n2] at hq
        rw [oneLt'_eq]
        simp only [if_true]
        refine wpAny_bind (wpAny_cRoomFor (room_here hu) ?_)
        refine wpAny_bind (wpAny_callSpecialIfBound?_slot (T := "tuple") ⟨_, h1, h2⟩ F.slot_tuple_lt (call_tuple_lt (e := pairEq xs ys) (r := fun j => dataLt (xs.getD j .none) (ys.getD j .none)) ⟨_, h1, h2, _, h3⟩ ⟨_, k1, k2, _, k3⟩ (fun j j1 j2 => ?_) (fun j j1 j2 hj => ?_) ?_))
        · have := eqAt_alikeAll xs ys A.in1 s vs.toList vs'.toList _ _ h4 k4 hal (room_in hu) j (by simpa using j1) (by simpa using j2)
          simpa using this
        · have := rcLt_alikeAll xs ys A.in1 s vs.toList vs'.toList _ _ h4 k4 hal (room_in hu) j (by simpa using j1) (by simpa using j2) hj
          simpa using this
        · exact wpAny_truthy_bool hq
/-- the first item of each key -/
theorem mapM_first : ∀ {vs : List Value} {ds : List PyData} {Q : List (Option Value) → Shared → Prop}, EachIs (fun v d => ∃ as, Reads s.heap v d as) vs ds → (∀ d ∈ ds, ∃ xs, d = .tuple xs) →
    (∀ fs : List (Option Value), fs.length = vs.length → fs.map (·.isSome) = ds.map (fun d => match d with | .tuple (_ :: _) => true | _ => false) → Q fs s) → wpAny (model prog w) A (vs.mapM firstOfTuple') Q E s
  | _, _, Q, .nil, _, h => by rw [List.mapM_nil]; exact wpAny_pure (h [] rfl rfl)
  | _, _, Q, .cons (b := d) ⟨as, r⟩ t, ht, h => by
    obtain ⟨xs, rfl⟩ := ht d (List.mem_cons_self ..)
    rw [List.mapM_cons, kas_first_eq]
    cases r with
    | @tuple a o vs n _ _ ho hc hd hr =>
      refine wpAny_bind (wpAny_bind (wpAny_typeOf (T := "tuple") ⟨o, ho, hc⟩ ?_))
      have e : (Value.type "tuple" != Value.type "tuple") = false := by decide
      rw [e]
      refine wpAny_bind (listItems_at ho hd (wpAny_pure ?_))
      refine wpAny_bind (mapM_first (Q := fun bs s' => wpAny (model prog w) A (pure (vs[0]? :: bs)) Q E s') t (fun d hd => ht d (List.mem_cons_of_mem _ hd)) fun fs h1 h2 => wpAny_pure (h _ (by rw [List.length_cons, List.length_cons, h1]) ?_))
      rw [List.map_cons, List.map_cons, h2]
      congr 1
      rw [← Array.getElem?_toList]
      cases q : vs.toList with
      | nil => rw [q] at hr; cases hr; rfl
      | cons f fr => rw [q] at hr; cases hr; rfl
def headT : List PyData → Bool
  | .tuple (_ :: _) :: _ => true
  | _ => false
theorem general_lt (x y : Value) : keyLt' general' x y = oneLt' false x y := rfl
/-- which of both it is, is told by the first one -/
theorem kind_first {vs : List Value} {ds : List PyData} (h2 : 2 ≤ vs.length) (e : EachIs (fun v d => ∃ as, Reads s.heap v d as) vs ds) (ht : ∀ d ∈ ds, ∃ xs, d = .tuple xs) (h0 : PyData.tuple [] ∈ ds) :
    ∃ kd : SortKind, (kd = oneType' ∨ kd = general') ∧ ∀ (E : Value → Shared → Prop) {Q : SortKind → Shared → Prop}, Q kd s → wpAny (model prog w) A (keyKind' vs.toArray) Q E s := by
  refine ⟨if headT ds = true then general' else oneType', by split <;> simp, fun E Q hq => ?_⟩
  rw [keyKind'_eq, List.mapM_toArray, map_eq_pure_bind]
  refine wpAny_bind (wpAny_bind (mapM_first e ht fun fs h1 h3 => wpAny_pure ?_))
  have hf : fs.toArray.all (·.isSome) = false := by
    rw [List.all_toArray]
    have : fs.all (·.isSome) = (fs.map (·.isSome)).all id := by rw [List.all_map]; rfl
    rw [this, h3, List.all_map]
    refine List.all_eq_false.mpr ⟨_, h0, by simp⟩
  rw [if_neg (by rw [hf]; simp)]
  have hfst : (fs.toArray[0]?.bind id).isSome = headT ds := by
    cases fs with
    | nil =>
      cases ds with
      | nil => cases h0
      | cons d ds => simp at h3
    | cons f fs =>
      cases ds with
      | nil => cases h0
      | cons d ds =>
        rw [List.map_cons, List.map_cons, List.cons.injEq] at h3
        have e3 : f.isSome = headT (d :: ds) := by
          rw [h3.1]
          unfold headT
          cases d with
          | tuple xs => cases xs <;> rfl
          | _ => rfl
        simpa using e3
  rw [hfst]
  split
  · rename_i hc
    rw [if_pos hc] at hq
    exact wpAny_pure hq
  · rename_i hc
    rw [if_neg hc] at hq
    rw [oneTypeOnly'_eq, List.mapM_toArray, map_eq_pure_bind]
    have hT : ∀ v ∈ vs, Looks (model prog w) s.heap (typeOf v) (.type "tuple") := fun v hv => by
      obtain ⟨d, hd, as, r⟩ := e.left v hv
      obtain ⟨xs, rfl⟩ := ht d hd
      exact looks_reads r
    refine wpAny_bind (wpAny_bind (wpAny_bind (kas_mapM (r := Value.type "tuple") _ (fun v hv Q' hq => (hT v hv).here hq) (wpAny_pure ?_))))
    cases hv : vs with
    | nil => rw [hv] at h2; simp at h2
    | cons v vs =>
      have hall : ((List.map (fun _ => Value.type "tuple") (v :: vs)).toArray.all fun x => x == Value.type "tuple") = true := by
        simp only [List.all_toArray, List.all_map, List.all_eq_true]
        intro _ _
        exact beq_self_eq_true _
      have h0 : (List.map (fun _ => Value.type "tuple") (v :: vs)).toArray[0]? = some (Value.type "tuple") := by simp
      rw [h0]
      simp only [hall, if_true]
      exact wpAny_pure (wpAny_pure hq)
/-- all are tuples, or none is one -/
def Sortable2 (ds : List PyData) : Prop := (∀ d, d ∈ ds → ∃ xs, d = .tuple xs) ∨ ∀ d, d ∈ ds → d ≠ .none ∧ ∀ xs, d ≠ .tuple xs
theorem sorts2 {vs : List Value} {ds : List PyData} (e : EachIs (fun v d => ∃ as, Reads s.heap v d as) vs ds) (hal : AllAlike ds) (hk : Sortable2 ds) (hu : ∀ d, d ∈ ds → A.units + d.depth < cLine) : SortsAt prog w A s (dataKind s.heap ds) vs := by
  rcases hk with ht | hn
  · by_cases h0 : PyData.tuple [] ∈ ds
    · have room : ∀ {d d' : PyData}, d ∈ ds → A.units + min d.depth d'.depth < cLine := fun {d d'} hd => Nat.lt_of_le_of_lt (Nat.add_le_add_left (Nat.min_le_left _ _) _) (hu d hd)
      refine ⟨fun v hv => ?_, ?_⟩
      · obtain ⟨d, hd, as, r⟩ := e.left v hv
        exact ⟨_, dataKind_some hal hd r⟩
      · have lt : ∀ kd : SortKind, kd = oneType' ∨ kd = general' → H.LtAt prog w A s (dataKind s.heap ds) kd := fun kd hkd => by
          intro E x y a b Q ha hb hq
          obtain ⟨d, as, hd, ra, rfl⟩ := dataKind_inv ha
          obtain ⟨d', as', hd', rb, rfl⟩ := dataKind_inv hb
          obtain ⟨xs, rfl⟩ := ht d hd
          obtain ⟨ys, rfl⟩ := ht d' hd'
          rcases hkd with rfl | rfl
          · rw [keyLt'_oneType]
            exact oneLt_tup ra rb (hal _ hd _ hd') (room hd) hq
          · rw [general_lt]
            exact oneLt_tup ra rb (hal _ hd _ hd') (room hd) hq
        by_cases h2 : 2 ≤ vs.length
        · obtain ⟨kd, hkd, hQ⟩ := kind_first (prog := prog) (w := w) (A := A) h2 e ht h0
          exact ⟨kd, lt kd hkd, fun _ E Q hq => hQ E hq⟩
        · exact ⟨oneType', lt _ (.inl rfl), fun h => absurd h h2⟩
    · refine SortsAt.data e hal (.inl fun d hd => ?_) hu
      obtain ⟨xs, rfl⟩ := ht d hd
      cases xs with
      | nil => exact absurd hd h0
      | cons x r => exact ⟨x, r, rfl⟩
  · exact SortsAt.data e hal (.inr hn) hu
/-- sorted(x), x any thing that is collected -/
theorem sorted_coll {β : Type} {x : Value} {vs : List Value} {bs : List β} {enc : β → PyData} {R : Value → β → Prop} {Q : Value → Shared → Prop}
    (hcol : ∀ (R : List Value → Shared → Prop) (E : Value → Shared → Prop), (∀ h' tk, (∀ b o, s.heap.get? b = some o → h'.get? b = some o) → R vs { s with heap := h', toks := tk }) → wpAny (model prog w) A.in1 (collect x) R E s)
    (e : EachIs R vs bs) (er : EachIs (fun v b => ∃ as, Reads s.heap v (enc b) as) vs bs) (hal : AllAlike (bs.map enc)) (hk : Sortable2 (bs.map enc)) (hL : bs.length ≤ sizeLine)
    (hu : ∀ b, b ∈ bs → A.units + 2 + (enc b).depth < cLine)
    (h : ∀ (out : List Value) (h1 h' : Heap) (tk n : Nat), (∀ b o, s.heap.get? b = some o → h1.get? b = some o) → (∀ b o, h1.get? b = some o → h'.get? b = some o) → h'.get? h1.objs.size = some (seqObj "list" (List.toArray out) n) → out.length = bs.length → EachIs R out (bs.mergeSort (dataLe false enc)) → Q (.ref h1.objs.size) { s with heap := h', toks := tk }) :
    wpAny (model prog w) A (call (.builtin "sorted") [x]) Q E s := by
  refine Calls.call_function_entry kind_sorted plain_sorted entry_sorted (args_sorted1 _) ?_
  unfold Builtin.«sorted»
  have hL' : vs.length ≤ sizeLine := by rw [e.length]; exact hL
  refine wpAny_bind (m := checkCount "sorted" 1 1 _) (wpAny_pure ?_)
  refine wpAny_bind (hcol _ _ fun h1 t1 k1 => ?_)
  refine wpAny_bind (wpAny_newList ?_ hL')
  have hoL : (h1.push (seqObj "list" vs.toArray 0)).get? h1.objs.size = some (seqObj "list" vs.toArray 0) := Heap.get?_push_size _ rfl
  show wpAny _ _ _ _ _ { s with heap := h1.push (seqObj "list" vs.toArray 0), toks := t1 }
  have hlt : ∀ b o, s.heap.get? b = some o → b < h1.objs.size := fun b o q => Heap.lt_size (k1 b o q)
  have keep : ∀ b o, s.heap.get? b = some o → (sortingHeap (h1.push (seqObj "list" vs.toArray 0)) h1.objs.size vs).get? b = some o := fun b o q =>
    sortingHeap_old (Nat.ne_of_lt (hlt b o q)) (Heap.get?_push_of_some _ (k1 b o q))
  have er' : EachIs (fun v b => ∃ as, Reads (sortingHeap (h1.push (seqObj "list" vs.toArray 0)) h1.objs.size vs) v (enc b) as) vs bs := er.mono fun _ _ ⟨as, r⟩ => ⟨as, PyProof.Rows.Reads.keeps keep r⟩
  refine wpAny_bind (wpAny_holding (wpAny_call_entry slot_list_sort ⟨_, hoL, rfl⟩ entry_list_sort ?body (args_list_sort _)))
  case body =>
    obtain ⟨ep, hat⟩ := sortedHeap_at (vs := vs) (out := (sortVals (dataKind (sortingHeap (h1.push (seqObj "list" vs.toArray 0)) h1.objs.size vs) (bs.map enc)) false vs vs).toArray) hoL
    refine list_sort_vals (s := { s with heap := h1.push (seqObj "list" vs.toArray 0), toks := t1 }) hoL
      (sorts2 (s := { s with heap := sortingHeap (h1.push (seqObj "list" vs.toArray 0)) h1.objs.size vs, toks := t1 }) (each_map (R := fun v d => ∃ as, Reads (sortingHeap (h1.push (seqObj "list" vs.toArray 0)) h1.objs.size vs) v d as) enc er') hal hk (bound_map hu)) hL'
      ⟨_, rfl, wpAny_pure ⟨_, rfl, h _ h1 _ _ ep k1 (fun b o q => ?_) hat (by rw [sortVals_length false rfl]; exact e.length) (sortVals_data false e er' hal)⟩⟩
    have hb : b < h1.objs.size := Heap.lt_size q
    rw [sortedHeap_old (Nat.ne_of_lt hb) (by rw [size_push']; exact Nat.lt_succ_of_lt hb)]
    exact Heap.get?_push_of_some _ q
end
end DzS

set_option maxRecDepth 100000
set_option maxHeartbeats 2000000
namespace Dz
open PySem PySem.Spec PyProof.Rows L2
/-! ## sorted(x): lists, tuples, dicts -/
def isTup : D → Bool
  | .tuple _ => true
  | _ => false
def sortOk2 (ds : List D) : Bool := ds.all (fun d => ds.all fun e => PySem.W.alike d e) && (ds.all isTup || ds.all noTup) && ds.all (fun d => SeqAt.shaped d)
theorem sortOk2_alike {ds : List D} (h : sortOk2 ds = true) : PySem.W.AllAlike ds := by
  unfold sortOk2 at h
  rw [Bool.and_eq_true, Bool.and_eq_true] at h
  intro d hd d' hd'
  exact List.all_eq_true.mp (List.all_eq_true.mp h.1.1 d hd) d' hd'
theorem sortOk2_sortable {ds : List D} (h : sortOk2 ds = true) : DzS.Sortable2 ds := by
  unfold sortOk2 at h
  rw [Bool.and_eq_true, Bool.and_eq_true, Bool.or_eq_true] at h
  rcases h.1.2 with h | h
  · refine .inl fun d hd => ?_
    have := List.all_eq_true.mp h d hd
    cases d with
    | tuple xs => exact ⟨xs, rfl⟩
    | _ => cases this
  · refine .inr fun d hd => ?_
    have := List.all_eq_true.mp h d hd
    cases d with
    | tuple xs => cases this
    | none => cases this
    | _ => exact ⟨fun e => (nomatch e), fun xs e => (nomatch e)⟩
theorem sortOk2_shaped {ds : List D} (h : sortOk2 ds = true) : ∀ d ∈ ds, SeqAt.shaped d = true := by
  unfold sortOk2 at h
  rw [Bool.and_eq_true] at h
  exact List.all_eq_true.mp h.2
section
variable {X : Cx} {k : Nat}
abbrev sortZ (zs : List (V × D)) : List V := (zs.mergeSort (PySem.W.dataLe false (·.2))).map (·.1)
theorem sort_inv {pins : List (Addr × Obj)} {σ : L2.St} {H : Hp} {s : Shared} {Q : VK} {u : Value} {its : List Value} {zs : List (V × D)} (hr : RmG k X.A) (I : L2.Inv X pins σ H s) (rv : Vals (zs.map (·.1)) its) (hz : zs.length ≤ sizeLine)
    (hcol : ∀ (R : List Value → Shared → Prop) (E : Value → Shared → Prop), (∀ h' tk, (∀ b o, s.heap.get? b = some o → h'.get? b = some o) → R its { s with heap := h', toks := tk }) → wpAny (model X.prog X.w) X.A.in1 (collect u) R E s)
    (hd : ∀ z ∈ zs, Dp X.K H z.1 z.2) (hk : sortOk2 (zs.map (·.2)) = true) (q : ∀ p, H p = none → Q (.ref p) (upd H p (.lst (sortZ zs)))) :
    wpAny (model X.prog X.w) X.A (call (.builtin "sorted") [u]) (EP X pins σ Q) X.xe s := by
  have e := each_zip rv rfl
  have hun := hr.un
  refine DzS.sorted_coll (enc := fun z : V × D => z.2) (R := fun u z => L2.RelV z.1 u) hcol e (each_mem e fun u z hz rz => Dp.reads I z.2 z.1 u (hd z hz) rz) (sortOk2_alike hk) (sortOk2_sortable hk) hz (fun z hz => ?_) fun out h1 h' tk n k1 k2 hat ho he => ?_
  · have := SeqAt.depth_of_shaped (sortOk2_shaped hk z.2 (List.mem_map_of_mem hz))
    omega
  · have hv := vals_each he
    have hl2 : (sortZ zs).length ≤ sizeLine := by
      rw [List.length_map, List.length_mergeSort]
      exact hz
    have I1 : L2.Inv X pins σ H { s with heap := h1, toks := tk } := I.kept k1
    exact ⟨.ref _, upd H h1.objs.size (.lst (sortZ zs)), I1.laid (t' := tk) k2 (Nat.le_refl _) ⟨hl2, out, n, hv, hat⟩, rfl, q _ (I1.hok.fresh (Nat.le_refl _))⟩
def rSortSeq (K : PySem.W.Frag) : List V → Hp → VK → Prop := fun xs H Q => ∃ (a : Addr) (zs : List (V × D)), xs = [.ref a] ∧ (SqL K H a (zs.map (·.1)) ∨ SqT K H a (zs.map (·.1))) ∧ (∀ z ∈ zs, Dp K H z.1 z.2) ∧ sortOk2 (zs.map (·.2)) = true ∧
  ∀ p, H p = none → Q (.ref p) (upd H p (.lst (sortZ zs)))
theorem cr_sortSeq (hr : RmG k X.A) : CallR X (.builtin "sorted") (rSortSeq X.K) := by
  intro pins s σ H vs us Q I r h
  obtain ⟨a, zs, rfl, hs, hd, hk, q⟩ := h
  rw [Vals.ref1 r]
  rcases hs with hs | hs
  · obtain ⟨its, rv, hl, hz⟩ := I.list hs
    rw [List.length_map] at hz
    have hz' : its.length ≤ sizeLine := by rw [← rv.length, List.length_map]; exact hz
    refine sort_inv hr I rv hz (fun R E h => PyProof.Rows.collect_list hl.isList (h _ s.toks fun b o e => ?_) hz') hd hk q
    have hb : b < s.heap.objs.size := Heap.lt_size e
    rw [Heap.get?_update_ne _ _ _ _ (Nat.ne_of_lt hb)]
    exact Heap.get?_push_of_some _ e
  · obtain ⟨its, rv, hl, hz⟩ := I.tuple hs
    rw [List.length_map] at hz
    have hz' : its.length ≤ sizeLine := by rw [← rv.length, List.length_map]; exact hz
    refine sort_inv hr I rv hz (fun R E h => collect_tuple hl (h _ s.toks fun b o e => ?_) hz') hd hk q
    have hb : b < s.heap.objs.size := Heap.lt_size e
    rw [Heap.get?_update_ne _ _ _ _ (Nat.ne_of_lt hb)]
    exact Heap.get?_push_of_some _ e
/-- the keys, in order -/
theorem coll_raw {A : Around} {s : Shared} {d : Addr} {o : Obj} {es : Array DictEntry} {ep : Nat} {prog : Program} {w : World} (hh : A.handled = none) (lo : (d == sysModules) = false) (ho : s.heap.get? d = some o) (hx : o.ExactDict) (hd : o.data = .dict es ep) (hn : es.size ≤ sizeLine)
    (R : List Value → Shared → Prop) (E : Value → Shared → Prop) (h : ∀ h' tk, (∀ b o, s.heap.get? b = some o → h'.get? b = some o) → R (es.toList.map (·.key)) { s with heap := h', toks := tk }) : wpAny (model prog w) A (collect (.ref d)) R E s := by
  refine PySem.W.kdu_collect (kdl_raw lo hx hd) hh ho hn fun h' tk acc kp it => ?_
  have ea : acc.toList = es.toList.map (·.key) := by
    apply List.ext_getElem?
    intro j
    rw [List.getElem?_map]
    cases hj : acc.toList[j]? with
    | none =>
      have h1 := List.getElem?_eq_none_iff.mp hj
      have : acc.size = es.size := it.1
      rw [List.getElem?_eq_none (by rw [Array.length_toList] at h1 ⊢; omega)]
      rfl
    | some v =>
      obtain ⟨en, hen, hv⟩ := it.2 j v (by rw [← Array.getElem?_toList]; exact hj)
      rw [Array.getElem?_toList, hen, hv]; rfl
  rw [ea]
  exact h h' tk kp
theorem vals_keysK {P : Program} {w : World} : ∀ {es : List DictEntry} {vs : List (Key × Value)} {kvs : List (Key × V)}, Pairs (mixKind P w) es vs → KV kvs vs → Vals (kvs.map fun kv => kV kv.1) (es.map (·.key))
  | _, _, _, .nil, .nil => .nil
  | _, _, _, .cons hk _ t, .cons r t' => by
    refine .cons ?_ (vals_keysK t t')
    rcases keyIs_shape (show keyIs _ _ = true from hk) with ⟨i, t, e, ev⟩ | ⟨z, t, e, ev⟩
    · show L2.RelV (kV _) _
      rw [r.1, e]; exact ⟨t, ev⟩
    · show L2.RelV (kV _) _
      rw [r.1, e]; exact ⟨t, ev⟩
def keyD : List Key → D := fun k => .tuple (k.map kD)
def rSortDK : List V → Hp → VK → Prop := fun xs H Q => ∃ (a : Addr) (kvs : List (Key × V)), xs = [.ref a] ∧ H a = some (.dK kvs) ∧ sortOk2 (kvs.map fun kv => kD kv.1) = true ∧
  ∀ p, H p = none → Q (.ref p) (upd H p (.lst (sortZ (kvs.map fun kv => (kV kv.1, kD kv.1)))))
def rSortDT : List V → Hp → VK → Prop := fun xs H Q => ∃ (a : Addr) (kvs : List (List Key × V)), xs = [.ref a] ∧ H a = some (.dT kvs) ∧ sortOk2 (kvs.map fun kv => keyD kv.1) = true ∧
  ∀ p bs, H p = none → IsKeys H kvs bs → Q (.ref p) (upd H p (.lst (sortZ ((bs.map V.ref).zip (kvs.map fun kv => keyD kv.1)))))
theorem dp_kD {K : PySem.W.Frag} {H : Hp} (k : Key) : Dp K H (kV k) (kD k) := by
  cases k with
  | inl i => exact .int i
  | inr x => exact .str x
theorem dp_kDs {K : PySem.W.Frag} {H : Hp} : ∀ ks : List Key, DpAll K H (ks.map kV) (ks.map kD)
  | [] => .nil
  | k :: ks => .cons (dp_kD k) (dp_kDs ks)
theorem paired_zip {H : Hp} : ∀ {kvs : List (List Key × V)} {bs : List Addr}, IsKeys H kvs bs → ((bs.map V.ref).zip (kvs.map fun kv => keyD kv.1)).map (·.1) = bs.map V.ref ∧ ((bs.map V.ref).zip (kvs.map fun kv => keyD kv.1)).map (·.2) = kvs.map (fun kv => keyD kv.1) ∧
    (∀ z ∈ (bs.map V.ref).zip (kvs.map fun kv => keyD kv.1), ∃ k b, z = (.ref b, keyD k) ∧ H b = some (.tup (k.map kV)))
  | _, _, .nil => ⟨rfl, rfl, fun z h => (nomatch h)⟩
  | _, _, .cons h t => by
    obtain ⟨h1, h2, h3⟩ := paired_zip t
    refine ⟨by simp only [List.map_cons, List.zip_cons_cons, h1], by simp only [List.map_cons, List.zip_cons_cons, h2], fun z hz => ?_⟩
    rcases List.mem_cons.mp hz with rfl | hz
    · exact ⟨_, _, rfl, h⟩
    · exact h3 z hz
theorem cr_sortDK (hr : RmG k X.A) (hc : X.calm = true) : CallR X (.builtin "sorted") rSortDK := by
  intro pins s σ H vs us Q I r h
  obtain ⟨a, kvs, rfl, hs, hk, q⟩ := h
  rw [Vals.ref1 r]
  obtain ⟨z, lo, ws, rel, o, es, ep, ho, hx, hd, _, hp, _⟩ := dk_of I.hok hs
  have hl : es.size = kvs.length := by
    have := vals_keysK hp rel
    have := this.length
    simpa using this.symm
  have e1 : (kvs.map fun kv => (kV kv.1, kD kv.1)).map (·.1) = kvs.map fun kv => kV kv.1 := by rw [List.map_map]; rfl
  have e2 : (kvs.map fun kv => (kV kv.1, kD kv.1)).map (·.2) = kvs.map fun kv => kD kv.1 := by rw [List.map_map]; rfl
  refine sort_inv hr I (zs := kvs.map fun kv => (kV kv.1, kD kv.1)) (its := es.toList.map (·.key)) (by rw [e1]; exact vals_keysK hp rel) (by rw [List.length_map]; exact z) (fun R E h => coll_raw (A := X.A.in1) (I.ok.hd hc) lo ho hx hd (by rw [hl]; exact z) R E h) (fun z hz => ?_) (by rw [e2]; exact hk) q
  obtain ⟨kv, _, rfl⟩ := List.mem_map.mp hz
  exact dp_kD kv.1
theorem raw_keysT {P : Program} {w : World} {es : List DictEntry} {xs : List (List Key × Addr × Value)} (he : es = xs.map (entryOfKey (tupleKind (mixKind P w)))) : es.map (·.key) = (xs.map fun x => x.2.1).map Value.ref := by
  subst he
  rw [List.map_map, List.map_map]
  rfl
theorem cr_sortDT (hr : RmG k X.A) (hc : X.calm = true) : CallR X (.builtin "sorted") rSortDT := by
  intro pins s σ H vs us Q I r h
  obtain ⟨a, kvs, rfl, hs, hk, q⟩ := h
  rw [Vals.ref1 r]
  obtain ⟨z, lo, xs, rel, o, es, ep, ho, hx, hd, he, hn⟩ := (show ObjOk X.prog X.w H s.heap a (.dT kvs) from I.hok a _ hs)
  have ik : IsKeys H kvs (xs.map fun x => x.2.1) := isKeys_of rel
  obtain ⟨p1, p2, p3⟩ := paired_zip ik
  have hl : kvs.length = xs.length := Paired.length rel
  have hes : es.size = xs.length := size_of_entries he
  refine sort_inv hr I (zs := (((xs.map fun x => x.2.1).map V.ref).zip (kvs.map fun kv => keyD kv.1))) (its := es.toList.map (·.key)) (by rw [p1, raw_keysT he]; exact vals_refs _) (by rw [List.length_zip]; simp only [List.length_map]; omega) (fun R E h => coll_raw (A := X.A.in1) (I.ok.hd hc) lo ho hx hd (by omega) R E h) (fun z hz => ?_) (by rw [p2]; exact hk) (fun p hp => q p _ hp ik)
  obtain ⟨k, b, rfl, hb⟩ := p3 z hz
  exact .tup (.inl (.inl hb)) (dp_kDs k)
def rSortV (K : PySem.W.Frag) : List V → Hp → VK → Prop := fun xs H Q => rSortSeq K xs H Q ∨ (rSortDK xs H Q ∨ rSortDT xs H Q)
theorem cr_sortV (hr : RmG k X.A) (hc : X.calm = true) : CallR X (.builtin "sorted") (rSortV X.K) := (cr_sortSeq hr).or ((cr_sortDK hr hc).or (cr_sortDT hr hc))
end
def keysD (ds : List (D × D)) : List D := ds.map (·.1)
def gSortedV : List D → R D
  | [.list ds] => R.when (sortOk2 ds) (.ok (.list (sortD ds)))
  | [.tuple ds] => R.when (sortOk2 ds) (.ok (.list (sortD ds)))
  | [.dict ds] => R.when (sortOk2 (keysD ds)) (.ok (.list (sortD (keysD ds))))
  | _ => .no
theorem sortZ_reps {K : PySem.W.Frag} {Z : Hp} {zs : List (V × D)} (h : ∀ z ∈ zs, Rep K Z z.1 z.2) : Reps K Z (sortZ zs) (sortD (zs.map (·.2))) := by
  have r2 := reps_of (K := K) (Z := Z) (zs := zs.mergeSort (PySem.W.dataLe false fun z : V × D => z.2)) fun z hzm => h z ((List.mergeSort_perm zs (PySem.W.dataLe false fun z : V × D => z.2)).mem_iff.mp hzm)
  have e2 : (zs.mergeSort (PySem.W.dataLe false fun z : V × D => z.2)).map (·.2) = sortD (zs.map (·.2)) := by
    have := List.map_mergeSort (l := zs) (f := fun z : V × D => z.2) (r := PySem.W.dataLe false fun z : V × D => z.2) (s := PySem.W.dataLe false id) fun a _ b _ => rfl
    unfold sortD
    rw [this]
  rw [e2] at r2
  exact r2
theorem RepK.keysD {K : PySem.W.Frag} {Z : Hp} : ∀ {kvs : List (Key × V)} {ds : List (D × D)}, RepK K Z kvs ds → keysD ds = kvs.map fun kv => kD kv.1
  | _, _, .nil => rfl
  | _, _, .cons _ t => congrArg _ (RepK.keysD t)
theorem RepT.keysD {K : PySem.W.Frag} {Z : Hp} : ∀ {kvs : List (List Key × V)} {ds : List (D × D)}, RepT K Z kvs ds → keysD ds = kvs.map fun kv => keyD kv.1
  | _, _, .nil => rfl
  | _, _, .cons _ t => congrArg _ (RepT.keysD t)
theorem rep_kD {K : PySem.W.Frag} {Z : Hp} (k : Key) : Rep K Z (kV k) (kD k) := by
  cases k with
  | inl i => exact .int i
  | inr x => exact .str x
theorem reps_kD {K : PySem.W.Frag} {Z : Hp} : ∀ ks : List Key, Reps K Z (ks.map kV) (ks.map kD)
  | [] => .nil
  | k :: ks => .cons (rep_kD k) (reps_kD ks)
theorem noRefs_kD : ∀ ks : List Key, noRefs (ks.map kD) = true
  | [] => rfl
  | k :: ks => by
    show (noRef (kD k) && noRefs (ks.map kD)) = true
    rw [noRefs_kD ks, Bool.and_true]
    cases k <;> rfl
theorem rep_keyT {K : PySem.W.Frag} {Z H : Hp} (hz : Same Z H) {b : Addr} {k : List Key} (h : H b = some (.tup (k.map kV))) : Rep K (tupsOf Z H) (.ref b) (keyD k) :=
  Rep.tups Z hz (.tup (.inl h) (reps_kD k)) (by unfold keyD noRef; exact noRefs_kD k)
theorem v_sortedV {K : PySem.W.Frag} : OpN K (rSortV K) gSortedV := fun xs H Z as c Q hz r h hq => by
  unfold gSortedV at h
  split at h
  · rename_i ds
    obtain ⟨h1, h2⟩ := R.of_when h
    cases h2
    cases r with
    | cons r t =>
      cases t
      cases r with
      | @lst a0 vs0 _ tt q =>
        obtain ⟨z1, z2, z3⟩ := zip_reps q
        refine .inl ⟨_, vs0.zip ds, rfl, .inl (by rw [z1]; exact .inl (.inl (hz _ _ tt))), fun z hzm => ?_, by rw [z2]; exact h1, fun p np => ?_⟩
        · refine (z3 z hzm).dp hz (SeqAt.canLay_of_shaped (sortOk2_shaped h1 _ ?_))
          have := List.mem_map_of_mem (f := (·.2)) hzm
          rw [z2] at this
          exact this
        · have g := Gr.new (o := .lst (sortZ (vs0.zip ds))) hz np
          have r2 := sortZ_reps z3
          rw [z2] at r2
          exact hq _ _ _ g (.lst upd_same (r2.mono g.zz))
  · rename_i ds
    obtain ⟨h1, h2⟩ := R.of_when h
    cases h2
    cases r with
    | cons r t =>
      cases t
      cases r with
      | @tup a0 vs0 _ tt q =>
        obtain ⟨z1, z2, z3⟩ := zip_reps q
        refine .inl ⟨_, vs0.zip ds, rfl, .inr (by rw [z1]; exact same_seqT hz tt), fun z hzm => ?_, by rw [z2]; exact h1, fun p np => ?_⟩
        · refine (z3 z hzm).dp hz (SeqAt.canLay_of_shaped (sortOk2_shaped h1 _ ?_))
          have := List.mem_map_of_mem (f := (·.2)) hzm
          rw [z2] at this
          exact this
        · have g := Gr.new (o := .lst (sortZ (vs0.zip ds))) hz np
          have r2 := sortZ_reps z3
          rw [z2] at r2
          exact hq _ _ _ g (.lst upd_same (r2.mono g.zz))
  · rename_i ds
    obtain ⟨h1, h2⟩ := R.of_when h
    cases h2
    cases r with
    | cons r t =>
      cases t
      cases r with
      | @dK a kvs _ e q =>
        rw [q.keysD] at h1 hq
        refine .inr (.inl ⟨_, kvs, rfl, hz _ _ e, h1, fun p np => ?_⟩)
        have g := Gr.new (o := .lst (sortZ (kvs.map fun kv => (kV kv.1, kD kv.1)))) hz np
        have r2 := sortZ_reps (K := K) (Z := Z) (zs := kvs.map fun kv => (kV kv.1, kD kv.1)) fun z hzm => by
          obtain ⟨kv, _, rfl⟩ := List.mem_map.mp hzm
          exact rep_kD kv.1
        have e2 : (kvs.map fun kv => (kV kv.1, kD kv.1)).map (·.2) = kvs.map fun kv => kD kv.1 := by rw [List.map_map]; rfl
        rw [e2] at r2
        exact hq _ _ _ g (.lst upd_same (r2.mono g.zz))
      | @dT a kvs _ e n q =>
        rw [q.keysD] at h1 hq
        refine .inr (.inr ⟨_, kvs, rfl, hz _ _ e, h1, fun p bs np ik => ?_⟩)
        obtain ⟨p1, p2, p3⟩ := paired_zip ik
        have gt := tupsOf_gr hz
        have g := Gr.new (o := .lst (sortZ ((bs.map V.ref).zip (kvs.map fun kv => keyD kv.1)))) gt.zh np
        have r2 := sortZ_reps (K := K) (Z := tupsOf Z H) (zs := (bs.map V.ref).zip (kvs.map fun kv => keyD kv.1)) fun z hzm => by
          obtain ⟨k, b, rfl, hb⟩ := p3 z hzm
          exact rep_keyT hz hb
        rw [p2] at r2
        exact hq _ _ _ (gt.trans g) (.lst upd_same (r2.mono g.zz))
  · cases h
end Dz

set_option maxRecDepth 100000
set_option maxHeartbeats 2000000
namespace Dz
open PySem PySem.Spec PyProof.Rows L2
/-! ## dict(pairs), list(dict) -/
def mergeT (kvs more : List (List Key × V)) : List (List Key × V) := more.foldl (fun acc kv => putK acc kv.1 kv.2) kvs
theorem mergeT_len : ∀ (more kvs : List (List Key × V)), (mergeT kvs more).length ≤ kvs.length + more.length
  | [], kvs => by simp [mergeT]
  | p :: more, kvs => by
    have h1 := mergeT_len more (putK kvs p.1 p.2)
    have h2 := length_putK kvs p.1 p.2
    show (mergeT (putK kvs p.1 p.2) more).length ≤ _
    rw [List.length_cons]; omega
theorem KT.merge {H : Hp} : ∀ {more : List (List Key × V)} {qs : List (List Key × Addr × Value)} {kvs : List (List Key × V)} {xs : List (List Key × Addr × Value)}, KT H more qs → KT H kvs xs → KT H (mergeT kvs more) (storedAllH xs qs)
  | _, _, _, _, .nil, h => h
  | _, _, kvs, xs, .cons (a := p) (b := q) r t, h => by
    show KT H (mergeT (putK kvs p.1 p.2) _) (storedAllH (storedH xs q.1 q.2.1 q.2.2) _)
    obtain ⟨e1, e2, e3⟩ := r
    rw [← e1]
    exact KT.merge t (KT.put h p.1 e2 e3)
section
variable {X : Cx}
/-- what stands at a pair -/
def PairT (K : PySem.W.Frag) (H : Hp) (p : Addr) (kv : List Key × V) : Prop := ∃ b, SqT K H p [.ref b, kv.2] ∧ H b = some (.tup (kv.1.map kV))
theorem pairsT_of {pins : List (Addr × Obj)} {σ : L2.St} {H : Hp} {s : Shared} (I : L2.Inv X pins σ H s) : ∀ {ps : List Addr} {kvs : List (List Key × V)}, Paired (PairT X.K H) ps kvs →
    ∃ qs : List (List Key × Addr × Value), KT H kvs qs ∧ qs.length = ps.length ∧ ∀ (j : Nat) (q : List Key × Addr × Value), qs[j]? = some q → ∃ b : Addr, ps[j]? = some b ∧ IsTup s.heap b #[.ref q.2.1, q.2.2]
  | _, _, .nil => ⟨[], .nil, rfl, fun j q e => by simp at e⟩
  | _, _, .cons (a := p) (b := kv) h t => by
    obtain ⟨qs, r, hl, hp⟩ := pairsT_of I t
    obtain ⟨b, h1, h2⟩ := h
    obtain ⟨its, rv, ht, _⟩ := I.tuple h1
    obtain ⟨u, y, ei, ru, ry⟩ := vals2 rv
    subst ei
    cases ru
    refine ⟨(kv.1, b, y) :: qs, .cons ⟨rfl, h2, ry⟩ r, by rw [List.length_cons, List.length_cons, hl], fun j q e => ?_⟩
    cases j with
    | zero =>
      have e' : (kv.1, b, y) = q := Option.some.inj e
      subst e'
      exact ⟨p, rfl, ht⟩
    | succ j =>
      obtain ⟨b', e1, e2⟩ := hp j q (by simpa using e)
      exact ⟨b', by simpa using e1, e2⟩
def rDictT (K : PySem.W.Frag) : List V → Hp → VK → Prop := fun xs H Q => ∃ (a : Addr) (ps : List Addr) (kvs : List (List Key × V)), xs = [.ref a] ∧ SqL K H a (ps.map V.ref) ∧ Paired (PairT K H) ps kvs ∧ ∀ p, H p = none → Q (.ref p) (upd H p (.dT (mergeT [] kvs)))
theorem call_dictT (hcalm : X.calm = true) (hu : X.A.units + 2 < cLine) : CallR X (.type "dict") (rDictT X.K) := by
  intro pins s σ H xs us Q I r q
  obtain ⟨a, ps, kvs, ex, hq, hp, q⟩ := q
  subst ex
  obtain ⟨u, eu, rx⟩ := vals1 r
  subst eu
  cases rx
  obtain ⟨its, rv, pl, hz⟩ := I.list hq
  have ei := refs_at rv
  subst ei
  rw [List.length_map] at hz
  obtain ⟨qs, rel, hl, hpr⟩ := pairsT_of I hp
  obtain ⟨o, n, ho, hc, hd, hdat⟩ := pl
  have keys : ∀ x ∈ qs, (tupleKind (mixKind X.prog X.w)).is s.heap x.1 x.2.1 := by
    have : ∀ {kvs : List (List Key × V)} {qs : List (List Key × Addr × Value)}, KT H kvs qs → ∀ x ∈ qs, (tupleKind (mixKind X.prog X.w)).is s.heap x.1 x.2.1 := by
      intro kvs qs h
      induction h with
      | nil => exact fun x hx => nomatch hx
      | cons r t ih =>
        intro x hx
        rcases List.mem_cons.mp hx with rfl | hx
        · have := key_of (ks := x.1) (a := x.2.1) I.hok (by rw [← r.1]; exact r.2.1)
          exact this
        · exact ih x hx
    exact this rel
  refine call_dict_pairsH (knd := tupleKind (mixKind X.prog X.w)) (ps := qs) (PairArg.list a (ps.map Value.ref).toArray (fun j => ps.getD j 0) (qs.map fun q => (Value.ref q.2.1, q.2.2))) (I.ok.hd hcalm) (show X.A.units + 2 < cLine from hu)
    ⟨⟨o, n, ho, hc, hd, hdat⟩, by simp [hl], fun j k v e => ?_⟩ ⟨by simp, fun i key v e => ?_⟩ (fun h' hk x hx => tupleKind_stays.stays (h := s.heap) (fun b ob vs n e1 _ => hk b ob (Nat.ne_of_lt (Heap.lt_size e1)) (by simp) e1) (keys x hx)) (by simpa [hl] using hz) fun h' tk hd' k => ?_
  · rw [List.getElem?_map] at e
    cases e1 : qs[j]? with
    | none => rw [e1] at e; cases e
    | some q0 =>
      rw [e1] at e
      cases e
      obtain ⟨b, h1, h2⟩ := hpr j q0 e1
      have hb : ps.getD j 0 = b := by rw [List.getD_eq_getElem?_getD, h1]; rfl
      refine ⟨by simp [h1, hb], .inl ?_⟩
      show IsTup s.heap (ps.getD j 0) _
      rw [hb]
      exact h2
  · rw [PairRel, List.getElem?_map] at e
    cases e1 : qs[i]? with
    | none => rw [e1] at e; cases e
    | some q0 =>
      rw [e1] at e
      cases e
      exact ⟨q0.1, q0.2.1, rfl, rfl⟩
  · have hm : (s.heap.objs.size == sysModules) = false := beq_eq_false_iff_ne.mpr (Nat.ne_of_gt I.big)
    have hlen : (mergeT [] kvs).length ≤ sizeLine := by
      refine Nat.le_trans (mergeT_len kvs []) ?_
      rw [List.length_nil, Nat.zero_add, Paired.length rel, hl]
      exact hz
    have np : H s.heap.objs.size = none := I.hok.fresh (Nat.le_refl _)
    obtain ⟨ob, es, ep, h1, h2, h3, h4, h5, h6⟩ := hd'
    refine ⟨.ref s.heap.objs.size, upd H s.heap.objs.size (.dT (mergeT [] kvs)), I.laid (t' := tk) (fun b u e => k b u (by simp) e) (Nat.le_refl _) ?_, rfl, q _ np⟩
    exact ⟨hlen, hm, _, (KT.merge rel .nil).keeps fun b ys e => by rw [upd_ne (ne_of_none e np)]; exact e, ob, es, ep, h1, h2, h3, h4, h6⟩
end
/-! ### as data -/
def pairD : D → Option (D × DK × D)
  | .tuple [k, v] => (asDK k).map fun dk => (k, dk, v)
  | _ => none
def isDT : DK → Bool
  | .inl _ => false
  | .inr _ => true
/-- pairs, each with a key of the sort -/
def pairsD (t : Bool) : List D → Option (List (D × DK × D))
  | [] => some []
  | d :: ds => match pairD d, pairsD t ds with
    | some p, some ps => if isDT p.2.1 = t then some (p :: ps) else none
    | _, _ => none
def mergeD (ds : List (D × D)) (ps : List (D × DK × D)) : List (D × D) := ps.foldl (fun acc p => putD acc p.1 p.2.1 p.2.2) ds
def gDict1 : List D → R D
  | [.list ds] => match pairsD false ds with
    | some ps => .ok (.dict (mergeD [] ps))
    | none => match pairsD true ds with
      | some ps => .ok (.dict (mergeD [] ps))
      | none => .no
  | _ => .no
section
variable {K : PySem.W.Frag} {Z : Hp}
theorem pairD_some {d : D} {p : D × DK × D} (h : pairD d = some p) : d = .tuple [p.1, p.2.2] ∧ asDK p.1 = some p.2.1 := by
  unfold pairD at h
  split at h
  · rename_i k v
    cases q : asDK k with
    | none => rw [q] at h; cases h
    | some z => rw [q] at h; cases h; exact ⟨rfl, q⟩
  · cases h
theorem pairsD_K : ∀ {ds : List D} {vs : List V} {ps : List (D × DK × D)}, Reps K Z vs ds → pairsD false ds = some ps → ∃ (as : List Addr) (kvs : List (Key × V)), vs = as.map V.ref ∧ Paired (fun p kv => SqT K Z p [kV kv.1, kv.2]) as kvs ∧
    (∀ kvs0 ds0, RepK K Z kvs0 ds0 → RepK K Z (mergeK kvs0 kvs) (mergeD ds0 ps))
  | [], _, ps, h, e => by
    cases h
    cases e
    exact ⟨[], [], rfl, .nil, fun _ _ r => r⟩
  | d :: ds, _, ps, h, e => by
    cases h with
    | cons r t =>
      unfold pairsD at e
      split at e
      · rename_i p ps' e1 e2
        split at e
        · rename_i hc
          cases e
          obtain ⟨rfl, hk⟩ := pairD_some e1
          obtain ⟨kd, dk, v⟩ := p
          cases dk with
          | inr ks => cases hc
          | inl k =>
            obtain ⟨as, kvs, rfl, h3, h4⟩ := pairsD_K t e2
            cases r with
            | @tup a vs _ tt q =>
              cases q with
              | cons rk q =>
                cases q with
                | cons rv q =>
                  cases q
                  have ek : kd = kD k := asDK_inl hk
                  subst ek
                  cases Rep.key1 rk
                  refine ⟨a :: as, (k, _) :: kvs, rfl, .cons (same_seqT (Same.refl _) tt) h3, fun kvs0 ds0 r0 => ?_⟩
                  exact h4 _ _ (r0.put rv)
        · cases e
      · cases e
theorem pairsD_T : ∀ {ds : List D} {vs : List V} {ps : List (D × DK × D)}, Reps K Z vs ds → pairsD true ds = some ps → ∃ (as : List Addr) (kvs : List (List Key × V)), vs = as.map V.ref ∧ Paired (PairT K Z) as kvs ∧ kvs.length = ds.length ∧
    (∀ kvs0 ds0, RepT K Z kvs0 ds0 → RepT K Z (mergeT kvs0 kvs) (mergeD ds0 ps))
  | [], _, ps, h, e => by
    cases h
    cases e
    exact ⟨[], [], rfl, .nil, rfl, fun _ _ r => r⟩
  | d :: ds, _, ps, h, e => by
    cases h with
    | cons r t =>
      unfold pairsD at e
      split at e
      · rename_i p ps' e1 e2
        split at e
        · rename_i hc
          cases e
          obtain ⟨rfl, hk⟩ := pairD_some e1
          obtain ⟨kd, dk, v⟩ := p
          cases dk with
          | inl ks => cases hc
          | inr k =>
            obtain ⟨as, kvs, rfl, h3, h5, h4⟩ := pairsD_T t e2
            cases r with
            | @tup a vs _ tt q =>
              cases q with
              | cons rk q =>
                cases q with
                | cons rv q =>
                  cases q
                  have ek : kd = .tuple (k.map kD) := asDK_inr hk
                  subst ek
                  obtain ⟨b, rfl, hb⟩ := Rep.keyT rk
                  refine ⟨a :: as, (k, _) :: kvs, rfl, .cons ⟨b, same_seqT (Same.refl _) tt, hb⟩ h3, by rw [List.length_cons, List.length_cons, h5], fun kvs0 ds0 r0 => ?_⟩
                  exact h4 _ _ (r0.put rv)
        · cases e
      · cases e
theorem SqT.same {Z H : Hp} (e : Same Z H) {a : Addr} {xs : List V} (h : SqT K Z a xs) : SqT K H a xs := by
  rcases h with (h | ⟨o, h⟩) | h
  · exact .inl (.inl (e _ _ h))
  · exact .inl (.inr ⟨o, e _ _ h⟩)
  · exact .inr h
end
theorem mergeT_ne {p : List Key × V} {kvs : List (List Key × V)} : mergeT [] (p :: kvs) ≠ [] := by
  have : ∀ (more kvs : List (List Key × V)), kvs ≠ [] → mergeT kvs more ≠ [] := by
    intro more
    induction more with
    | nil => exact fun kvs h => h
    | cons q more ih =>
      intro kvs h
      refine ih (putK kvs q.1 q.2) ?_
      unfold putK
      split
      · cases kvs with
        | nil => exact absurd rfl h
        | cons _ _ => simp
      · simp
  refine this kvs _ ?_
  unfold putK
  simp
theorem v_dict1 {X : Cx} : OpN X.K (fun xs H Q => (∃ (a : Addr) (ps : List Addr) (kvs : List (Key × V)), xs = [.ref a] ∧ SqL X.K H a (ps.map V.ref) ∧ Paired (fun p kv => SqT X.K H p [kV kv.1, kv.2]) ps kvs ∧
    ∀ p, H p = none → Q (.ref p) (upd H p (.dK (mergeK [] kvs)))) ∨ rDictT X.K xs H Q) gDict1 := fun xs H Z as c Q hz r h hq => by
  unfold gDict1 at h
  split at h
  · rename_i ds
    cases r with
    | cons r t =>
      cases t
      cases r with
      | @lst a0 vs0 _ tt q =>
        split at h
        · rename_i ps e
          cases h
          obtain ⟨bs, kvs, rfl, h3, h4⟩ := pairsD_K q e
          refine .inl ⟨a0, bs, kvs, rfl, .inl (.inl (hz _ _ tt)), Paired.mapP h3 fun p kv s => SqT.same hz s, fun p np => ?_⟩
          have g := Gr.new (o := .dK (mergeK [] kvs)) hz np
          exact hq _ _ _ g (.dK upd_same ((h4 [] [] .nil).mono g.zz))
        · split at h
          · rename_i e0 _ ps e
            cases h
            obtain ⟨bs, kvs, rfl, h3, h5, h4⟩ := pairsD_T q e
            refine .inr ⟨a0, bs, kvs, rfl, .inl (.inl (hz _ _ tt)), Paired.mapP h3 fun p kv ⟨b, s1, s2⟩ => ⟨b, SqT.same hz s1, hz _ _ s2⟩, fun p np => ?_⟩
            have g := Gr.new (o := .dT (mergeT [] kvs)) hz np
            refine hq _ _ _ g (.dT upd_same ?_ ((h4 [] [] .nil).mono g.zz))
            cases kvs with
            | nil =>
              cases ds with
              | nil => exact nomatch e0
              | cons _ _ => simp at h5
            | cons p kvs => exact mergeT_ne
          · cases h
  · cases h
/-- list(x): lists, tuples, dicts -/
def gList1V : List D → R D
  | [.dict ds] => .ok (.list (keysD ds))
  | as => gList1 as
section
variable {X : Cx}
def rListV (K : PySem.W.Frag) : List V → Hp → VK → Prop := fun xs H Q => (∃ p ys, xs = [.ref p] ∧ (SqL K H p ys ∨ SqT K H p ys) ∧ ∀ l, H l = none → Q (.ref l) (upd H l (.lst ys))) ∨
  ((∃ (a : Addr) (kvs : List (Key × V)), xs = [.ref a] ∧ Rd H a (.dK kvs) ∧ ∀ p, H p = none → Q (.ref p) (upd H p (.lst (kvs.map fun kv => kV kv.1)))) ∨
   ∃ d kvs, xs = [V.ref d] ∧ Rd H d (.dT kvs) ∧ ∀ p bs, H p = none → IsKeys H kvs bs → Q (.ref p) (upd H p (.lst (bs.map V.ref))))
theorem call_listV (hc : X.calm = true) : CallR X (.type "list") (rListV X.K) := call_list_of.or ((call_listD hc).or (call_list_dT hc))
theorem reps_keysK {K : PySem.W.Frag} {Z : Hp} : ∀ {kvs : List (Key × V)}, Reps K Z (kvs.map fun kv => kV kv.1) (kvs.map fun kv => kD kv.1)
  | [] => .nil
  | kv :: kvs => .cons (rep_kD kv.1) reps_keysK
theorem reps_keysT {K : PySem.W.Frag} {Z H : Hp} (hz : Same Z H) : ∀ {kvs : List (List Key × V)} {bs : List Addr}, IsKeys H kvs bs → Reps K (tupsOf Z H) (bs.map V.ref) (kvs.map fun kv => keyD kv.1)
  | _, _, .nil => .nil
  | _, _, .cons h t => .cons (rep_keyT hz h) (reps_keysT hz t)
theorem v_list1V {K : PySem.W.Frag} : OpN K (rListV K) gList1V := fun xs H Z as c Q hz r h hq => by
  unfold gList1V at h
  split at h
  · rename_i ds
    cases h
    cases r with
    | cons r t =>
      cases t
      cases r with
      | @dK a kvs _ e q =>
        rw [q.keysD] at hq
        refine .inr (.inl ⟨_, kvs, rfl, .inl (hz _ _ e), fun p np => ?_⟩)
        have g := Gr.new (o := .lst (kvs.map fun kv => kV kv.1)) hz np
        exact hq _ _ _ g (.lst upd_same reps_keysK)
      | @dT a kvs _ e n q =>
        rw [q.keysD] at hq
        refine .inr (.inr ⟨_, kvs, rfl, .inl (hz _ _ e), fun p bs np ik => ?_⟩)
        have gt := tupsOf_gr hz
        have g := Gr.new (o := .lst (bs.map V.ref)) gt.zh np
        exact hq _ _ _ (gt.trans g) (.lst upd_same ((reps_keysT hz ik).mono g.zz))
  · exact .inl (v_list1 xs H Z as c Q hz r h hq)
end
end Dz

set_option maxRecDepth 100000
set_option maxHeartbeats 2000000
namespace Dz
open PySem PySem.Spec PyProof.Rows L2
/-! ## {k: v for ..}, keys of any sort -/
theorem dictSetX {X : Cx} {A : Around} {pins : List (Addr × Obj)} {σ : L2.St} {H H' : Hp} {s : Shared} {E : Value → Shared → Prop} {a : Addr} {y v : V} {u r : Value} {Q : Unit → Shared → Prop} (hu : A.units < cLine) (I : L2.Inv X pins σ H s) (g : DPutX H a y v H')
    (ry : RelV y u) (rv : RelV v r) (h : ∀ s', L2.Inv X pins σ H' s' → Q () s') : wpAny (model X.prog X.w) A (dictSet a u r) Q E s := by
  have tcase : ∀ {H0 : Hp} {kvs : List (List Key × V)} {k : List Key} {b : Addr}, L2.Inv X pins σ H0 s → H0 a = some (.dT kvs) → H0 b = some (.tup (k.map kV)) → kvs.length < sizeLine → u = .ref b →
      (∀ s', L2.Inv X pins σ (upd H0 a (.dT (putK kvs k v))) s' → Q () s') → wpAny (model X.prog X.w) A (dictSet a u r) Q E s := by
    intro H0 kvs k b I0 e eb l eu hq
    subst eu
    obtain ⟨z, hd, xs, rel, dd⟩ := dt_of I0.hok e
    have lz : xs.length ≤ sizeLine := Paired.length rel ▸ z
    have ln := length_putK kvs k v
    refine wpAny_dictSet_heap (hsz := lz) (show (tupleKind (mixKind X.prog X.w)).room A from hu) (key_of I0.hok eb) dd fun h' dd' hs => hq _ ?_
    obtain ⟨ob, es, ep, f1, f2, f3, f4, _, f5⟩ := dd'
    refine d_write I0 (by rw [e]; exact True.intro) hs ⟨ob, f1⟩ ⟨by omega, hd, _, (rel.put k eb rv).keeps fun c ys ec => ?_, ob, es, ep, f1, f2, f3, f4, f5⟩
    rw [upd_ne (ne_of ec e (fun z => nomatch z))]
    exact ec
  rcases g with (⟨kvs, k, e, rfl, l, rfl⟩ | ⟨kvs, k, b, e, rfl, eb, l, rfl⟩) | ⟨h0, k, b, rfl, hb, rfl⟩
  · obtain ⟨z, hd, vs, rel, dd⟩ := dk_of I.hok e
    have lz : vs.length ≤ sizeLine := rel.length ▸ z
    have ln := length_putK kvs k v
    refine wpAny_dictSet_pairs (hsz := lz) (kV_is ry) dd fun h' dd' hs => h _ ?_
    exact d_write I (by rw [e]; exact True.intro) hs (let ⟨ob, _, _, f, _⟩ := dd'; ⟨ob, f⟩) (dk_new (by omega) hd (rel.put k rv) dd')
  · exact tcase I e eb l ry h
  · refine tcase (Inv.asT I h0) (k := k) (b := b) upd_same (by rw [upd_ne (ne_tup h0 hb)]; exact hb) (by rw [sizeLine_eq]; decide) ry fun s' I' => h s' ?_
    rw [upd_upd] at I'
    exact I'
section
variable {X : Cx}
/-- what is asked: D the new dict -/
def tDcX (wi : TI) (g : TG) (tt : TT) (tk tv : TE) (vs : List Nat) : TE := fun σ H Q => wi σ H fun J H1 => ∀ D, H1 D = none → ∃ W : Nat → Nat → Hp → Prop, (∃ m, W 0 m (upd H1 D (.dK []))) ∧ ∀ i m H, W i m H →
  (J.stop i H ∧ Q (.ref D) H) ∨ (J.go i H ∧ ∃ Nx : Hp → Prop, (∀ H', Nx H' → ∃ m', m' < m ∧ W (i + 1) m' H') ∧ ∀ x H', J.yld i H x H' → g x (wipe σ vs) H' fun σ2 H2 => wipe σ2 vs = wipe σ vs ∧ tt σ2 H2 fun b H3 =>
    if b = true then tk σ2 H3 fun y H4 => tv σ2 H4 fun z H5 => ∃ H6, DPutX H5 D y z H6 ∧ Nx H6 else Nx H3)
theorem dcX {pins : List (Addr × Obj)} {s : Shared} {σ : L2.St} {H : Hp} {Q : VK} {kx vx tg iter : Expr} {ifs : List Expr} {scope : Scope} {own : List (Str × Nat)} {pos pos' : Pos} {wi : TI} {g : TG} {tt : TT} {tk tv : TE} {use : Option (Value → Sem Unit)} {Qf : Value → Shared → Prop}
    (hu : X.A.units < cLine) (hc : X.calm = true) (hN : X.N.Nodup) (I : L2.Inv X pins σ H s) (hi : PI X tg iter wi) (ok : BlkOk X.N X.env.scope scope own)
    (hg : ∀ (s : Shared) (H : Hp) (C : Addr) (cl : List (Str × Addr)) (fp : List Addr), PG (X.blk s H scope (compEnvC scope cl C X.env) fp) tg g) (ht : ∀ (s : Shared) (H : Hp) (C : Addr) (cl : List (Str × Addr)) (fp : List Addr), PTs (X.blk s H scope (compEnvC scope cl C X.env) fp) ifs tt)
    (hk : ∀ (s : Shared) (H : Hp) (C : Addr) (cl : List (Str × Addr)) (fp : List Addr), PE (X.blk s H scope (compEnvC scope cl C X.env) fp) kx tk) (he : ∀ (s : Shared) (H : Hp) (C : Addr) (cl : List (Str × Addr)) (fp : List Addr), PE (X.blk s H scope (compEnvC scope cl C X.env) fp) vx tv)
    (hs : ∀ x, foldedSetIterable iter X.env x = pure x) (h : tDcX wi g tt tk tv (own.map (·.2)) σ H Q)
    (hRR : ∀ D C s' m H', L2.Inv X pins σ H' s' → Q (.ref D) H' → s'.heap.Ns C m → FpOk X pins H' C → compPost (model X.prog X.w) X.A X.xe use Qf (.ref D) C (.ok .next) s') :
    wpAny (model X.prog X.w) X.A (comprehension (.DictComp kx vx [⟨tg, iter, ifs, 0⟩] scope pos) scope X.env pos' newDict false (eval iter X.env) use) Qf X.xe s := by
  have freeNames : ∀ y ∈ scope.names, y.2 = .free → ∃ c, X.env.cells.lookup y.1 = some c := fun y hy e => (ok.free y hy e).elim (fun k => I.ok.has _ (.inl k)) fun k => I.ok.has _ (.inr k)
  refine wpAny_comprehension_free (use := use) rfl hs (closure_ok freeNames) ok.kind (fun y hy e => by rw [ok.uniq y hy, e]) (thn (hi.run pins s σ H _ I h) fun xv s1 hx => thn hx fun itv s2 h2 => ?_)
  obtain ⟨it, fp, tn, J, HI, rfl, I2, T, st2, f2, q⟩ := h2
  refine wpAny_newObj_type (newEnv_comp ?_)
  generalize eD : s2.heap.objs.size = D
  obtain ⟨W, ⟨m0, w0⟩, turn⟩ := q D (I2.hok.fresh (Nat.le_of_eq eD))
  -- the new dict stands at D
  generalize e3 : ({ s2 with heap := s2.heap.push { cls := .type "dict", data := .dict #[] } } : Shared) = sD
  have hp : sD.heap = s2.heap.push { cls := .type "dict", data := .dict #[] } := by rw [← e3]
  have ID : L2.Inv X pins σ (upd HI D (.dK [])) sD := by
    have z : ObjOk X.prog X.w (upd HI D (.dK [])) (s2.heap.push { cls := .type "dict", data := .dict #[] }) D (.dK []) := eD ▸ dk_empty s2.heap I2.big
    rw [← e3]
    exact I2.laid (t' := s2.toks) (fun _ _ e => Heap.get?_push_of_some _ e) (Nat.le_of_eq eD) z
  have under : ∀ b ∈ fp, b < s2.heap.objs.size := fun b hb => let ⟨o, e, _⟩ := T.obj _ _ st2 b hb; Heap.lt_size e
  have fD : ∀ b ∈ fp, FpOk X pins (upd HI D (.dK [])) b ∧ b < sD.heap.objs.size := fun b hb => by
    have lt := under b hb
    have ne : b ≠ D := fun z => Nat.lt_irrefl _ (by rw [z, ← eD] at lt; exact lt)
    refine ⟨⟨by rw [upd_ne ne]; exact (f2 b hb).1, (f2 b hb).2⟩, ?_⟩
    rw [hp, Heap.size_push]
    exact Nat.lt_succ_of_lt lt
  have tD : tn 0 sD.heap := T.keep _ _ _ st2 fun b _ o e => by rw [hp]; exact Heap.get?_push_of_some _ e
  have IB := block_start ID ok hN fD
  have runG := hg sD (upd HI D (.dK [])) sD.heap.objs.size (cellsFrom (sD.heap.objs.size + 1) scope.names (cloFrom X.env.cells scope.names [])) fp
  have runT := ht sD (upd HI D (.dK [])) sD.heap.objs.size (cellsFrom (sD.heap.objs.size + 1) scope.names (cloFrom X.env.cells scope.names [])) fp
  have runK := hk sD (upd HI D (.dK [])) sD.heap.objs.size (cellsFrom (sD.heap.objs.size + 1) scope.names (cloFrom X.env.cells scope.names [])) fp
  have runV := he sD (upd HI D (.dK [])) sD.heap.objs.size (cellsFrom (sD.heap.objs.size + 1) scope.names (cloFrom X.env.cells scope.names [])) fp
  show codeAny _ _ (.compStart (.DictComp kx vx [⟨tg, iter, ifs, 0⟩] scope pos) 0 (.ref it) (.ref D) (compEnvC scope (cellsFrom (sD.heap.objs.size + 1) scope.names (cloFrom X.env.cells scope.names [])) sD.heap.objs.size X.env)) (compPost (model X.prog X.w) X.A X.xe use Qf (.ref D) sD.heap.objs.size) { sD with heap := pushCells (sD.heap.push { cls := .type "dict", data := .dict #[] }) scope.names }
  have notHeld : ∀ b ∈ fp, (upd HI D (.dK [])) b = none := fun b hb => (fD b hb).1.1
  generalize eE : compEnvC scope (cellsFrom (sD.heap.objs.size + 1) scope.names (cloFrom X.env.cells scope.names [])) sD.heap.objs.size X.env = ce at IB runG runT runK runV ⊢
  have loc : ce.locals = sD.heap.objs.size := by subst eE; rfl
  generalize eH : upd HI D (.dK []) = HD at ID IB runG runT runK runV w0 notHeld fD
  generalize eS : ({ sD with heap := pushCells (sD.heap.push { cls := .type "dict", data := .dict #[] }) scope.names } : Shared) = sE at IB ⊢
  have tE : tn 0 sE.heap := T.keep _ _ _ tD fun b _ o e => by rw [← eS]; exact pushCells_keeps _ _ _ _ (Heap.get?_push_of_some _ e)
  have away : ∀ {σ' : L2.St} {H' : Hp} {s' : Shared}, L2.Inv (X.blk sD HD scope ce fp) [] σ' H' s' → (∀ b ∈ fp, H' b = none) → ∀ b ∈ fp, FpOk (X.blk sD HD scope ce fp) [] H' b := fun {σ' H' s'} J0 hn b hb =>
    ⟨hn b hb, (J0.ok.exf b hb).1, J0.ok.exfs b hb, .inl hb, fun x c e => (J0.ok.exf b hb).2 x c e, fun p hp => absurd (show p ∈ ([] : List (Addr × Obj)) ++ [] from hp) (by simp)⟩
  have whole : codeAny (model X.prog X.w) X.A (.compLoop (.DictComp kx vx [⟨tg, iter, ifs, 0⟩] scope pos) 0 (.ref it) (.ref D) ce) (compPost (model X.prog X.w) X.A X.xe use Qf (.ref D) sD.heap.objs.size) sE := by
    refine compLoop_anyD (fun n s' => ∃ i H', L2.Inv (X.blk sD HD scope ce fp) [] (wipe σ (own.map (·.2))) H' s' ∧ tn i s'.heap ∧ (∀ b ∈ fp, H' b = none) ∧ W i n H') ?_ m0 ⟨0, HD, IB, tE, notHeld, w0⟩
    rintro n s5 ⟨i, H5, I5, t5, n5, w5⟩
    rcases turn i n H5 w5 with ⟨stop, fin⟩ | ⟨go, Nx, hNx, step⟩
    · refine thnF (T.done (X.blk sD HD scope ce fp) rfl rfl rfl hc i [] s5 _ H5 (fun _ _ => False) I5 (away I5 n5) t5 stop) fun r s6 ⟨hr, I6⟩ => ?_
      subst hr
      have out : L2.Inv X pins σ H5 s6 := ID.call' (ch := fp) I6.os I6.base I6.hok I6.bare fun b hb => ⟨(fD b hb).1.2.2.2.1, (fD b hb).1.2.1, (fD b hb).1.2.2.2.2.1, (fD b hb).1.2.2.2.2.2⟩
      have nC : H5 sD.heap.objs.size = none := loc ▸ (show H5 ce.locals = none from I6.free)
      obtain ⟨m, hn, _⟩ := I6.loc
      have hn : s6.heap.Ns sD.heap.objs.size m := loc ▸ (show s6.heap.Ns ce.locals m from hn)
      exact hRR D sD.heap.objs.size s6 m H5 out fin hn (ID.fpOk (Nat.le_refl _) nC)
    · refine thnF (T.item (X.blk sD HD scope ce fp) rfl rfl rfl hc i [] s5 _ H5 (fun _ _ => False) I5 (away I5 n5) t5 go) fun r s6 ⟨u, hr, h6⟩ => ?_
      subst hr
      refine thnF h6 fun _ s7 ⟨x, H7, I7, r7, y7, t7, n7⟩ => ?_
      have I7' := I7.pinned (away I7 n7) (T.obj _ _ t7)
      refine thnF (runG.run _ s7 _ H7 x u _ I7' r7 (step x H7 y7)) fun _ s8 ⟨σ8, H8, I8, hw8, q8⟩ => thnF (runT.run _ s8 σ8 H8 _ I8 q8) fun b s9 ⟨H9, I9, q9⟩ => ?_
      have close : ∀ {s' : Shared} {H' : Hp}, L2.Inv (X.blk sD HD scope ce fp) ([] ++ pinsAt fp s7.heap) σ8 H' s' → Nx H' → ∃ m, m < n ∧ ∃ i H', L2.Inv (X.blk sD HD scope ce fp) [] (wipe σ (own.map (·.2))) H' s' ∧ tn i s'.heap ∧ (∀ b ∈ fp, H' b = none) ∧ W i m H' := fun {s' H'} I' nx => by
        obtain ⟨m', hm, w'⟩ := hNx H' nx
        have held : ∀ b ∈ fp, ∀ o, s7.heap.get? b = some o → s'.heap.get? b = some o ∧ H' b = none := fun b hb o e => by
          have z := I'.pin (b, o) (List.mem_append_right _ (List.mem_append_right _ (mem_pinsAt hb e)))
          exact ⟨z.1, z.2.1⟩
        refine ⟨m', hm, i + 1, H', (I'.unpinned (pins := [])).weak (by rw [← hw8, wipe_length]) (fun j v e => ?_), T.keep _ _ _ t7 fun b hb o e => (held b hb o e).1, fun b hb => let ⟨o, e, _⟩ := T.obj _ _ t7 b hb; (held b hb o e).2, w'⟩
        rw [← hw8] at e
        exact (wipe_some e).1
      cases b with
      | false =>
        simp only [Bool.false_eq_true, if_false] at q9 ⊢
        exact close I9 q9
      | true =>
        simp only [if_true] at q9 ⊢
        refine thnF (runK.run _ s9 σ8 H9 _ I9 q9) fun z s10 ⟨yk, H10, I10, r10, q10⟩ => thnF (runV.run _ s10 σ8 H10 _ I10 q10) fun z2 s11 ⟨yv, H11, I11, r11, H12, put, nx⟩ => ?_
        exact dictSetX (X := X.blk sD HD scope ce fp) hu I11 put r10 r11 fun s12 I12 => close I12 nx
  exact codeAny_compStart_dict whole (T.self X.A 0 _ _ _ tE whole)
/-- as a value -/
theorem pe_dcX {kx vx tg iter : Expr} {ifs : List Expr} {scope : Scope} {own : List (Str × Nat)} {pos : Pos} {wi : TI} {g : TG} {tt : TT} {tk tv : TE} (hu : X.A.units < cLine) (hc : X.calm = true) (hN : X.N.Nodup) (hi : PI X tg iter wi) (ok : BlkOk X.N X.env.scope scope own)
    (hg : ∀ (s : Shared) (H : Hp) (C : Addr) (cl : List (Str × Addr)) (fp : List Addr), PG (X.blk s H scope (compEnvC scope cl C X.env) fp) tg g) (ht : ∀ (s : Shared) (H : Hp) (C : Addr) (cl : List (Str × Addr)) (fp : List Addr), PTs (X.blk s H scope (compEnvC scope cl C X.env) fp) ifs tt)
    (hk : ∀ (s : Shared) (H : Hp) (C : Addr) (cl : List (Str × Addr)) (fp : List Addr), PE (X.blk s H scope (compEnvC scope cl C X.env) fp) kx tk) (he : ∀ (s : Shared) (H : Hp) (C : Addr) (cl : List (Str × Addr)) (fp : List Addr), PE (X.blk s H scope (compEnvC scope cl C X.env) fp) vx tv)
    (hs : ∀ x, foldedSetIterable iter X.env x = pure x := by intro _; rfl) : PE X (.DictComp kx vx [⟨tg, iter, ifs, 0⟩] scope pos) (tDcX wi g tt tk tv (own.map (·.2))) := by
  refine ⟨fun pins s σ H Q I h => ?_⟩
  rw [arm_eval_DictComp]
  refine dcX hu hc hN I hi ok hg ht hk he hs h fun D C s' m H' J q hn f => ⟨m, hn, fun h'' sb => ⟨.ref D, H', ?_, rfl, q⟩⟩
  obtain ⟨f0, f1, _, f3, f4, f5⟩ := f
  exact J.turned (t' := s'.toks) (fun b o hb e => (sb.2 b hb).trans e) f0 f1 f3 f4 f5
end
end Dz

set_option maxRecDepth 100000
set_option maxHeartbeats 2000000
namespace Dz
open PySem PySem.Spec PyProof.Rows L2
/-! ## dicts of one's own -/
/-- the thing o is a dict of ds -/
def DicIs (K : PySem.W.Frag) (Z : Hp) (o : HO) (ds : List (D × D)) : Prop := (∃ kvs, o = .dK kvs ∧ RepK K Z kvs ds) ∨ ∃ kvs, kvs ≠ [] ∧ o = .dT kvs ∧ RepT K Z kvs ds
section
variable {K : PySem.W.Frag} {Z Z' H : Hp} {o : HO} {ds : List (D × D)} {p : Addr}
theorem DicIs.mono (h : DicIs K Z o ds) (e : Same Z Z') : DicIs K Z' o ds := h.imp (fun ⟨kvs, a, b⟩ => ⟨kvs, a, b.mono e⟩) fun ⟨kvs, n, a, b⟩ => ⟨kvs, n, a, b.mono e⟩
theorem DicIs.notup (h : DicIs K Z o ds) : ∀ xs, o ≠ .tup xs := fun xs e => by
  rcases h with ⟨kvs, a, _⟩ | ⟨kvs, _, a, _⟩
  · rw [a] at e; cases e
  · rw [a] at e; cases e
theorem DicIs.rep (h : DicIs K Z o ds) (hp : H p = some o) (e : Same Z H) : Rep K H (.ref p) (.dict ds) := by
  rcases h with ⟨kvs, rfl, r⟩ | ⟨kvs, n, rfl, r⟩
  · exact .dK hp (r.mono e)
  · exact .dT hp n (r.mono e)
theorem DicIs.nil : DicIs K Z (.dK []) [] := .inl ⟨[], rfl, .nil⟩
end
/-- a dict of one's own, of still things -/
def mDic : Mode where
  own := fun K Z H v d fp => ∃ p o ds, v = .ref p ∧ d = .dict ds ∧ fp = [p] ∧ H p = some o ∧ DicIs K Z o ds
  frame := fun ⟨p, o, ds, e1, e2, e3, h, r⟩ e k => ⟨p, o, ds, e1, e2, e3, k p (by rw [e3]; simp) _ h, r.mono e⟩
  vis := fun ⟨p, o, ds, e1, e2, e3, h, r⟩ e => by subst e1 e2; exact r.rep h e
  live := fun ⟨p, o, ds, e1, e2, e3, h, r⟩ a ha => by
    rw [e3] at ha
    obtain rfl : a = p := by simpa using ha
    exact ⟨_, h, r.notup⟩
  still := fun ⟨p, o, ds, e1, e2, e3, h, r⟩ Z' e k => by
    subst e1 e2
    have h2 := k p (by rw [e3]; simp) _ h
    rcases r with ⟨kvs, rfl, r⟩ | ⟨kvs, n, rfl, r⟩
    · exact .dK h2 (r.mono e)
    · exact .dT h2 n (r.mono e)
/-! ### a store -/
def putX (ds : List (D × D)) (kd v : D) : R (List (D × D)) := match asDK kd with
  | some k => R.when (okFor ds k && decide (ds.length < sizeLine)) (.ok (putD ds kd k v))
  | none => .no
theorem of_putX {ds es : List (D × D)} {kd v : D} (h : putX ds kd v = .ok es) : ∃ k, asDK kd = some k ∧ okFor ds k = true ∧ ds.length < sizeLine ∧ putD ds kd k v = es := by
  unfold putX at h
  split at h
  · rename_i k e
    obtain ⟨h1, h2⟩ := R.of_when h
    rw [Bool.and_eq_true] at h1
    cases h2
    exact ⟨k, e, h1.1, of_decide_eq_true h1.2, rfl⟩
  · cases h
theorem putX_sem {K : PySem.W.Frag} {Z H : Hp} {p : Addr} {o : HO} {ds es : List (D × D)} {kd v : D} {vk vv : V} (hz : Same Z H) (hp : H p = some o) (r : DicIs K Z o ds) (rk : Rep K Z vk kd) (rv : Rep K Z vv v) (h : putX ds kd v = .ok es) :
    ∃ o', DPutX H p vk vv (upd H p o') ∧ DicIs K Z o' es := by
  obtain ⟨k, hk, ho, hl, rfl⟩ := of_putX h
  cases k with
  | inl k =>
    have ek := asDK_inl hk
    subst ek
    rw [Rep.key1 rk]
    rcases r with ⟨kvs, rfl, r⟩ | ⟨kvs, n, rfl, r⟩
    · exact ⟨_, .inl (DPut.k hp (by rw [r.length]; exact hl)), .inl ⟨_, rfl, r.put rv⟩⟩
    · exact absurd (okFor_T r ho) n
  | inr k =>
    have ek := asDK_inr hk
    subst ek
    obtain ⟨b, rfl, hb⟩ := Rep.keyT rk
    rcases r with ⟨kvs, rfl, r⟩ | ⟨kvs, n, rfl, r⟩
    · cases okFor_K r ho
      cases r
      refine ⟨_, .inr ⟨hp, k, b, rfl, hz _ _ hb, rfl⟩, .inr ⟨_, by simp, rfl, ?_⟩⟩
      exact .cons rv .nil
    · refine ⟨_, .inl (DPut.t hp (hz _ _ hb) (by rw [r.length]; exact hl)), .inr ⟨_, ?_, rfl, r.put rv⟩⟩
      unfold putK
      split
      · cases kvs with
        | nil => exact absurd rfl n
        | cons _ _ => simp
      · simp
/-! ### pure expressions that make one -/
def ODSem (K : PySem.W.Frag) (us : List Nat) (t : TE) (f : Env → R (List (D × D))) : Prop :=
  ∀ (σ : L2.St) (H Z : Hp) (env : Env) (ds : List (D × D)) (Q : VK), Same Z H → EnvU K us Z H σ env → f env = .ok ds →
    (∀ p o Z' H', Gr Z H Z' H' → H p = none → Z' p = none → H' p = some o → DicIs K Z' o ds → Q (.ref p) H') → t σ H Q
structure DOD (X : Cx) (us : List Nat) (e : Expr) (f : Env → R (List (D × D))) : Prop where
  ex : ∃ t, PE X e t ∧ ODSem X.K us t f
def cDict (f : Env → R (List (D × D))) : PF := fun env => (f env).bind fun ds => .ok (.dict ds)
theorem ODSem.p {K : PySem.W.Frag} {us : List Nat} {t : TE} {f : Env → R (List (D × D))} (hs : ODSem K us t f) : PSem K us t (cDict f) := fun σ H Z env d Q hz he2 hf hq => by
  obtain ⟨ds, h1, h2⟩ := R.of_bind hf
  cases h2
  refine hs σ H Z env ds Q hz he2 h1 fun p o Z' H' g n nz hp r => ?_
  refine hq _ _ _ (g.keep n hp) ?_
  have r2 := r.mono (same_upd (o := o) nz)
  exact r2.rep upd_same (Same.refl _)
theorem DOD.p {X : Cx} {us : List Nat} {e : Expr} {f : Env → R (List (D × D))} (h : DOD X us e f) : DP X us e (cDict f) := by
  obtain ⟨t, he, hs⟩ := h.ex
  exact ⟨t, he, hs.p⟩
section
variable {X : Cx} {us : List Nat} {pos : Pos}
def cNewD : Env → R (List (D × D)) := fun _ => .ok []
theorem dod_new : DOD X us (.Dict [] [] pos) cNewD := ⟨_, pe_dnewK, fun σ H Z env ds Q hz he hf hq p np => by
  cases hf
  exact hq p _ Z _ (Gr.own hz np) np (hz.free np) upd_same DicIs.nil⟩
/-- dict(pairs) -/
def mkD : List D → R (List (D × D))
  | [.list ds] => match pairsD false ds with
    | some ps => .ok (mergeD [] ps)
    | none => match pairsD true ds with
      | some ps => .ok (mergeD [] ps)
      | none => .no
  | _ => .no
def cCallD (fa : AF) : Env → R (List (D × D)) := fun env => (fa env).bind mkD
def rDict1 (K : PySem.W.Frag) : List V → Hp → VK → Prop := fun xs H Q => (∃ (a : Addr) (ps : List Addr) (kvs : List (Key × V)), xs = [.ref a] ∧ SqL K H a (ps.map V.ref) ∧ Paired (fun p kv => SqT K H p [kV kv.1, kv.2]) ps kvs ∧
    ∀ p, H p = none → Q (.ref p) (upd H p (.dK (mergeK [] kvs)))) ∨ rDictT K xs H Q
theorem call_dict1 {k : Nat} (hr : RmG k X.A) (hc : X.calm = true) : CallR X (.type "dict") (rDict1 X.K) := (call_dictP hc).or (call_dictT hc (by have := hr.units; omega))
theorem mkD_sem {K : PySem.W.Frag} {H Z : Hp} {xs : List V} {as : List D} {ds : List (D × D)} {Q : VK} (hz : Same Z H) (r : Reps K Z xs as) (h : mkD as = .ok ds)
    (hq : ∀ p o Z' H', Gr Z H Z' H' → H p = none → Z' p = none → H' p = some o → DicIs K Z' o ds → Q (.ref p) H') : rDict1 K xs H Q := by
  unfold mkD at h
  split at h
  · rename_i ds0
    cases r with
    | cons r t =>
      cases t
      cases r with
      | @lst a0 vs0 _ tt q =>
        split at h
        · rename_i ps e
          cases h
          obtain ⟨bs, kvs, rfl, h3, h4⟩ := pairsD_K q e
          refine .inl ⟨a0, bs, kvs, rfl, .inl (.inl (hz _ _ tt)), Paired.mapP h3 fun p kv s => SqT.same hz s, fun p np => ?_⟩
          exact hq p _ Z _ (Gr.own hz np) np (hz.free np) upd_same (.inl ⟨_, rfl, h4 [] [] .nil⟩)
        · split at h
          · rename_i e0 _ ps e
            cases h
            obtain ⟨bs, kvs, rfl, h3, h5, h4⟩ := pairsD_T q e
            refine .inr ⟨a0, bs, kvs, rfl, .inl (.inl (hz _ _ tt)), Paired.mapP h3 fun p kv ⟨b, s1, s2⟩ => ⟨b, SqT.same hz s1, hz _ _ s2⟩, fun p np => ?_⟩
            refine hq p _ Z _ (Gr.own hz np) np (hz.free np) upd_same (.inr ⟨_, ?_, rfl, h4 [] [] .nil⟩)
            cases kvs with
            | nil =>
              cases ds0 with
              | nil => exact nomatch e0
              | cons _ _ => simp at h5
            | cons p kvs => exact mergeT_ne
          · cases h
  · cases h
theorem dod_call {e : Expr} {x : Str} {p : Pos} {fa : AF} {k : Nat} (hr : RmG k X.A) (hc : X.calm = true) (hg : Gl X x) (hm : X.mg x = none) (hb : bootBuiltins x = some (.type "dict")) (ha : DA X us [e] fa) (hn : x ≠ "__name__" := by decide) (hdb : (x == ("__debug__" : Str)) = false := by decide)
    (he : starEach (e :: []) X.env = (false, eval e X.env) :: starEach [] X.env := by rfl) (hpl : (backTo pos (starEach [] X.env)).any (·.1) = false := by rfl) : DOD X us (.Call (.Name x p) [e] [] pos) (cCallD fa) := by
  obtain ⟨t, h1, h2⟩ := ha.ex
  refine ⟨_, pe_callTy (call_dict1 hr hc) hg hm hb h1 hn hdb he hpl, fun σ H Z env ds Q hz he hf hq => ?_⟩
  obtain ⟨as, e1, e2⟩ := R.of_bind hf
  refine h2 σ H Z env as _ hz he e1 fun vs Z1 H1 g1 r1 => ?_
  refine mkD_sem g1.zh r1 e2 fun p o Z2 H2 g2 np nz hp r => hq p o Z2 H2 (g1.trans g2) (g1.hh.free np) nz hp r
theorem v_dict1X {K : PySem.W.Frag} : OpN K (rDict1 K) (fun as => (mkD as).bind fun ds => .ok (.dict ds)) := fun xs H Z as c Q hz r h hq => by
  obtain ⟨ds, e1, e2⟩ := R.of_bind h
  cases e2
  refine mkD_sem hz r e1 fun p o Z' H' g n nz hp r => hq _ _ _ (g.keep n hp) ?_
  exact (r.mono (same_upd (o := o) nz)).rep upd_same (Same.refl _)
def gDictX : List D → R D := fun as => (mkD as).bind fun ds => .ok (.dict ds)
theorem v_dictX {K : PySem.W.Frag} : OpN K (rDict1 K) gDictX := v_dict1X
end
/-! ### comprehensions -/
def dcGo (tgt : GF) (ff : Env → R Bool) (fk fv : PF) (env : Env) : List (D × D) → List D → R (List (D × D))
  | acc, [] => .ok acc
  | acc, d :: ds => (tgt d env).bind fun env1 => (ff env1).bind fun c => if c = true then (fk env1).bind fun k => (fv env1).bind fun v => (putX acc k v).bind fun acc' => dcGo tgt ff fk fv env acc' ds else dcGo tgt ff fk fv env acc ds
def cDc (fi : IF) (vs : List Nat) (tgt : GF) (ff : Env → R Bool) (fk fv : PF) : Env → R (List (D × D)) := fun env => (fi env).bind fun ds => dcGo tgt ff fk fv (wipeE env vs) [] ds
theorem dc_sem {K : PySem.W.Frag} {us : List Nat} {wi : TI} {fi : IF} {sl vs : List Nat} {tgt : GF} {ff : Env → R Bool} {fk fv : PF} (hi : ISem K us wi fi) (hsl : ∀ j, sl.contains j = true → j ∈ vs) :
    ODSem K us (tDcX wi (semG K sl tgt) (semT K us ff) (semP K us fk) (semP K us fv) vs) (cDc fi vs tgt ff fk fv) := by
  intro σ H Z env rs Q hz he hf hq
  obtain ⟨ds, h1, h3⟩ := R.of_bind hf
  refine hi σ H Z env ds _ hz he h1 fun J Z1 H1 g1 ok p np => ?_
  have hew := (he.mono g1).wipe vs
  refine ⟨fun i m H2 => m = ds.length - i ∧ i ≤ ds.length ∧ ∃ Z2 o acc, Gr Z1 H1 Z2 H2 ∧ Z2 p = none ∧ H2 p = some o ∧ DicIs K Z2 o acc ∧ dcGo tgt ff fk fv (wipeE env vs) acc (ds.drop i) = .ok rs,
    ⟨_, rfl, Nat.zero_le _, Z1, _, [], Gr.own g1.zh np, g1.zh.free np, upd_same, DicIs.nil, h3⟩, fun i m H2 hW => ?_⟩
  obtain ⟨rfl, hile, Z2, o, acc, g2, n2, e2, r2, hrest⟩ := hW
  by_cases hlt : i < ds.length
  · refine .inr ⟨ok.go i H2 hlt (g2.zz.trans g2.zh), fun H' => ∃ Z2 o acc, Gr Z1 H1 Z2 H' ∧ Z2 p = none ∧ H' p = some o ∧ DicIs K Z2 o acc ∧ dcGo tgt ff fk fv (wipeE env vs) acc (ds.drop (i + 1)) = .ok rs,
      fun H' hN => ⟨ds.length - (i + 1), by omega, rfl, hlt, hN⟩, fun x H3 y => ?_⟩
    obtain ⟨Z3, d, g3, hd, r3⟩ := ok.yld i H2 x H3 Z2 hlt g2.zz g2.zh y
    have hdrop : ds.drop i = d :: ds.drop (i + 1) := by
      rw [List.drop_eq_getElem_cons hlt]
      rw [List.getElem?_eq_getElem hlt] at hd
      cases hd; rfl
    rw [hdrop] at hrest
    obtain ⟨env1, a1, a2⟩ := R.of_bind hrest
    obtain ⟨c, a3, a4⟩ := R.of_bind a2
    have hw3 := (hew.mono g2).mono g3
    refine ⟨d, Z3, wipeE env vs, env1, g3.zh, r3, hw3.len, a1, fun σ' l1 l2 off on => ?_⟩
    have n3 : Z3 p = none := g3.out n2 e2 r2.notup
    have hws : wipe σ' vs = wipe σ vs := by
      have := wipe_same (σ := wipe σ vs) (σ' := σ') (vs := vs) l1 fun j hj => (off j (by
        cases q : sl.contains j with
        | false => rfl
        | true => exact absurd (hsl j q) hj)).1
      rw [this]
      exact wipe_same (wipe_length _ _) fun j hj => wipe_off hj
    refine ⟨hws, ?_⟩
    have hE := hw3.set g3.zh l1 l2 off on
    refine ⟨Z3, env1, c, g3.zh, hE, a3, fun Z4 H4 g4 => ?_⟩
    have n4 : Z4 p = none := g4.out n3 (g3.hh _ _ e2) r2.notup
    have g24 := g3.trans g4
    cases c with
    | false =>
      rw [if_neg Bool.false_ne_true] at a4
      refine iteF ?_
      exact ⟨Z4, o, acc, g2.trans g24, n4, g24.hh _ _ e2, r2.mono g24.zz, a4⟩
    | true =>
      rw [if_pos rfl] at a4
      refine iteT ?_
      obtain ⟨kd, a5, a6⟩ := R.of_bind a4
      obtain ⟨yv, a7, a8⟩ := R.of_bind a6
      obtain ⟨acc', a9, a10⟩ := R.of_bind a8
      refine ⟨Z4, env1, kd, g4.zh, hE.mono g4, a5, fun uk Z5 H5 g5 r5 => ?_⟩
      refine ⟨Z5, env1, yv, g5.zh, (hE.mono g4).mono g5, a7, fun uv Z6 H6 g6 r6 => ?_⟩
      have g26 := (g24.trans g5).trans g6
      have n6 : Z6 p = none := g26.out n2 e2 r2.notup
      have hd6 : H6 p = some o := g26.hh _ _ e2
      obtain ⟨o', put, r'⟩ := putX_sem g6.zh hd6 (r2.mono g26.zz) (r5.mono g6.zz) r6 a9
      have g := g2.trans g26
      refine ⟨_, put, Z6, o', acc', ?_, n6, upd_same, r', a10⟩
      exact ⟨g.zz, same_upd2 g.zh n6, fun b ob e => by
        rw [upd_ne (ne_of_none e np)]
        exact g.hh b ob e, g.fr⟩
  · have e : i = ds.length := by omega
    subst e
    rw [List.drop_length] at hrest
    cases hrest
    refine .inl ⟨ok.stop H2 (g2.zz.trans g2.zh), ?_⟩
    exact hq p o Z2 H2 (g1.trans g2) (g1.hh.free np) n2 e2 r2
section
variable {X : Cx} {us : List Nat}
theorem dod_dc {kx vx tg iter : Expr} {ifs : List Expr} {scope : Scope} {own : List (Str × Nat)} {pos : Pos} {sl : List Nat} {fi : IF} {tgt : GF} {ff : Env → R Bool} {fk fv : PF} {k : Nat} (hr : RmG k X.A) (hc : X.calm = true) (hN : X.N.Nodup) (hi : DI X us tg iter fi) (ok : BlkOk X.N X.env.scope scope own) (hsl : sl.all (fun j => (own.map (·.2)).contains j) = true)
    (hg : ∀ (s : Shared) (H : Hp) (C : Addr) (cl : List (Str × Addr)) (fp : List Addr), DG (X.blk s H scope (compEnvC scope cl C X.env) fp) tg sl tgt) (ht : ∀ (s : Shared) (H : Hp) (C : Addr) (cl : List (Str × Addr)) (fp : List Addr), DTs (X.blk s H scope (compEnvC scope cl C X.env) fp) us ifs ff)
    (hk : ∀ (s : Shared) (H : Hp) (C : Addr) (cl : List (Str × Addr)) (fp : List Addr), DP (X.blk s H scope (compEnvC scope cl C X.env) fp) us kx fk) (he : ∀ (s : Shared) (H : Hp) (C : Addr) (cl : List (Str × Addr)) (fp : List Addr), DP (X.blk s H scope (compEnvC scope cl C X.env) fp) us vx fv)
    (hs : ∀ x, foldedSetIterable iter X.env x = pure x := by intro _; rfl) : DOD X us (.DictComp kx vx [⟨tg, iter, ifs, 0⟩] scope pos) (cDc fi (own.map (·.2)) tgt ff fk fv) := by
  obtain ⟨w, h1, h2⟩ := hi.ex
  exact ⟨_, pe_dcX (by have := hr.u1; omega) hc hN h1 ok (fun s H C cl fp => (hg s H C cl fp).can) (fun s H C cl fp => (ht s H C cl fp).run) (fun s H C cl fp => (hk s H C cl fp).can) (fun s H C cl fp => (he s H C cl fp).can) hs, dc_sem h2 (sl_of hsl)⟩
/-- x = {..} by a comprehension, x a plain local -/
theorem ps_dcName {i : Nat} {y : Str} {py : Pos} {kx vx tg iter : Expr} {ifs : List Expr} {scope : Scope} {own : List (Str × Nat)} {pos spos : Pos} {sl : List Nat} {fi : IF} {tgt : GF} {ff : Env → R Bool} {fk fv : PF} {k : Nat} (hr : RmG k X.A) (hc : X.calm = true) (hN : X.N.Nodup) (hy : X.N[i]? = some y) (hyl : X.env.scope.names.lookup y = some .local)
    (hsw : swapsWith (.DictComp kx vx [⟨tg, iter, ifs, 0⟩] scope pos) (some (.Name y py)) spos.line X.env = pure true) (hi : DI X us tg iter fi) (ok : BlkOk X.N X.env.scope scope own) (hsl : sl.all (fun j => (own.map (·.2)).contains j) = true)
    (hg : ∀ (s : Shared) (H : Hp) (C : Addr) (cl : List (Str × Addr)) (fp : List Addr), DG (X.blk s H scope (compEnvC scope cl C X.env) fp) tg sl tgt) (ht : ∀ (s : Shared) (H : Hp) (C : Addr) (cl : List (Str × Addr)) (fp : List Addr), DTs (X.blk s H scope (compEnvC scope cl C X.env) fp) us ifs ff)
    (hk : ∀ (s : Shared) (H : Hp) (C : Addr) (cl : List (Str × Addr)) (fp : List Addr), DP (X.blk s H scope (compEnvC scope cl C X.env) fp) us kx fk) (he : ∀ (s : Shared) (H : Hp) (C : Addr) (cl : List (Str × Addr)) (fp : List Addr), DP (X.blk s H scope (compEnvC scope cl C X.env) fp) us vx fv)
    (hs : ∀ x, foldedSetIterable iter X.env x = pure x) : ∃ te, PS X (.Assign [.Name y py] (.DictComp kx vx [⟨tg, iter, ifs, 0⟩] scope pos) spos) (tAsg te (gName i)) ∧ ODSem X.K us te (cDc fi (own.map (·.2)) tgt ff fk fv) := by
  obtain ⟨w, h1, h2⟩ := hi.ex
  refine ⟨_, ⟨fun pins s σ H E I h => ?_⟩, dc_sem h2 (sl_of hsl)⟩
  rw [exec_Assign_Name_used _ _ _ _ hsw]
  refine wpAny_bind (wpAny_standAt (wpAny_bind ?_))
  show wpAny _ X.A (do let _ ← comprehension (.DictComp kx vx [⟨tg, iter, ifs, 0⟩] scope pos) scope X.env (firstIterPos [⟨tg, iter, ifs, 0⟩] pos) newDict false (eval iter X.env) (some (assign (.Name y py) X.env))) _ _ s
  refine wpAny_bind (thn (dcX (Qf := fun _ s' => SP X pins E .next s') (by have := hr.u1; omega) hc hN I h1 ok (fun s H C cl fp => (hg s H C cl fp).can) (fun s H C cl fp => (ht s H C cl fp).run) (fun s H C cl fp => (hk s H C cl fp).can) (fun s H C cl fp => (he s H C cl fp).can) hs h fun L C s' m H' J q hn f => ?_) fun _ s' hq => wpAny_pure (wpAny_pure hq))
  obtain ⟨f0, f1, f2, f3, f4, f5⟩ := f
  show wpAny _ _ (assign (.Name y py) X.env (.ref L)) _ _ _
  refine wpAny_assign_Name (store_ok2 (v := V.ref L) J hN hy (.inl hyl) rfl (fun s2 J2 ⟨a, sb, ha⟩ => ?_) (.inr hyl))
  refine ⟨m, hn.sameBut sb (ha.elim (fun z => by rw [z]; exact f1) fun z e => f4 y a z e.symm), fun h3 sb3 => ⟨_, H', J2.turned (t' := s2.toks) (fun b o hb e => (sb3.2 b hb).trans e) f0 f1 f3 f4 f5, q⟩⟩
end
/-! ### statements -/
def dicAt (env : Env) (i : Nat) : R (List (D × D)) := match env[i]? with
  | some (some (.dict ds)) => .ok ds
  | _ => .no
theorem of_dicAt {env : Env} {i : Nat} {ds : List (D × D)} (h : dicAt env i = .ok ds) : env[i]? = some (some (.dict ds)) := by
  unfold dicAt at h
  split at h
  · cases h; assumption
  · cases h
section
variable {X : Cx} {C : Cf} {i : Nat} {x : Str} {e : Expr} {p' pos tpos : Pos}
theorem EnvOk.dic {K : PySem.W.Frag} {Z0 B Z H : Hp} {σ : L2.St} {env : Env} {fps : Nat → List Addr} {ds : List (D × D)} (I : EnvOk K C Z0 B Z H σ env fps) (hu : C.ms.lookup i = some mDic) (h : env[i]? = some (some (.dict ds))) :
    ∃ p o, σ[i]? = some (some (.ref p)) ∧ H p = some o ∧ DicIs K Z o ds ∧ fps i = [p] := by
  obtain ⟨v, hv, p, o, ds', rfl, e2, e3, h4, h5⟩ := I.own i mDic hu _ h
  cases e2
  exact ⟨p, o, hv, h4, h5, e3⟩
theorem EnvOk.dicSet {K : PySem.W.Frag} {Z0 B Z H : Hp} {σ : L2.St} {env : Env} {fps : Nat → List Addr} {p : Addr} {o : HO} {ds : List (D × D)} (I : EnvOk K C Z0 B Z H σ env fps) (hu : C.ms.lookup i = some mDic) (hv : σ[i]? = some (some (.ref p))) (hp : fps i = [p]) (r : DicIs K Z o ds) :
    EnvOk K C Z0 B Z (upd H p o) σ (env.set i (some (.dict ds))) (setFp fps i [p]) :=
  I.mut hu hv (by rw [hp]; simp) ⟨p, o, ds, rfl, rfl, rfl, upd_same, r⟩ fun a ha => by rw [hp]; exact ha
/-- x = e, a dict of one's own -/
def sSetD (i : Nat) (f : Env → R (List (D × D))) : SF := fun env => (f env).bindP fun ds => .ok (.nx, env.set i (some (.dict ds)))
theorem ssem_setD {K : PySem.W.Frag} {te : TE} {f : Env → R (List (D × D))} (hs : ODSem K C.us te f) (hu : C.ms.lookup i = some mDic) (hp : C.pins.lookup i = none) : SSem K C (tAsg te (gName i)) (sSetD i f) := fun σ Z0 B Z H env fps E I h => by
  obtain ⟨ds, e, h⟩ := post_bindP h
  refine hs σ H Z env ds _ I.zh I.fz e fun p o Z1 H1 g1 np nz hp1 r1 => ?_
  have I1 := I.grow g1
  refine h _ Z1 H1 _ (I1.setO (fp := [p]) hu hp ⟨p, o, ds, rfl, rfl, rfl, hp1, r1⟩ (fun a ha => ?_) fun j a hj ha hm => ?_)
  · obtain rfl : a = p := by simpa using ha
    exact ⟨I.gr.hh.free np, nz⟩
  · obtain rfl : a = p := by simpa using ha
    obtain ⟨_, _, ob, ho, _⟩ := I.fp j a hm
    rw [np] at ho; cases ho
theorem ds_setD {f : Env → R (List (D × D))} (hN : X.N.Nodup) (hi : X.N[i]? = some x) (hx : Loc X.env.scope x) (h : DOD X C.us e f) (hu : C.ms.lookup i = some mDic := by rfl) (hp : C.pins.lookup i = none := by rfl) (hs : swapsWith e (some (.Name x p')) pos.line X.env = pure false := by rfl)
    (hf : X.fn x = true ∨ X.env.scope.names.lookup x = some .local := by first | exact .inl rfl | exact .inr rfl | assumption) : DS X C (.Assign [.Name x p'] e pos) (sSetD i f) := by
  obtain ⟨t, a, b⟩ := h.ex
  exact ⟨_, ps_set hN hi hx a hs hf, ssem_setD b hu hp⟩
theorem sw_trueD {kx vx : Expr} {gs : List Comprehension} {scope : Scope} {pos py : Pos} {y : Str} {l : Nat} {env : PySem.Env} (hk : env.scope.kind = .function) (hy : env.scope.names.lookup y = some .local) (hl : (py.line == pos.line) = true)
    (ha : (scope.names.any fun (n, k) => n == y && (k == .local || k == .cell)) = false) : swapsWith (.DictComp kx vx gs scope pos) (some (.Name y py)) l env = pure true := by
  have ky : env.kindOf y = some .local := hy
  have kb : env.blockKind = .function := by
    unfold PySem.Env.blockKind
    rw [hk]; rfl
  unfold swapsWith
  have hl' : (py.line == (Expr.DictComp kx vx gs scope pos).pos.line) = true := hl
  simp only [kb, ky, hl', ha]
  rfl
theorem ds_dcF {y : Str} {py : Pos} {kx vx tg iter : Expr} {ifs : List Expr} {scope : Scope} {own : List (Str × Nat)} {pos spos : Pos} {sl : List Nat} {fi : IF} {tgt : GF} {ff : Env → R Bool} {fk fv : PF} {k : Nat} (hr : RmG k X.A) (hc : X.calm = true) (hN : X.N.Nodup) (hy : X.N[i]? = some y) (hyl : X.env.scope.names.lookup y = some .local)
    (hsw : swapsWith (.DictComp kx vx [⟨tg, iter, ifs, 0⟩] scope pos) (some (.Name y py)) spos.line X.env = pure true) (hi : DI X C.us tg iter fi) (ok : BlkOk X.N X.env.scope scope own) (hsl : sl.all (fun j => (own.map (·.2)).contains j) = true)
    (hg : ∀ (s : Shared) (H : Hp) (A : Addr) (cl : List (Str × Addr)) (fp : List Addr), DG (X.blk s H scope (compEnvC scope cl A X.env) fp) tg sl tgt) (ht : ∀ (s : Shared) (H : Hp) (A : Addr) (cl : List (Str × Addr)) (fp : List Addr), DTs (X.blk s H scope (compEnvC scope cl A X.env) fp) C.us ifs ff)
    (hk : ∀ (s : Shared) (H : Hp) (A : Addr) (cl : List (Str × Addr)) (fp : List Addr), DP (X.blk s H scope (compEnvC scope cl A X.env) fp) C.us kx fk) (he : ∀ (s : Shared) (H : Hp) (A : Addr) (cl : List (Str × Addr)) (fp : List Addr), DP (X.blk s H scope (compEnvC scope cl A X.env) fp) C.us vx fv)
    (hu : C.us.contains i = false := by rfl) (hp : C.pins.lookup i = none := by rfl) (hs : ∀ x, foldedSetIterable iter X.env x = pure x := by intro _; rfl) :
    DS X C (.Assign [.Name y py] (.DictComp kx vx [⟨tg, iter, ifs, 0⟩] scope pos) spos) (sSet i (cDict (cDc fi (own.map (·.2)) tgt ff fk fv))) := by
  obtain ⟨te, h1, h2⟩ := ps_dcName hr hc hN hy hyl hsw hi ok hsl hg ht hk he hs
  exact ⟨_, h1, ssem_set h2.p hu hp⟩
/-- x[k] = e -/
def sPutD (i : Nat) (fk f : PF) : SF := fun env => (f env).bindP fun d => (fk env).bindP fun k => (dicAt env i).bindP fun ds => (putX ds k d).bindP fun es => .ok (.nx, env.set i (some (.dict es)))
theorem ds_putD {ix : Expr} {fk f : PF} {k : Nat} (hr : RmG k X.A) (hN : X.N[i]? = some x) (hv : Vis X.env.scope x) (h : DP X C.us e f) (hi : DP X C.us ix fk) (hu : C.ms.lookup i = some mDic := by rfl) (hd : (x == ("__debug__" : Str)) = false := by decide) (hcd : (x == ("__classdict__" : Str)) = false := by decide)
    (ha : ∀ v, assign (.Subscript (.Name x p') ix tpos) X.env v = (do
      let ov ← holding [v] (eval (.Name x p') X.env)
      let iv ← holding [v, ov] (eval ix X.env)
      standAt tpos
      holding [v, ov, iv] (setItem ov iv v)
      release [v, ov, iv] []) := by intro _; rfl)
    (hs : swapsWithSole [.Subscript (.Name x p') ix tpos] e pos.line X.env = pure false := by rfl) (hw : swappedStores [.Subscript (.Name x p') ix tpos] e X.env = pure none := by rfl)
    (h1 : (assignEach [.Subscript (.Name x p') ix tpos] X.env).map (·.2) = [assign (.Subscript (.Name x p') ix tpos) X.env] := by rfl) :
    DS X C (.Assign [.Subscript (.Name x p') ix tpos] e pos) (sPutD i fk f) := by
  obtain ⟨t, a, b⟩ := h.ex
  obtain ⟨u, c, d⟩ := hi.ex
  refine ⟨_, ps_asg a (pg_sub (pe_var hN hv hd hcd) c (set_dict hr.u1) ha) hs hw h1, fun σ Z0 B Z H env fps E I hp => ?_⟩
  obtain ⟨dv, e1, hp⟩ := post_bindP hp
  obtain ⟨dk, e2, hp⟩ := post_bindP hp
  obtain ⟨ds, e3, hp⟩ := post_bindP hp
  obtain ⟨es, e4, hp⟩ := post_bindP hp
  refine b σ H Z env dv _ I.zh I.fz e1 fun v Z1 H1 g1 r1 => ?_
  have I1 := I.grow g1
  obtain ⟨q, o, hσ, hH, r, hfp⟩ := I1.dic hu (of_dicAt e3)
  refine ⟨_, hσ, d σ H1 Z1 env dk _ I1.zh I1.fz e2 fun w Z2 H2 g2 r2 => ?_⟩
  have I2 := I1.grow g2
  obtain ⟨o', put, r'⟩ := putX_sem g2.zh (g2.hh _ _ hH) (r.mono g2.zz) r2 (r1.mono g2.zz) e4
  exact ⟨q, _, rfl, put, hp σ Z2 _ _ (I2.dicSet hu hσ hfp r')⟩
/-- .. with expressions that change a source -/
def ePutD (i : Nat) (fk f : EF) : SF := fun env => (f env).bindP fun d => (dicAt d.2 i).bindP fun _ => (fk d.2).bindP fun k => (dicAt k.2 i).bindP fun ds => (putX ds k.1 d.1).bindP fun es => .ok (.nx, k.2.set i (some (.dict es)))
theorem ds_putDE {ix : Expr} {fk f : EF} {k : Nat} (hr : RmG k X.A) (hN : X.N[i]? = some x) (hv : Vis X.env.scope x) (h : DE X C e f) (hi : DE X C ix fk) (hu : C.ms.lookup i = some mDic := by rfl) (hd : (x == ("__debug__" : Str)) = false := by decide) (hcd : (x == ("__classdict__" : Str)) = false := by decide)
    (ha : ∀ v, assign (.Subscript (.Name x p') ix tpos) X.env v = (do
      let ov ← holding [v] (eval (.Name x p') X.env)
      let iv ← holding [v, ov] (eval ix X.env)
      standAt tpos
      holding [v, ov, iv] (setItem ov iv v)
      release [v, ov, iv] []) := by intro _; rfl)
    (hs : swapsWithSole [.Subscript (.Name x p') ix tpos] e pos.line X.env = pure false := by rfl) (hw : swappedStores [.Subscript (.Name x p') ix tpos] e X.env = pure none := by rfl)
    (h1 : (assignEach [.Subscript (.Name x p') ix tpos] X.env).map (·.2) = [assign (.Subscript (.Name x p') ix tpos) X.env] := by rfl) :
    DS X C (.Assign [.Subscript (.Name x p') ix tpos] e pos) (ePutD i fk f) := by
  obtain ⟨t, a, b⟩ := h.ex
  obtain ⟨u, c, d⟩ := hi.ex
  refine ⟨_, ps_asg a (pg_sub (pe_var hN hv hd hcd) c (set_dict hr.u1) ha) hs hw h1, fun σ Z0 B Z H env fps E I hp => ?_⟩
  obtain ⟨⟨dv, env1⟩, e1, hp⟩ := post_bindP hp
  obtain ⟨ds0, e0, hp⟩ := post_bindP hp
  obtain ⟨⟨dk, env2⟩, e2, hp⟩ := post_bindP hp
  obtain ⟨ds, e3, hp⟩ := post_bindP hp
  obtain ⟨es, e4, hp⟩ := post_bindP hp
  refine b σ Z0 B Z H env fps dv env1 _ I e1 fun v Z1 H1 fps1 I1 s1 r1 => ?_
  obtain ⟨q, o, hσ, hH, r, hfp⟩ := I1.dic hu (of_dicAt e0)
  refine ⟨_, hσ, d σ Z0 B Z1 H1 env1 fps1 _ env2 _ I1 e2 fun w Z2 H2 fps2 I2 s2 r2 => ?_⟩
  obtain ⟨q2, o2, hσ2, hH2, r3, hfp2⟩ := I2.dic hu (of_dicAt e3)
  obtain rfl : q2 = q := by
    rw [hσ] at hσ2
    injection hσ2 with hσ2
    injection hσ2 with hσ2
    injection hσ2 with hσ2
    exact hσ2.symm
  obtain ⟨o', put, r'⟩ := putX_sem I2.zh hH2 r3 r2 (r1.mono s2) e4
  exact ⟨q2, _, rfl, put, hp σ Z2 _ _ (I2.dicSet hu hσ2 hfp2 r')⟩
/-- return x, a thing of one's own: it is still from then on -/
def ownAt (env : Env) (i : Nat) : R D := match env[i]? with
  | some (some d) => .ok d
  | _ => .no
def sRetM (i : Nat) : SF := fun env => (ownAt env i).bindP fun d => .ok (.rt d, env.set i none)
theorem ds_retM {m : Mode} (hN : X.N[i]? = some x) (hv : Vis X.env.scope x) (hu : C.ms.lookup i = some m) (h1 : ∀ {K Z H v d fp}, m.own K Z H v d fp → ∃ p, v = .ref p ∧ fp = [p]) (hm : C.rm = mF := by rfl)
    (hd : (x == ("__debug__" : Str)) = false := by decide) (hcd : (x == ("__classdict__" : Str)) = false := by decide) : DS X C (.Return (some (.Name x p')) pos) (sRetM i) := by
  refine ⟨_, ps_ret (pe_var hN hv hd hcd), fun σ Z0 B Z H env fps E I h => ?_⟩
  obtain ⟨d, e1, h⟩ := post_bindP h
  have e2 : env[i]? = some (some d) := by
    unfold ownAt at e1
    split at e1
    · cases e1; assumption
    · cases e1
  obtain ⟨v, hσ, ho⟩ := I.own i m hu d e2
  obtain ⟨q, rfl, hfp⟩ := h1 ho
  obtain ⟨nb, nz, o, hH, nt⟩ := I.fp i q (by rw [hfp]; exact List.mem_singleton.mpr rfl)
  have nf : ∀ j, q ∉ setFp fps i [] j := fun j hm => by
    unfold setFp at hm
    split at hm
    · cases hm
    · rename_i hne
      exact hne (I.dj j i q hm (by rw [hfp]; exact List.mem_singleton.mpr rfl))
  have I2 := (I.drop1 i).still1 nb nz nf hH
  refine ⟨_, hσ, h (.ref q) σ _ H _ [] I2 ?_ (fun _ z => by cases z) fun _ _ z => by cases z⟩
  rw [hm]
  refine ⟨rfl, m.still ho _ (same_upd nz) fun a ha ob hob => ?_⟩
  rw [hfp] at ha
  obtain rfl : a = q := by simpa using ha
  rw [hH] at hob
  cases hob
  exact upd_same
theorem one_mL {K : PySem.W.Frag} {Z H : Hp} {v : V} {d : D} {fp : List Addr} (h : mL.own K Z H v d fp) : ∃ p, v = .ref p ∧ fp = [p] := by
  obtain ⟨p, vs, ds, e1, e2, e3, _⟩ := h
  exact ⟨p, e1, e3⟩
theorem one_mDic {K : PySem.W.Frag} {Z H : Hp} {v : V} {d : D} {fp : List Addr} (h : mDic.own K Z H v d fp) : ∃ p, v = .ref p ∧ fp = [p] := by
  obtain ⟨p, vs, ds, e1, e2, e3, _⟩ := h
  exact ⟨p, e1, e3⟩
/-- a dict among values of one's own -/
def eDict (f : Env → R (List (D × D))) : EF := fun env => (f env).bind fun ds => .ok (.dict ds, env)
theorem DOD.ov {f : Env → R (List (D × D))} (h : DOD X C.us e f) : DOv X C mDic e (eDict f) := by
  obtain ⟨t, a, b⟩ := h.ex
  refine ⟨t, a, fun σ Z0 B Z H env fps d env' Q I hf hq => ?_⟩
  obtain ⟨ds, e1, e2⟩ := R.of_bind hf
  cases e2
  refine b σ H Z env ds Q I.zh I.fz e1 fun p o Z1 H1 g1 np nz hp r => hq _ Z1 H1 fps [p] (I.grow g1) g1.zz ⟨p, o, ds, rfl, rfl, rfl, hp, r⟩ ⟨fun a ha => ?_, fun a ha => ?_, fun a ha j hj => ?_, fun a ha => ?_⟩
  all_goals obtain rfl : a = p := by simpa using ha
  · exact I.gr.hh.free np
  · exact nz
  · obtain ⟨_, _, ob, ho, _⟩ := I.fp j a hj
    rw [np] at ho; cases ho
  · exact ⟨_, hp, r.notup⟩
end
/-! ### d.get -/
def gGetD : D → List D → R D
  | .dict ds, [k] => (lookD ds k).bind fun o => .ok (o.getD .none)
  | .dict ds, [k, d] => (lookD ds k).bind fun o => .ok (o.getD d)
  | _, _ => .no
def cGetD (f : PF) (fa : AF) : PF := fun env => (f env).bind fun d => (fa env).bind fun as => gGetD d as
theorem tyV_dict {K : PySem.W.Frag} {Z H : Hp} {v : V} {ds : List (D × D)} (hz : Same Z H) (r : Rep K Z v (.dict ds)) : tyV K "dict" v H := by
  cases r with
  | dK e _ => exact .inr (.inr (.inl ⟨rfl, .inl ⟨_, hz _ _ e⟩⟩))
  | dT e _ _ => exact .inr (.inr (.inl ⟨rfl, .inr ⟨_, hz _ _ e⟩⟩))
section
variable {X : Cx} {us : List Nat} {o e : Expr} {es : List Expr} {f : PF} {fa : AF} {apos cpos : Pos} {k : Nat}
theorem dp_get (hr : RmG k X.A) (ho : DP X us o f) (h : DA X us (e :: es) fa)
    (he : starEach (e :: es) X.env = (false, eval e X.env) :: starEach es X.env := by rfl) (hbase : attributeBase o "get" X.env (eval o X.env) = eval o X.env := by rfl) (hfew : ((backTo cpos (starEach (e :: es) X.env)).all (fun x => !x.1) && (backToKw cpos (keywordEach [] X.env)).all (fun x => x.1.isSome) && decide ((e :: es).length + ([] : List Keyword).length + (if ([] : List Keyword).isEmpty then 0 else 1) < 30)) = true := by rfl) (hline : (apos.endLine == cpos.line) = true := by rfl) (hpl : (backTo cpos (starEach es X.env)).any (·.1) = false := by rfl) :
    DP X us (.Call (.Attribute o "get" apos) (e :: es) [] cpos) (cGetD f fa) := by
  obtain ⟨t, h1, h2⟩ := ho.ex
  obtain ⟨u, h3, h4⟩ := h.ex
  refine ⟨_, pe_bm PySem.F.plainAttrs_dict PySem.F.slot_dict_get PySem.F.type_dict_get (mt_getD hr.u1) h1 h3 hbase hfew hline he hpl, fun σ H Z env d Q hz hen hf hq => ?_⟩
  obtain ⟨dd, e1, hf⟩ := R.of_bind hf
  obtain ⟨as, e2, hf⟩ := R.of_bind hf
  refine h2 σ H Z env dd _ hz hen e1 fun v Z1 H1 g1 r1 => ?_
  unfold gGetD at hf
  split at hf
  · rename_i ds kd
    refine ⟨tyV_dict g1.zh r1, h4 σ H1 Z1 env _ _ g1.zh (hen.mono g1) e2 fun vs Z2 H2 g2 r2 => ?_⟩
    obtain ⟨op, e3, e4⟩ := R.of_bind hf
    cases e4
    obtain ⟨kk, a1, a2, a3⟩ := of_lookD e3
    cases r2 with
    | cons rk t =>
      cases t
      obtain ⟨p, ov, rfl, g, b1, b2⟩ := find_sem g2.zh (r1.mono g2.zz) rk a1 a2
      refine ⟨p, rfl, .inl ⟨_, ov, rfl, g, ?_⟩⟩
      cases op with
      | none =>
        rw [b2 a3]
        exact hq _ _ _ (g1.trans g2) .non
      | some d0 =>
        obtain ⟨v0, c1, c2, _⟩ := b1 _ a3
        rw [c1]
        exact hq _ _ _ (g1.trans g2) c2
  · rename_i ds kd dd0
    refine ⟨tyV_dict g1.zh r1, h4 σ H1 Z1 env _ _ g1.zh (hen.mono g1) e2 fun vs Z2 H2 g2 r2 => ?_⟩
    obtain ⟨op, e3, e4⟩ := R.of_bind hf
    cases e4
    obtain ⟨kk, a1, a2, a3⟩ := of_lookD e3
    cases r2 with
    | cons rk t =>
      cases t with
      | cons rd t =>
        cases t
        obtain ⟨p, ov, rfl, g, b1, b2⟩ := find_sem g2.zh (r1.mono g2.zz) rk a1 a2
        refine ⟨p, rfl, .inr ⟨_, _, ov, rfl, g, ?_⟩⟩
        cases op with
        | none =>
          rw [b2 a3]
          exact hq _ _ _ (g1.trans g2) rd
        | some d0 =>
          obtain ⟨v0, c1, c2, _⟩ := b1 _ a3
          rw [c1]
          exact hq _ _ _ (g1.trans g2) c2
  · cases hf
end
/-! ### d[k] -/
section
variable {X : Cx} {C : Cf} {us : List Nat} {a b : Expr} {fa fb : PF} {ea eb : EF} {pos : Pos} {k : Nat}
theorem dp_ixX (hr : RmG k X.A) (ha : DP X us a fa) (hb : DP X us b fb) (hs : PlainIx b := by exact fun _ _ => rfl) : DP X us (.Subscript a b pos) (cBin gIxX fa fb) := by
  obtain ⟨ta, h1, h2⟩ := ha.ex
  obtain ⟨tb, h3, h4⟩ := hb.ex
  exact ⟨_, pe_ix (ix_X hr) h1 h3 hs, psem_op v_ixX h2 h4⟩
theorem de_ixX (hr : RmG k X.A) (ha : DE X C a ea) (hb : DE X C b eb) (hs : PlainIx b := by exact fun _ _ => rfl) : DE X C (.Subscript a b pos) (eBin gIxX ea eb) := by
  obtain ⟨ta, h1, h2⟩ := ha.ex
  obtain ⟨tb, h3, h4⟩ := hb.ex
  exact ⟨_, pe_ix (ix_X hr) h1 h3 hs, esem_op v_ixX h2 h4⟩
end
end Dz
namespace Dz
open PySem PySem.Spec PyProof.Rows L2
/-! ## sorted(x), list(x), as fresh lists -/
section
variable {X : Cx} {us : List Nat} {e : Expr} {x : Str} {p pos : Pos} {fa : AF} {k : Nat}
def sortL : List D → R (List D)
  | [.list ds] => R.when (sortOk2 ds) (.ok (sortD ds))
  | [.tuple ds] => R.when (sortOk2 ds) (.ok (sortD ds))
  | [.dict ds] => R.when (sortOk2 (keysD ds)) (.ok (sortD (keysD ds)))
  | _ => .no
def cSortL (fa : AF) : Env → R (List D) := fun env => (fa env).bind sortL
def listL : List D → R (List D)
  | [.dict ds] => .ok (keysD ds)
  | [.list ds] => .ok ds
  | [.tuple ds] => .ok ds
  | _ => .no
def cListL (fa : AF) : Env → R (List D) := fun env => (fa env).bind listL
theorem sortL_sem {K : PySem.W.Frag} {H Z : Hp} {xs : List V} {as rs : List D} {Q : VK} (hz : Same Z H) (r : Reps K Z xs as) (h : sortL as = .ok rs)
    (hq : ∀ p vs Z' H', Gr Z H Z' H' → H p = none → Z' p = none → H' p = some (.lst vs) → Reps K Z' vs rs → Q (.ref p) H') : rSortV K xs H Q := by
  unfold sortL at h
  split at h
  · rename_i ds
    obtain ⟨h1, h2⟩ := R.of_when h
    cases h2
    cases r with
    | cons r t =>
      cases t
      cases r with
      | @lst a0 vs0 _ tt q =>
        obtain ⟨z1, z2, z3⟩ := zip_reps q
        refine .inl ⟨_, vs0.zip ds, rfl, .inl (by rw [z1]; exact .inl (.inl (hz _ _ tt))), fun z hzm => ?_, by rw [z2]; exact h1, fun p np => ?_⟩
        · refine (z3 z hzm).dp hz (SeqAt.canLay_of_shaped (sortOk2_shaped h1 _ ?_))
          have := List.mem_map_of_mem (f := (·.2)) hzm
          rw [z2] at this
          exact this
        · have r2 := sortZ_reps z3
          rw [z2] at r2
          exact hq p _ Z _ (Gr.own hz np) np (hz.free np) upd_same r2
  · rename_i ds
    obtain ⟨h1, h2⟩ := R.of_when h
    cases h2
    cases r with
    | cons r t =>
      cases t
      cases r with
      | @tup a0 vs0 _ tt q =>
        obtain ⟨z1, z2, z3⟩ := zip_reps q
        refine .inl ⟨_, vs0.zip ds, rfl, .inr (by rw [z1]; exact same_seqT hz tt), fun z hzm => ?_, by rw [z2]; exact h1, fun p np => ?_⟩
        · refine (z3 z hzm).dp hz (SeqAt.canLay_of_shaped (sortOk2_shaped h1 _ ?_))
          have := List.mem_map_of_mem (f := (·.2)) hzm
          rw [z2] at this
          exact this
        · have r2 := sortZ_reps z3
          rw [z2] at r2
          exact hq p _ Z _ (Gr.own hz np) np (hz.free np) upd_same r2
  · rename_i ds
    obtain ⟨h1, h2⟩ := R.of_when h
    cases h2
    cases r with
    | cons r t =>
      cases t
      cases r with
      | @dK a kvs _ e q =>
        rw [q.keysD] at h1 hq
        refine .inr (.inl ⟨_, kvs, rfl, hz _ _ e, h1, fun p np => ?_⟩)
        have r2 := sortZ_reps (K := K) (Z := Z) (zs := kvs.map fun kv => (kV kv.1, kD kv.1)) fun z hzm => by
          obtain ⟨kv, _, rfl⟩ := List.mem_map.mp hzm
          exact rep_kD kv.1
        have e2 : (kvs.map fun kv => (kV kv.1, kD kv.1)).map (·.2) = kvs.map fun kv => kD kv.1 := by rw [List.map_map]; rfl
        rw [e2] at r2
        exact hq p _ Z _ (Gr.own hz np) np (hz.free np) upd_same r2
      | @dT a kvs _ e n q =>
        rw [q.keysD] at h1 hq
        refine .inr (.inr ⟨_, kvs, rfl, hz _ _ e, h1, fun p bs np ik => ?_⟩)
        obtain ⟨p1, p2, p3⟩ := paired_zip ik
        have gt := tupsOf_gr hz
        have r2 := sortZ_reps (K := K) (Z := tupsOf Z H) (zs := (bs.map V.ref).zip (kvs.map fun kv => keyD kv.1)) fun z hzm => by
          obtain ⟨k, b, rfl, hb⟩ := p3 z hzm
          exact rep_keyT hz hb
        rw [p2] at r2
        exact hq p _ _ _ (gt.trans (Gr.own gt.zh np)) np (gt.zh.free np) upd_same r2
  · cases h
theorem do_sortV (hr : RmG k X.A) (hg : Gl X "sorted") (hm : X.mg "sorted" = none) (ha : DA X us [e] fa) (hc : X.calm = true := by rfl) (he : starEach (e :: []) X.env = (false, eval e X.env) :: starEach [] X.env := by rfl) (hpl : (backTo pos (starEach [] X.env)).any (·.1) = false := by rfl) :
    DO X us (.Call (.Name "sorted" p) [e] [] pos) (cSortL fa) := by
  obtain ⟨t, h1, h2⟩ := ha.ex
  refine ⟨_, pe_callB (cr_sortV hr hc) hg hm (by decide +kernel) h1 (by decide) (by decide) he hpl, fun σ H Z env rs Q hz hen hf hq => ?_⟩
  obtain ⟨as, e1, e2⟩ := R.of_bind hf
  refine h2 σ H Z env as _ hz hen e1 fun vs Z1 H1 g1 r1 => ?_
  exact sortL_sem g1.zh r1 e2 fun p vs Z' H' g n nz hp r => hq p vs Z' H' (g1.trans g) (g1.hh.free n) nz hp r
theorem listL_sem {K : PySem.W.Frag} {H Z : Hp} {xs : List V} {as rs : List D} {Q : VK} (hz : Same Z H) (r : Reps K Z xs as) (h : listL as = .ok rs)
    (hq : ∀ p vs Z' H', Gr Z H Z' H' → H p = none → Z' p = none → H' p = some (.lst vs) → Reps K Z' vs rs → Q (.ref p) H') : rListV K xs H Q := by
  unfold listL at h
  split at h
  · cases h
    cases r with
    | cons r t =>
      cases t
      cases r with
      | @dK a kvs _ e q =>
        rw [q.keysD] at hq
        exact .inr (.inl ⟨_, kvs, rfl, .inl (hz _ _ e), fun p np => hq p _ Z _ (Gr.own hz np) np (hz.free np) upd_same reps_keysK⟩)
      | @dT a kvs _ e n q =>
        rw [q.keysD] at hq
        refine .inr (.inr ⟨_, kvs, rfl, .inl (hz _ _ e), fun p bs np ik => ?_⟩)
        have gt := tupsOf_gr hz
        exact hq p _ _ _ (gt.trans (Gr.own gt.zh np)) np (gt.zh.free np) upd_same (reps_keysT hz ik)
  · cases h
    cases r with
    | cons r t =>
      cases t
      cases r with
      | lst tt q => exact .inl ⟨_, _, rfl, .inl (.inl (.inl (hz _ _ tt))), fun p np => hq p _ Z _ (Gr.own hz np) np (hz.free np) upd_same q⟩
  · cases h
    cases r with
    | cons r t =>
      cases t
      cases r with
      | tup tt q => exact .inl ⟨_, _, rfl, .inr (same_seqT hz tt), fun p np => hq p _ Z _ (Gr.own hz np) np (hz.free np) upd_same q⟩
  · cases h
theorem do_listV (hc : X.calm = true) (hg : Gl X "list") (hm : X.mg "list" = none) (ha : DA X us [e] fa) (he : starEach (e :: []) X.env = (false, eval e X.env) :: starEach [] X.env := by rfl) (hpl : (backTo pos (starEach [] X.env)).any (·.1) = false := by rfl) :
    DO X us (.Call (.Name "list" p) [e] [] pos) (cListL fa) := by
  obtain ⟨t, h1, h2⟩ := ha.ex
  refine ⟨_, pe_callTy (call_listV hc) hg hm (by decide +kernel) h1 (by decide) (by decide) he hpl, fun σ H Z env rs Q hz hen hf hq => ?_⟩
  obtain ⟨as, e1, e2⟩ := R.of_bind hf
  refine h2 σ H Z env as _ hz hen e1 fun vs Z1 H1 g1 r1 => ?_
  exact listL_sem g1.zh r1 e2 fun p vs Z' H' g n nz hp r => hq p vs Z' H' (g1.trans g) (g1.hh.free n) nz hp r
end
end Dz

set_option maxRecDepth 100000
set_option maxHeartbeats 2000000
namespace Dz
open PySem PySem.Spec PyProof.Rows L2
/-! ## dicts, plainly -/
/-- c tells things as keys of one sort -/
def KeyFn {α : Type} (c : α → D) : Prop := ∃ f : α → DK, (∀ a, asDK (c a) = some (f a)) ∧ (∀ a b, f a = f b → a = b) ∧ ∀ a b, isDT (f a) = isDT (f b)
theorem asKs_ints : ∀ w : List Int, asKs (w.map PyData.int) = some (w.map Sum.inl)
  | [] => rfl
  | x :: w => by
    rw [List.map_cons, List.map_cons, asKs, asKs_ints w]
    rfl
theorem map_inl_inj : ∀ {a b : List Int}, a.map (Sum.inl (β := Str)) = b.map Sum.inl → a = b
  | [], [], _ => rfl
  | x :: a, y :: b, h => by
    rw [List.map_cons, List.map_cons, List.cons.injEq] at h
    rw [Sum.inl.inj h.1, map_inl_inj h.2]
  | [], _ :: _, h => by simp at h
  | _ :: _, [], h => by simp at h
theorem kf_w : KeyFn wD := ⟨fun w => .inr (w.map Sum.inl), fun w => by
  show (asKs (w.map PyData.int)).map Sum.inr = _
  rw [asKs_ints]; rfl, fun a b h => map_inl_inj (Sum.inr.inj h), fun _ _ => rfl⟩
theorem kf_i : KeyFn PyData.int := ⟨fun i => .inl (.inl i), fun i => rfl, fun a b h => Sum.inl.inj (Sum.inl.inj h), fun _ _ => rfl⟩
theorem kf_n : KeyFn (fun n : Nat => PyData.int (n : Int)) := ⟨fun i => .inl (.inl (i : Int)), fun i => rfl, fun a b h => Int.ofNat.inj (Sum.inl.inj (Sum.inl.inj h)), fun _ _ => rfl⟩
theorem KeyFn.comp {α β : Type} {c : β → D} (h : KeyFn c) {g : α → β} (hg : ∀ a b, g a = g b → a = b) : KeyFn (fun a => c (g a)) := by
  obtain ⟨f, h1, h2, h3⟩ := h
  exact ⟨fun a => f (g a), fun a => h1 _, fun a b e => hg _ _ (h2 _ _ e), fun a b => h3 _ _⟩
section
variable {α : Type} [DecidableEq α] {c : α → D}
def dK (c : α → D) (kvs : List (α × D)) : List (D × D) := kvs.map fun p => (c p.1, p.2)
def getA (kvs : List (α × D)) (a : α) : Option D := (kvs.find? fun p => decide (p.1 = a)).map (·.2)
def putA (kvs : List (α × D)) (a : α) (v : D) : List (α × D) := if (getA kvs a).isSome = true then kvs.map (fun p => if p.1 = a then (p.1, v) else p) else kvs ++ [(a, v)]
theorem findD_k (h : KeyFn c) {f : α → DK} (h1 : ∀ a, asDK (c a) = some (f a)) (h2 : ∀ a b, f a = f b → a = b) (a : α) : ∀ kvs : List (α × D), findD (dK c kvs) (f a) = getA kvs a
  | [] => rfl
  | p :: kvs => by
    unfold dK getA
    rw [List.map_cons, findD, List.find?_cons]
    by_cases e : p.1 = a
    · rw [if_pos (by rw [h1, e]), decide_eq_true e]; rfl
    · rw [if_neg (by rw [h1]; exact fun q => e (h2 _ _ (Option.some.inj q))), decide_eq_false e]
      exact findD_k h h1 h2 a kvs
theorem okFor_k {f : α → DK} (h1 : ∀ a, asDK (c a) = some (f a)) (h3 : ∀ a b, isDT (f a) = isDT (f b)) (a : α) : ∀ kvs : List (α × D), okFor (dK c kvs) (f a) = true
  | [] => rfl
  | p :: kvs => by
    show okFor ((c p.1, p.2) :: _) (f a) = true
    unfold okFor
    have e := h1 p.1
    have e3 := h3 p.1 a
    simp only [e]
    cases q : f p.1 with
    | inl x =>
      cases q2 : f a with
      | inl y => rfl
      | inr y => rw [q, q2] at e3; cases e3
    | inr x =>
      cases q2 : f a with
      | inl y => rw [q, q2] at e3; cases e3
      | inr y => rfl
theorem lookD_k (h : KeyFn c) (kvs : List (α × D)) (a : α) : lookD (dK c kvs) (c a) = .ok (getA kvs a) := by
  have hh := h
  obtain ⟨f, h1, h2, h3⟩ := h
  unfold lookD
  rw [h1]
  show R.when (okFor (dK c kvs) (f a)) _ = _
  rw [okFor_k h1 h3, findD_k hh h1 h2]; rfl
theorem gInX_k (h : KeyFn c) {kvs : List (α × D)} {a : α} : gInX false (c a) (.dict (dK c kvs)) = .ok (.bool (getA kvs a).isSome) := by
  rw [gInX_d]
  show (lookD (dK c kvs) (c a)).bind _ = _
  rw [lookD_k h]; rfl
theorem gNotInX_k (h : KeyFn c) {kvs : List (α × D)} {a : α} : gInX true (c a) (.dict (dK c kvs)) = .ok (.bool (!(getA kvs a).isSome)) := by
  rw [gInX_d]
  show (lookD (dK c kvs) (c a)).bind _ = _
  rw [lookD_k h]; rfl
theorem gIxX_k (h : KeyFn c) {kvs : List (α × D)} {a : α} {v : D} (hv : getA kvs a = some v) : gIxX (.dict (dK c kvs)) (c a) = .ok v := by
  rw [gIxX_d]
  show (lookD (dK c kvs) (c a)).bind _ = _
  rw [lookD_k h, hv]; rfl
theorem gGet2_k (h : KeyFn c) {kvs : List (α × D)} {a : α} {v : D} : gGetD (.dict (dK c kvs)) [c a, v] = .ok ((getA kvs a).getD v) := by
  show (lookD (dK c kvs) (c a)).bind _ = _
  rw [lookD_k h]; rfl
theorem gGet1_k (h : KeyFn c) {kvs : List (α × D)} {a : α} : gGetD (.dict (dK c kvs)) [c a] = .ok ((getA kvs a).getD .none) := by
  show (lookD (dK c kvs) (c a)).bind _ = _
  rw [lookD_k h]; rfl
theorem putX_k (h : KeyFn c) {kvs : List (α × D)} {a : α} {v : D} (hz : kvs.length < sizeLine) : putX (dK c kvs) (c a) v = .ok (dK c (putA kvs a v)) := by
  have hh := h
  obtain ⟨f, h1, h2, h3⟩ := h
  unfold putX
  rw [h1]
  show R.when (okFor (dK c kvs) (f a) && decide ((dK c kvs).length < sizeLine)) _ = _
  rw [okFor_k h1 h3, decide_eq_true (by unfold dK; rw [List.length_map]; exact hz)]
  show R.ok _ = _
  refine congrArg R.ok ?_
  unfold putD putA
  rw [findD_k hh h1 h2]
  split
  · unfold dK
    rw [List.map_map, List.map_map]
    apply List.map_congr_left
    intro p _
    show (if asDK (c p.1) = some (f a) then _ else _) = _
    rw [h1]
    show _ = (c (if p.1 = a then (p.1, v) else p).1, (if p.1 = a then (p.1, v) else p).2)
    by_cases e : p.1 = a
    · rw [if_pos (by rw [e]), if_pos e]
    · rw [if_neg (fun q => e (h2 _ _ (Option.some.inj q))), if_neg e]
  · unfold dK
    rw [List.map_append]; rfl
theorem gLen_dK {kvs : List (α × D)} : gLen [.dict (dK c kvs)] = .ok (.int (kvs.length : Nat)) := by
  show R.ok (PyData.int ((dK c kvs).length : Int)) = _
  unfold dK
  rw [List.length_map]
theorem keysD_k {kvs : List (α × D)} : keysD (dK c kvs) = (kvs.map (·.1)).map c := by
  unfold keysD dK
  rw [List.map_map, List.map_map]; rfl
/-! sets: all the values alike -/
def dS (c : α → D) (v : D) (ws : List α) : List (D × D) := dK c (ws.map fun a => (a, v))
def insA (ws : List α) (a : α) : List α := if a ∈ ws then ws else ws ++ [a]
def nub (l : List α) : List α := l.foldl insA []
theorem getA_s {v : D} {a : α} : ∀ ws : List α, getA (ws.map fun a => (a, v)) a = if a ∈ ws then some v else none
  | [] => rfl
  | x :: ws => by
    have ih := getA_s (v := v) (a := a) ws
    unfold getA at ih ⊢
    rw [List.map_cons, List.find?_cons]
    by_cases e : x = a
    · rw [decide_eq_true e, if_pos (by rw [e]; exact List.mem_cons_self)]; rfl
    · rw [decide_eq_false e]
      show ((ws.map fun a => (a, v)).find? _).map _ = _
      rw [ih]
      by_cases m : a ∈ ws
      · rw [if_pos m, if_pos (List.mem_cons_of_mem _ m)]
      · rw [if_neg m, if_neg (fun q => (List.mem_cons.mp q).elim (fun q => e q.symm) m)]
theorem gInX_s (h : KeyFn c) {ws : List α} {v : D} {a : α} : gInX false (c a) (.dict (dS c v ws)) = .ok (.bool (decide (a ∈ ws))) := by
  unfold dS
  rw [gInX_k h, getA_s]
  by_cases m : a ∈ ws
  · rw [if_pos m, decide_eq_true m]; rfl
  · rw [if_neg m, decide_eq_false m]; rfl
theorem gNotInX_s (h : KeyFn c) {ws : List α} {v : D} {a : α} : gInX true (c a) (.dict (dS c v ws)) = .ok (.bool (!decide (a ∈ ws))) := by
  unfold dS
  rw [gNotInX_k h, getA_s]
  by_cases m : a ∈ ws
  · rw [if_pos m, decide_eq_true m]; rfl
  · rw [if_neg m, decide_eq_false m]; rfl
theorem putA_s {v : D} {ws : List α} {a : α} : putA (ws.map fun a => (a, v)) a v = (insA ws a).map fun a => (a, v) := by
  unfold putA insA
  rw [getA_s]
  by_cases m : a ∈ ws
  · rw [if_pos m, if_pos m]
    show (ws.map fun a => (a, v)).map _ = _
    rw [List.map_map]
    apply List.map_congr_left
    intro x _
    show (if x = a then (x, v) else (x, v)) = _
    split <;> rfl
  · rw [if_neg m, if_neg m, List.map_append]; rfl
theorem putX_s (h : KeyFn c) {ws : List α} {v : D} {a : α} (hz : ws.length < sizeLine) : putX (dS c v ws) (c a) v = .ok (dS c v (insA ws a)) := by
  unfold dS
  rw [putX_k h (by rw [List.length_map]; exact hz), putA_s]
theorem gLen_dS {ws : List α} {v : D} : gLen [.dict (dS c v ws)] = .ok (.int (ws.length : Nat)) := by
  unfold dS
  rw [gLen_dK, List.length_map]
theorem keysD_s {ws : List α} {v : D} : keysD (dS c v ws) = ws.map c := by
  unfold dS
  rw [keysD_k, List.map_map, List.map_map]; rfl
theorem mem_insA {ws : List α} {a b : α} : b ∈ insA ws a ↔ b ∈ ws ∨ b = a := by
  unfold insA
  split
  · rename_i h
    exact ⟨.inl, fun q => q.elim id fun q => q ▸ h⟩
  · simp
theorem nodup_insA {ws : List α} {a : α} (h : ws.Nodup) : (insA ws a).Nodup := by
  unfold insA
  split
  · exact h
  · rename_i hm
    rw [List.nodup_append]
    exact ⟨h, by simp, fun x hx y hy e => hm (by
      obtain rfl : y = a := by simpa using hy
      exact e ▸ hx)⟩
theorem len_insA {ws : List α} {a : α} : (insA ws a).length ≤ ws.length + 1 := by
  unfold insA
  split
  · omega
  · simp
theorem insA_nil {a : α} : insA [] a = [a] := rfl
theorem nub_go {l : List α} : ∀ ws : List α, (∀ b, b ∈ l.foldl insA ws ↔ b ∈ ws ∨ b ∈ l) ∧ (ws.Nodup → (l.foldl insA ws).Nodup) ∧ (l.foldl insA ws).length ≤ ws.length + l.length := by
  induction l with
  | nil => exact fun ws => ⟨fun b => by simp, fun h => h, by simp⟩
  | cons x l ih =>
    intro ws
    obtain ⟨h1, h2, h3⟩ := ih (insA ws x)
    refine ⟨fun b => ?_, fun h => h2 (nodup_insA h), ?_⟩
    · rw [List.foldl_cons, h1, mem_insA, List.mem_cons, or_assoc]
    · rw [List.foldl_cons, List.length_cons]
      have := len_insA (ws := ws) (a := x)
      omega
theorem mem_nub {l : List α} {b : α} : b ∈ nub l ↔ b ∈ l := by
  have := (nub_go (l := l) []).1 b
  simpa [nub] using this
theorem nodup_nub {l : List α} : (nub l).Nodup := (nub_go (l := l) []).2.1 List.nodup_nil
theorem len_nub {l : List α} : (nub l).length ≤ l.length := by
  have := (nub_go (l := l) []).2.2
  simpa [nub] using this
theorem nub_snoc {l : List α} {a : α} : nub (l ++ [a]) = insA (nub l) a := by
  unfold nub
  rw [List.foldl_append]; rfl
theorem nub_append {l m : List α} : nub (l ++ m) = m.foldl insA (nub l) := by
  unfold nub
  rw [List.foldl_append]
theorem nub_perm {l m : List α} (h : ∀ b, b ∈ l ↔ b ∈ m) : (nub l).Perm (nub m) := (List.perm_ext_iff_of_nodup nodup_nub nodup_nub).mpr fun b => by rw [mem_nub, mem_nub]; exact h b
theorem nub_len_eq {l m : List α} (h : ∀ b, b ∈ l ↔ b ∈ m) : (nub l).length = (nub m).length := (nub_perm h).length_eq
/-- a dict of pairs -/
theorem pairsD_k (h : KeyFn c) {β : Type} {k : β → α} {v : β → D} : ∃ t, ∀ l : List β, l ≠ [] → pairsD t (l.map fun x => PyData.tuple [c (k x), v x]) = some (l.map fun x => (c (k x), (Classical.choose h) (k x), v x)) ∧ (t = true → pairsD false (l.map fun x => PyData.tuple [c (k x), v x]) = none) := by
  by_cases ne : Nonempty β
  · obtain ⟨b0⟩ := ne
    have hs := Classical.choose_spec h
    generalize Classical.choose h = f at hs
    obtain ⟨h1, h2, h3⟩ := hs
    have step : ∀ l : List β, pairsD (isDT (f (k b0))) (l.map fun x => PyData.tuple [c (k x), v x]) = some (l.map fun x => (c (k x), f (k x), v x)) := by
      intro l
      induction l with
      | nil => rfl
      | cons x l ih =>
        rw [List.map_cons, pairsD, ih]
        have e : pairD (.tuple [c (k x), v x]) = some (c (k x), f (k x), v x) := by
          show (asDK (c (k x))).map _ = _
          rw [h1]; rfl
        rw [e]
        show (if isDT (f (k x)) = _ then _ else _) = _
        rw [if_pos (h3 _ _)]; rfl
    refine ⟨isDT (f (k b0)), fun l hl => ⟨step l, fun ht => ?_⟩⟩
    cases l with
    | nil => exact absurd rfl hl
    | cons x l =>
      rw [List.map_cons, pairsD]
      have e : pairD (.tuple [c (k x), v x]) = some (c (k x), f (k x), v x) := by
        show (asDK (c (k x))).map _ = _
        rw [h1]; rfl
      rw [e]
      cases pairsD false (l.map fun x => PyData.tuple [c (k x), v x]) with
      | none => rfl
      | some ps =>
        show (if isDT (f (k x)) = false then _ else _) = _
        rw [if_neg (by rw [h3 (k x) (k b0), ht]; decide)]
  · exact ⟨false, fun l hl => by
      cases l with
      | nil => exact absurd rfl hl
      | cons x l => exact absurd ⟨x⟩ ne⟩
theorem putD_k (h : KeyFn c) {f : α → DK} (h1 : ∀ a, asDK (c a) = some (f a)) (h2 : ∀ a b, f a = f b → a = b) (kvs : List (α × D)) (a : α) (v : D) : putD (dK c kvs) (c a) (f a) v = dK c (putA kvs a v) := by
  unfold putD putA
  rw [findD_k h h1 h2]
  split
  · unfold dK
    rw [List.map_map, List.map_map]
    apply List.map_congr_left
    intro p _
    show (if asDK (c p.1) = some (f a) then _ else _) = _
    rw [h1]
    show _ = (c (if p.1 = a then (p.1, v) else p).1, (if p.1 = a then (p.1, v) else p).2)
    by_cases e : p.1 = a
    · rw [if_pos (by rw [e]), if_pos e]
    · rw [if_neg (fun q => e (h2 _ _ (Option.some.inj q))), if_neg e]
  · unfold dK
    rw [List.map_append]; rfl
theorem mkD_k (h : KeyFn c) {β : Type} {k : β → α} {v : β → D} (l : List β) : mkD [.list (l.map fun x => PyData.tuple [c (k x), v x])] = .ok (dK c (l.foldl (fun acc x => putA acc (k x) (v x)) [])) := by
  by_cases hl : l = []
  · subst hl; rfl
  obtain ⟨t, ht⟩ := pairsD_k h (k := k) (v := v)
  obtain ⟨e1, e2⟩ := ht l hl
  have hs := Classical.choose_spec h
  have hm : ∀ (l : List β) (kvs : List (α × D)), mergeD (dK c kvs) (l.map fun x => (c (k x), (Classical.choose h) (k x), v x)) = dK c (l.foldl (fun acc x => putA acc (k x) (v x)) kvs) := by
    intro l
    induction l with
    | nil => exact fun _ => rfl
    | cons x l ih =>
      intro kvs
      rw [List.foldl_cons, ← ih, List.map_cons]
      show mergeD (putD (dK c kvs) (c (k x)) ((Classical.choose h) (k x)) (v x)) _ = _
      rw [putD_k h hs.1 hs.2.1]
  have key : mergeD [] (l.map fun x => (c (k x), (Classical.choose h) (k x), v x)) = dK c (l.foldl (fun acc x => putA acc (k x) (v x)) []) := hm l []
  unfold mkD
  cases t with
  | false =>
    simp only [e1, key]
  | true =>
    simp only [e2 rfl, e1, key]
theorem fold_s {β : Type} {k : β → α} {v : D} (l : List β) (ws : List α) : l.foldl (fun acc x => putA acc (k x) v) (ws.map fun a => (a, v)) = ((l.map k).foldl insA ws).map fun a => (a, v) := by
  induction l generalizing ws with
  | nil => rfl
  | cons x l ih => rw [List.foldl_cons, putA_s, ih, List.map_cons, List.foldl_cons]
theorem mkD_s (h : KeyFn c) {β : Type} {k : β → α} {v : D} (l : List β) : mkD [.list (l.map fun x => PyData.tuple [c (k x), v])] = .ok (dS c v (nub (l.map k))) := by
  rw [mkD_k h (k := k) (v := fun _ => v)]
  have := fold_s (k := k) (v := v) l []
  rw [show ([] : List α).map (fun a => (a, v)) = [] from rfl] at this
  rw [this]; rfl
theorem gDictX_s (h : KeyFn c) {β : Type} {k : β → α} {v : D} {l : List β} : gDictX [.list (l.map fun x => PyData.tuple [c (k x), v])] = .ok (.dict (dS c v (nub (l.map k)))) := by
  unfold gDictX
  rw [mkD_s h]; rfl
theorem gDictX_k (h : KeyFn c) {β : Type} {k : β → α} {v : β → D} {l : List β} : gDictX [.list (l.map fun x => PyData.tuple [c (k x), v x])] = .ok (.dict (dK c (l.foldl (fun acc x => putA acc (k x) (v x)) []))) := by
  unfold gDictX
  rw [mkD_k h]; rfl
/-! comprehensions -/
def LcK (tgt : GF) (fk fv : PF) (d : D) (env : Env) (k v : D) : Prop := ∃ e1, tgt d env = .ok e1 ∧ fk e1 = .ok k ∧ fv e1 = .ok v
theorem lcK_mk {tgt : GF} {fk fv : PF} {d k v : D} {env e1 : Env} (h : tgt d env = .ok e1) (h2 : fk e1 = .ok k) (h3 : fv e1 = .ok v) : LcK tgt fk fv d env k v := ⟨e1, h, h2, h3⟩
theorem len_putA (kvs : List (α × D)) (a : α) (v : D) : (putA kvs a v).length ≤ kvs.length + 1 := by
  unfold putA
  split
  · rw [List.length_map]; omega
  · simp
theorem dcGo_k (h : KeyFn c) {β : Type} {e : β → D} {tgt : GF} {fk fv : PF} {env : Env} {k : β → α} {v : β → D} : ∀ (l : List β) (kvs : List (α × D)), kvs.length + l.length ≤ sizeLine → (∀ x ∈ l, LcK tgt fk fv (e x) env (c (k x)) (v x)) →
    dcGo tgt cYes fk fv env (dK c kvs) (l.map e) = .ok (dK c (l.foldl (fun acc x => putA acc (k x) (v x)) kvs))
  | [], _, _, _ => rfl
  | x :: l, kvs, hz, hx => by
    obtain ⟨e1, a1, a2, a3⟩ := hx x List.mem_cons_self
    rw [List.map_cons, dcGo, a1, R.bind_ok]
    show (R.ok true).bind _ = _
    rw [R.bind_ok, if_pos rfl, a2, R.bind_ok, a3, R.bind_ok, putX_k h (by rw [List.length_cons] at hz; omega), R.bind_ok, List.foldl_cons]
    refine dcGo_k h l _ ?_ fun y hy => hx y (List.mem_cons_of_mem _ hy)
    have := len_putA kvs (k x) (v x)
    rw [List.length_cons] at hz
    omega
theorem cDc_k (h : KeyFn c) {β : Type} {e : β → D} {fi : IF} {vs : List Nat} {tgt : GF} {fk fv : PF} {env e0 : Env} {k : β → α} {v : β → D} {l : List β} (hi : fi env = .ok (l.map e)) (hw : wipeE env vs = e0) (hz : l.length ≤ sizeLine) (hx : ∀ x ∈ l, LcK tgt fk fv (e x) e0 (c (k x)) (v x)) :
    cDict (cDc fi vs tgt cYes fk fv) env = .ok (.dict (dK c (l.foldl (fun acc x => putA acc (k x) (v x)) []))) := by
  unfold cDict cDc
  rw [hi, R.bind_ok, hw]
  have := dcGo_k h l [] (by simpa using hz) hx
  rw [show dK c [] = [] from rfl] at this
  rw [this]; rfl
theorem cDc_s (h : KeyFn c) {β : Type} {e : β → D} {fi : IF} {vs : List Nat} {tgt : GF} {fk fv : PF} {env e0 : Env} {k : β → α} {v : D} {l : List β} (hi : fi env = .ok (l.map e)) (hw : wipeE env vs = e0) (hz : l.length ≤ sizeLine) (hx : ∀ x ∈ l, LcK tgt fk fv (e x) e0 (c (k x)) v) :
    cDict (cDc fi vs tgt cYes fk fv) env = .ok (.dict (dS c v (nub (l.map k)))) := by
  rw [cDc_k h hi hw hz hx]
  have := fold_s (k := k) (v := v) l []
  rw [show ([] : List α).map (fun a => (a, v)) = [] from rfl] at this
  rw [this]; rfl
end
/-! ### sorted -/
def srt (ns : List (List Int)) : List (List Int) := ns.mergeSort fun x y => decide (x ≤ y)
def srtI (ns : List Int) : List Int := ns.mergeSort fun x y => decide (x ≤ y)
theorem srt_perm (ns : List (List Int)) : (srt ns).Perm ns := List.mergeSort_perm _ _
theorem srt_le (ns : List (List Int)) : (srt ns).Pairwise (· ≤ ·) :=
  (List.pairwise_mergeSort (le := fun x y : List Int => decide (x ≤ y)) (by intro x y z h1 h2; simp only [decide_eq_true_eq] at *; exact List.le_trans h1 h2) (by intro x y; simp only [Bool.or_eq_true, decide_eq_true_eq]; exact List.le_total x y) ns).imp fun h => of_decide_eq_true h
theorem srt_eq {ns ms : List (List Int)} (hp : ns.Perm ms) (hm : ms.Pairwise (· ≤ ·)) : srt ns = ms := List.Perm.eq_of_pairwise (fun x y _ _ h1 h2 => List.le_antisymm h1 h2) (srt_le ns) hm ((srt_perm ns).trans hp)
theorem srt_congr {ns ms : List (List Int)} (hp : ns.Perm ms) : srt ns = srt ms := srt_eq (hp.trans (srt_perm ms).symm) (srt_le ms)
theorem srt_nub {l m : List (List Int)} (h : ∀ w, w ∈ l ↔ w ∈ m) : srt (nub l) = srt (nub m) := srt_congr (nub_perm h)
theorem mem_srt {l : List (List Int)} {w : List Int} : w ∈ srt l ↔ w ∈ l := (srt_perm l).mem_iff
theorem len_srt {l : List (List Int)} : (srt l).length = l.length := (srt_perm l).length_eq
theorem srtI_perm (ns : List Int) : (srtI ns).Perm ns := List.mergeSort_perm _ _
theorem srtI_le (ns : List Int) : (srtI ns).Pairwise (· ≤ ·) :=
  (List.pairwise_mergeSort (le := fun x y : Int => decide (x ≤ y)) (by intro x y z h1 h2; simp only [decide_eq_true_eq] at *; omega) (by intro x y; simp only [Bool.or_eq_true, decide_eq_true_eq]; omega) ns).imp fun h => of_decide_eq_true h
theorem srtI_eq {ns ms : List Int} (hp : ns.Perm ms) (hm : ms.Pairwise (· ≤ ·)) : srtI ns = ms := List.Perm.eq_of_pairwise (fun x y _ _ h1 h2 => Int.le_antisymm h1 h2) (srtI_le ns) hm ((srtI_perm ns).trans hp)
theorem srtI_congr {ns ms : List Int} (hp : ns.Perm ms) : srtI ns = srtI ms := srtI_eq (hp.trans (srtI_perm ms).symm) (srtI_le ms)
theorem srtI_nub {l m : List Int} (h : ∀ w, w ∈ l ↔ w ∈ m) : srtI (nub l) = srtI (nub m) := srtI_congr (nub_perm h)
theorem mem_srtI {l : List Int} {w : Int} : w ∈ srtI l ↔ w ∈ l := (srtI_perm l).mem_iff
theorem len_srtI {l : List Int} : (srtI l).length = l.length := (srtI_perm l).length_eq
theorem sortD_w (ns : List (List Int)) : sortD (ns.map wD) = (srt ns).map wD := sortD_words (srt_perm ns).symm (srt_le ns)
theorem sortD_i (ns : List Int) : sortD (ns.map PyData.int) = (srtI ns).map PyData.int := sortD_ints (srtI_perm ns).symm (srtI_le ns)
theorem sortOk2_w (ns : List (List Int)) : sortOk2 (ns.map wD) = true := by
  unfold sortOk2
  rw [Bool.and_eq_true, Bool.and_eq_true, Bool.or_eq_true]
  refine ⟨⟨List.all_eq_true.mpr fun d hd => List.all_eq_true.mpr fun e he => ?_, .inl (List.all_eq_true.mpr fun d hd => ?_)⟩, List.all_eq_true.mpr fun d hd => ?_⟩
  · obtain ⟨a, _, rfl⟩ := List.mem_map.mp hd
    obtain ⟨b, _, rfl⟩ := List.mem_map.mp he
    show PySem.W.alikeAll (a.map PyData.int) (b.map PyData.int) = true
    exact alikeAll_ints a b
  · obtain ⟨a, _, rfl⟩ := List.mem_map.mp hd; rfl
  · obtain ⟨a, _, rfl⟩ := List.mem_map.mp hd
    exact shaped_wD a
theorem sortOk2_i (ns : List Int) : sortOk2 (ns.map PyData.int) = true := by
  have h := sortOk_ints ns
  unfold sortOk at h
  unfold sortOk2
  rw [Bool.and_eq_true, Bool.and_eq_true, Bool.or_eq_true] at h ⊢
  refine ⟨⟨h.1.1, .inr (List.all_eq_true.mpr fun d hd => ?_)⟩, h.2⟩
  obtain ⟨a, _, rfl⟩ := List.mem_map.mp hd; rfl
theorem gSortV_w {ns : List (List Int)} : gSortedV [.list (ns.map wD)] = .ok (.list ((srt ns).map wD)) := by
  show R.when (sortOk2 (ns.map wD)) _ = _
  rw [sortOk2_w, sortD_w]; rfl
theorem gSortV_wT {ns : List (List Int)} : gSortedV [.tuple (ns.map wD)] = .ok (.list ((srt ns).map wD)) := by
  show R.when (sortOk2 (ns.map wD)) _ = _
  rw [sortOk2_w, sortD_w]; rfl
theorem gSortV_i {ns : List Int} : gSortedV [.list (ns.map PyData.int)] = .ok (.list ((srtI ns).map PyData.int)) := by
  show R.when (sortOk2 (ns.map PyData.int)) _ = _
  rw [sortOk2_i, sortD_i]; rfl
theorem gSortV_iT {ns : List Int} : gSortedV [wD ns] = .ok (.list ((srtI ns).map PyData.int)) := by
  show R.when (sortOk2 (ns.map PyData.int)) _ = _
  rw [sortOk2_i, sortD_i]; rfl
theorem gSortV_f {α : Type} {f : α → List Int} {l : List α} : gSortedV [.list (l.map fun x => wD (f x))] = .ok (.list ((srt (l.map f)).map wD)) := by
  rw [← gSortV_w, List.map_map]; rfl
theorem gSortV_ds {ws : List (List Int)} {v : D} : gSortedV [.dict (dS wD v ws)] = .ok (.list ((srt ws).map wD)) := by
  show R.when (sortOk2 (keysD (dS wD v ws))) _ = _
  rw [keysD_s, sortOk2_w]
  show R.ok (PyData.list (sortD _)) = _
  rw [sortD_w]
theorem gSortV_dsI {ws : List Int} {v : D} : gSortedV [.dict (dS PyData.int v ws)] = .ok (.list ((srtI ws).map PyData.int)) := by
  show R.when (sortOk2 (keysD (dS PyData.int v ws))) _ = _
  rw [keysD_s, sortOk2_i]
  show R.ok (PyData.list (sortD _)) = _
  rw [sortD_i]
theorem gSortV_dk {kvs : List (List Int × D)} : gSortedV [.dict (dK wD kvs)] = .ok (.list ((srt (kvs.map (·.1))).map wD)) := by
  show R.when (sortOk2 (keysD (dK wD kvs))) _ = _
  rw [keysD_k, sortOk2_w]
  show R.ok (PyData.list (sortD _)) = _
  rw [sortD_w]
theorem sortL_ds {ws : List (List Int)} {v : D} : sortL [.dict (dS wD v ws)] = .ok ((srt ws).map wD) := by
  show R.when (sortOk2 (keysD (dS wD v ws))) _ = _
  rw [keysD_s, sortOk2_w]
  show R.ok (sortD _) = _
  rw [sortD_w]
theorem sortL_dsI {ws : List Int} {v : D} : sortL [.dict (dS PyData.int v ws)] = .ok ((srtI ws).map PyData.int) := by
  show R.when (sortOk2 (keysD (dS PyData.int v ws))) _ = _
  rw [keysD_s, sortOk2_i]
  show R.ok (sortD _) = _
  rw [sortD_i]
theorem sortL_w {ns : List (List Int)} : sortL [.list (ns.map wD)] = .ok ((srt ns).map wD) := by
  show R.when (sortOk2 (ns.map wD)) _ = _
  rw [sortOk2_w]
  show R.ok (sortD _) = _
  rw [sortD_w]
theorem gList1V_ds {α : Type} {c : α → D} [DecidableEq α] {ws : List α} {v : D} : gList1V [.dict (dS c v ws)] = .ok (.list (ws.map c)) := by
  show R.ok (PyData.list (keysD (dS c v ws))) = _
  rw [keysD_s]
theorem gList1V_l {ds : List D} : gList1V [.list ds] = .ok (.list ds) := rfl
theorem gList1V_t {ds : List D} : gList1V [.tuple ds] = .ok (.list ds) := rfl
theorem gList1V_wD {w : List Int} : gList1V [wD w] = .ok (.list (w.map PyData.int)) := rfl
theorem cSortL_ok {fa : AF} {env : Env} {as rs : List D} (h : fa env = .ok as) (h2 : sortL as = .ok rs) : cSortL fa env = .ok rs := by
  unfold cSortL; rw [h]; exact h2
theorem cListL_ok {fa : AF} {env : Env} {as rs : List D} (h : fa env = .ok as) (h2 : listL as = .ok rs) : cListL fa env = .ok rs := by
  unfold cListL; rw [h]; exact h2
theorem noRefs_w : ∀ ws : List (List Int), noRefs (ws.map wD) = true
  | [] => rfl
  | w :: ws => by
    rw [List.map_cons, noRefs, noRefs_w ws, noRef_wD]; rfl
theorem noRef_tw (ws : List (List Int)) : noRef (.tuple (ws.map wD)) = true := by rw [noRef, noRefs_w]
theorem cGetD_ok {f : PF} {fa : AF} {env : Env} {d r : D} {as : List D} (h : f env = .ok d) (h2 : fa env = .ok as) (h3 : gGetD d as = .ok r) : cGetD f fa env = .ok r := by
  unfold cGetD; rw [h, R.bind_ok, h2]; exact h3
/-! ### statements -/
section
variable {env e' : Env} {Q : Flo → Env → Prop} {i : Nat}
theorem dic_ok {ds : List (D × D)} (h : env[i]? = some (some (.dict ds))) : dicAt env i = .ok ds := by unfold dicAt; rw [h]
theorem wx_sSetD {f : Env → R (List (D × D))} {ds : List (D × D)} (h : f env = .ok ds) (hs : env.set i (some (.dict ds)) = e') (q : Q .nx e') : Wx (sSetD i f) env Q := ⟨_, _, by unfold sSetD; rw [h, R.bindP_ok, hs], q⟩
theorem cNewD_ok : cNewD env = .ok [] := rfl
theorem wx_sPutD {fk f : PF} {v k : D} {ds es : List (D × D)} (h : f env = .ok v) (hk : fk env = .ok k) (h2 : env[i]? = some (some (.dict ds))) (hp : putX ds k v = .ok es) (hs : env.set i (some (.dict es)) = e') (q : Q .nx e') : Wx (sPutD i fk f) env Q := ⟨_, _, by
  unfold sPutD
  rw [h, R.bindP_ok, hk, R.bindP_ok, dic_ok h2, R.bindP_ok, hp, R.bindP_ok, hs], q⟩
theorem wx_sRetM {d : D} (h : env[i]? = some (some d)) (hs : env.set i none = e') (q : Q (.rt d) e') : Wx (sRetM i) env Q := ⟨_, _, by
  unfold sRetM ownAt
  rw [h]
  show R.bindP (R.ok d) _ = _
  rw [R.bindP_ok, hs], q⟩
theorem wx_eDict {f : Env → R (List (D × D))} {ds : List (D × D)} {Q : D → Env → Prop} (h : f env = .ok ds) (q : Q (.dict ds) env) : Wx (eDict f) env Q := ⟨_, _, by unfold eDict; rw [h]; rfl, q⟩
theorem dS_nil {α : Type} [DecidableEq α] {c : α → D} {v : D} : dS c v [] = [] := rfl
theorem dK_nil {α : Type} {c : α → D} : dK c [] = [] := rfl
end
end Dz

set_option maxRecDepth 100000
set_option maxHeartbeats 2000000
namespace Dz
open PySem PySem.Spec PyProof.Rows L2
/-! ## more plain lemmas -/
theorem maxI_eq {l : List Int} {m : Int} (h : m ∈ l) (h2 : ∀ x ∈ l, x ≤ m) : maxI l = m := by
  obtain ⟨a, b⟩ := maxI_mem (List.ne_nil_of_mem h)
  exact Int.le_antisymm (h2 _ a) (b _ h)
theorem minI_eq {l : List Int} {m : Int} (h : m ∈ l) (h2 : ∀ x ∈ l, m ≤ x) : minI l = m := by
  obtain ⟨a, b⟩ := minI_mem (List.ne_nil_of_mem h)
  exact Int.le_antisymm (b _ h) (h2 _ a)
theorem gMin_i {l : List Int} (h : l ≠ []) : gMin [.list (l.map PyData.int)] = .ok (.int (minI l)) := by
  have e : intsIn [.list (l.map PyData.int)] = some l := intsOf_map l
  unfold gMin
  rw [e]
  dsimp only
  rw [decide_eq_true h, R.when_true]
theorem gMax_i {l : List Int} (h : l ≠ []) : gMax [.list (l.map PyData.int)] = .ok (.int (maxI l)) := by
  have e : intsIn [.list (l.map PyData.int)] = some l := intsOf_map l
  unfold gMax
  rw [e]
  dsimp only
  rw [decide_eq_true h, R.when_true]
theorem gMaxX_i {l : List Int} (h : l ≠ []) : gMaxX [.list (l.map PyData.int)] = .ok (.int (maxI l)) := by
  have e : intsIn [.list (l.map PyData.int)] = some l := intsOf_map l
  rw [gMaxX_ints e, gMax_i h]
theorem gMin_w {l : List Int} (h : l ≠ []) : gMin [wD l] = .ok (.int (minI l)) := by
  have e : intsIn [wD l] = some l := intsOf_map l
  unfold gMin
  rw [e]
  dsimp only
  rw [decide_eq_true h, R.when_true]
theorem gMaxX_w {l : List Int} (h : l ≠ []) : gMaxX [wD l] = .ok (.int (maxI l)) := by
  have e : intsIn [wD l] = some l := intsOf_map l
  rw [gMaxX_ints e]
  unfold gMax
  rw [e]
  dsimp only
  rw [decide_eq_true h, R.when_true]
theorem gMin_at {α : Type} {f : α → Nat} {l : List α} {m : Nat} (h : m ∈ l.map f) (h2 : ∀ x ∈ l, m ≤ f x) : gMin [.list (l.map fun x => PyData.int ((f x : Nat) : Int))] = .ok (.int (m : Nat)) := by
  have e : (l.map fun x => PyData.int ((f x : Nat) : Int)) = (l.map fun x => ((f x : Nat) : Int)).map PyData.int := by rw [List.map_map]; rfl
  obtain ⟨x, hx, rfl⟩ := List.mem_map.mp h
  rw [e, gMin_i (fun q => by rw [List.map_eq_nil_iff] at q; rw [q] at hx; cases hx)]
  refine congrArg (fun z => R.ok (PyData.int z)) (minI_eq (List.mem_map.mpr ⟨x, hx, rfl⟩) fun y hy => ?_)
  obtain ⟨z, hz, rfl⟩ := List.mem_map.mp hy
  have := h2 z hz
  omega
theorem gMaxX_at {α : Type} {f : α → Nat} {l : List α} {m : Nat} (h : m ∈ l.map f) (h2 : ∀ x ∈ l, f x ≤ m) : gMaxX [.list (l.map fun x => PyData.int ((f x : Nat) : Int))] = .ok (.int (m : Nat)) := by
  have e : (l.map fun x => PyData.int ((f x : Nat) : Int)) = (l.map fun x => ((f x : Nat) : Int)).map PyData.int := by rw [List.map_map]; rfl
  obtain ⟨x, hx, rfl⟩ := List.mem_map.mp h
  rw [e, gMaxX_i (fun q => by rw [List.map_eq_nil_iff] at q; rw [q] at hx; cases hx)]
  refine congrArg (fun z => R.ok (PyData.int z)) (maxI_eq (List.mem_map.mpr ⟨x, hx, rfl⟩) fun y hy => ?_)
  obtain ⟨z, hz, rfl⟩ := List.mem_map.mp hy
  have := h2 z hz
  omega
theorem gMax_at {α : Type} {f : α → Nat} {l : List α} {m : Nat} (h : m ∈ l.map f) (h2 : ∀ x ∈ l, f x ≤ m) : gMax [.list (l.map fun x => PyData.int ((f x : Nat) : Int))] = .ok (.int (m : Nat)) := by
  have e : (l.map fun x => PyData.int ((f x : Nat) : Int)) = (l.map fun x => ((f x : Nat) : Int)).map PyData.int := by rw [List.map_map]; rfl
  obtain ⟨x, hx, rfl⟩ := List.mem_map.mp h
  rw [e, gMax_i (fun q => by rw [List.map_eq_nil_iff] at q; rw [q] at hx; cases hx)]
  refine congrArg (fun z => R.ok (PyData.int z)) (maxI_eq (List.mem_map.mpr ⟨x, hx, rfl⟩) fun y hy => ?_)
  obtain ⟨z, hz, rfl⟩ := List.mem_map.mp hy
  have := h2 z hz
  omega
theorem wx_whileE {α : Type} {fc : ETF} {g : SF} {n : Nat} {env : Env} {Q : Flo → Env → Prop} (E : α → Env) (m : α → Nat) (I : α → Prop) {a : α} (he : env = E a) (h0 : I a) (hn : m a < n)
    (hb : ∀ a, I a → Wx fc (E a) (fun c e1 => (c = true ∧ Wx g e1 (fun fl e2 => fl = .nx ∧ ∃ a', e2 = E a' ∧ I a' ∧ m a' < m a)) ∨ (c = false ∧ Q .nx e1))) : Wx (whileE fc g n) env Q := by
  subst he
  have key : ∀ (fuel : Nat) (a : α), m a < fuel → I a → Wx (whileE fc g fuel) (E a) Q := fun fuel => by
    induction fuel with
    | zero => intro a h; omega
    | succ fuel ih =>
      intro a hm hI
      obtain ⟨c, e1, h1, h2⟩ := hb a hI
      rcases h2 with ⟨rfl, fl, e2, h3, rfl, a', rfl, h5, h6⟩ | ⟨rfl, h3⟩
      · obtain ⟨x, y, h7, h8⟩ := ih a' (by omega) h5
        refine ⟨x, y, ?_, h8⟩
        unfold whileE
        rw [h1, R.bindP_ok, if_pos rfl, h3, R.bind_ok]
        exact h7
      · refine ⟨.nx, e1, ?_, h3⟩
        unfold whileE
        rw [h1, R.bindP_ok]; rfl
  exact key n a hn h0
theorem wx_whileEI {α : Type} {fc : ETF} {g : SF} {n : Nat} {env : Env} {Q : Flo → Env → Prop} (E : α → Env) (m : α → Nat) (I : α → Prop) {a : α} (he : env = E a) (h0 : I a) (hn : m a < n)
    (hb : ∀ a, I a → Wx fc (E a) (fun c e1 => (c = true ∧ Wx g e1 (fun fl e2 => fl = .nx ∧ ∃ a', e2 = E a' ∧ I a' ∧ m a' < m a)) ∨ (c = false ∧ ∃ a', e1 = E a' ∧ I a'))) (q : ∀ a, I a → Q .nx (E a)) : Wx (whileE fc g n) env Q :=
  wx_whileE E m I he h0 hn fun a ha => (hb a ha).mono fun c e1 h => h.imp id fun ⟨h1, a', h2, h3⟩ => ⟨h1, h2 ▸ q a' h3⟩
/-! lists with a first and a second -/
theorem filter_one {P : Nat → Bool} (h0 : P 0 = true) : ∀ d, 0 < d → (∀ e, 0 < e → e < d → P e = false) → (List.range d).filter P = [0]
  | 0, h, _ => absurd h (Nat.lt_irrefl _)
  | 1, _, _ => by
    show List.filter P [0] = [0]
    rw [List.filter_cons_of_pos h0]; rfl
  | d + 2, _, h => by
    rw [List.range_succ, List.filter_append, filter_one h0 (d + 1) (by omega) fun e h1 h2 => h e h1 (by omega), List.filter_cons_of_neg (by rw [h (d + 1) (by omega) (by omega)]; decide)]; rfl
theorem filter_two {P : Nat → Bool} (h0 : P 0 = true) {d n : Nat} (hd : 0 < d) (hn : d < n) (h : ∀ e, 0 < e → e < d → P e = false) (h1 : P d = true) : ∃ r, (List.range n).filter P = 0 :: d :: r := by
  obtain ⟨l2, hs⟩ := range_split hn
  rw [hs, List.filter_append, filter_one h0 d hd h, List.filter_cons_of_pos h1]
  exact ⟨_, rfl⟩
theorem noRef_str {s : Str} : noRef (.str s) = true := rfl
end Dz

set_option maxRecDepth 100000
set_option maxHeartbeats 2000000
namespace Dz
open PySem PySem.Spec PyProof.Rows L2
/-- a cut behind a statement -/
theorem wx_seqP {a b : SF} {env : Env} {Q : Flo → Env → Prop} (P : Env → Prop) (h1 : Wx a env (fun fl e => fl = .nx ∧ P e)) (h2 : ∀ e, P e → Wx b e Q) : Wx (sSeq a b) env Q := by
  obtain ⟨fl, e, h3, rfl, h4⟩ := h1
  obtain ⟨x, y, h5, h6⟩ := h2 e h4
  exact ⟨x, y, by unfold sSeq; rw [h3]; exact h5, h6⟩
/-! ## what can be shown: words, lots of words -/
/-- letters within bounds -/
def Lt (w : List Int) : Prop := ∀ a ∈ w, a.natAbs < 10 ^ 18
theorem Lt.sub {w v : List Int} (h : Lt w) (hs : ∀ a ∈ v, a ∈ w) : Lt v := fun a ha => h a (hs a ha)
theorem Lt.take {w : List Int} (h : Lt w) (n : Nat) : Lt (w.take n) := h.sub fun a ha => List.mem_of_mem_take ha
theorem Lt.drop {w : List Int} (h : Lt w) (n : Nat) : Lt (w.drop n) := h.sub fun a ha => List.mem_of_mem_drop ha
theorem Lt.app {w v : List Int} (h : Lt w) (h2 : Lt v) : Lt (w ++ v) := fun a ha => (List.mem_append.mp ha).elim (h a) (h2 a)
theorem Lt.rev {w : List Int} (h : Lt w) : Lt w.reverse := h.sub fun a ha => List.mem_reverse.mp ha
theorem Lt.one {a : Int} (h : a.natAbs < 10 ^ 18) : Lt [a] := fun b hb => by
  obtain rfl : b = a := by simpa using hb
  exact h
theorem Lt.nil : Lt [] := fun _ h => (nomatch h)
theorem Lt.nat {w : List Int} (h : ∀ a ∈ w, 0 ≤ a ∧ a < 1000) : Lt w := fun a ha => by
  have := h a ha
  omega
theorem sh_word {w : List Int} (hc : Lt w) (hl : w.length ≤ 500) : canShow (wD w) = true := (Shw.wordB hc).ok (by decide) (by rw [sizeLine_eq]; omega)
theorem Shw.lots {ws : List (List Int)} {n : Nat} (h : ∀ w ∈ ws, Lt w ∧ w.length ≤ n) : Shw (.tuple (ws.map wD)) 2 ((22 * n + 3) * ws.length + 2 * ws.length + 3) := by
  have := Shw.tup (ds := ws.map wD) (h := 1) (n := 22 * n + 3) fun d hd => by
    obtain ⟨w, hw, rfl⟩ := List.mem_map.mp hd
    obtain ⟨h1, h2⟩ := h w hw
    exact (Shw.wordB h1).mono (Nat.le_refl _) (by omega)
  rw [List.length_map] at this
  exact this
theorem Shw.lotsL {ws : List (List Int)} {n : Nat} (h : ∀ w ∈ ws, Lt w ∧ w.length ≤ n) : Shw (.list (ws.map wD)) 2 ((22 * n + 3) * ws.length + 2 * ws.length + 3) := by
  have := Shw.lst (ds := ws.map wD) (h := 1) (n := 22 * n + 3) fun d hd => by
    obtain ⟨w, hw, rfl⟩ := List.mem_map.mp hd
    obtain ⟨h1, h2⟩ := h w hw
    exact (Shw.wordB h1).mono (Nat.le_refl _) (by omega)
  rw [List.length_map] at this
  exact this
theorem lots_size {n m : Nat} (hn : n ≤ 300) (hm : m ≤ 2000) : (22 * n + 3) * m + 2 * m + 3 ≤ sizeLine := by
  rw [sizeLine_eq]
  have := Nat.mul_le_mul (show 22 * n + 3 ≤ 6603 by omega) hm
  omega
theorem sh_lots {ws : List (List Int)} {n : Nat} (h : ∀ w ∈ ws, Lt w ∧ w.length ≤ n) (hn : n ≤ 300) (hm : ws.length ≤ 2000) : canShow (.tuple (ws.map wD)) = true := (Shw.lots h).ok (by decide) (lots_size hn hm)
theorem sh_lotsL {ws : List (List Int)} {n : Nat} (h : ∀ w ∈ ws, Lt w ∧ w.length ≤ n) (hn : n ≤ 300) (hm : ws.length ≤ 2000) : canShow (.list (ws.map wD)) = true := (Shw.lotsL h).ok (by decide) (lots_size hn hm)
end Dz

set_option maxRecDepth 100000
set_option maxHeartbeats 2000000
namespace Dz
open PySem PySem.Spec PyProof.Rows L2
/-- a cut behind a statement, in the midst of a row -/
theorem wx_cut {a b : SF} {env : Env} {Q : Flo → Env → Prop} (P : Env → Prop) (h1 : Wx a env (fun fl e => fl = .nx ∧ P e)) (h2 : ∀ e, P e → Wx b e Q) : Wx a env (seqQ b Q) := by
  obtain ⟨fl, e, h3, rfl, h4⟩ := h1
  exact ⟨_, e, h3, h2 e h4⟩
/-! ## comprehensions that change more than the source; xs.pop(i) -/
theorem elcQ_inv {vs : List Nat} {tgt : GF} {fe : EF} {Q : List D → Env → Prop} {ds : List D} {env : Env} (I : List D → Env → Prop) (hz : ds.length ≤ sizeLine) (h0 : I [] (wipeE env vs))
    (hb : ∀ done e d, d ∈ ds → done.length < ds.length → I done e → ∃ e1, tgt d e = .ok e1 ∧ Wx fe e1 (fun y e2 => I (done ++ [y]) (wipeE e2 vs))) (q : ∀ zs e', zs.length = ds.length → I zs e' → Q zs (restE env e' vs)) : elcQ vs tgt fe Q ds env := by
  have key : ∀ (rest done : List D) (e : Env), (∀ d ∈ rest, d ∈ ds) → done.length + rest.length = ds.length → I done e → ∃ zs e', lcGoE vs tgt eYes fe e rest = .ok (zs, e') ∧ I (done ++ zs) e' ∧ zs.length = rest.length := by
    intro rest
    induction rest with
    | nil => exact fun done e _ _ h => ⟨[], e, rfl, by rw [List.append_nil]; exact h, rfl⟩
    | cons d rest ih =>
      intro done e hm hl h
      rw [List.length_cons] at hl
      obtain ⟨e1, a1, y, e2, a2, a3⟩ := hb done e d (hm d List.mem_cons_self) (by omega) h
      obtain ⟨zs, e', b1, b2, b3⟩ := ih (done ++ [y]) (wipeE e2 vs) (fun d hd => hm d (List.mem_cons_of_mem _ hd)) (by rw [List.length_append, List.length_singleton]; omega) a3
      refine ⟨y :: zs, e', ?_, by rw [List.append_assoc] at b2; exact b2, by rw [List.length_cons, List.length_cons, b3]⟩
      rw [lcGoE, a1, R.bind_ok]
      show (R.ok (true, e1)).bind _ = _
      rw [R.bind_ok, if_pos rfl, a2, R.bind_ok, b1, R.bind_ok]
  obtain ⟨zs, e', h1, h2, h3⟩ := key ds [] (wipeE env vs) (fun _ h => h) (by simp) h0
  refine ⟨zs, restE env e' vs, ?_, q zs e' h3 h2⟩
  show (R.ok (ds, env)).bind _ = _
  rw [R.bind_ok, h1, R.bind_ok, decide_eq_true (by rw [h3]; exact hz), R.when_true]
theorem popD_nat {ds : List D} {r : Nat} (h : r < ds.length) (h2 : ds.length < 2 ^ 30) : popD ds (.int (r : Int)) = .ok (ds[r], ds.eraseIdx r) := by
  unfold popD
  show (if _ then _ else _) = _
  rw [if_pos (by omega), seqIx (by omega) (by omega)]
  show (match ds[(r : Int).toNat]? with | some d => _ | none => _) = _
  rw [show ((r : Int)).toNat = r by omega, List.getElem?_eq_getElem h]
theorem wx_ePopAt {i : Nat} {f : EF} {env : Env} {ds0 : List D} {Q : D → Env → Prop} (h0 : env[i]? = some (some (.list ds0)))
    (h : Wx f env (fun k e1 => ∃ (r : Nat) (ds : List D) (hr : r < ds.length), ds.length < 2 ^ 30 ∧ k = .int (r : Int) ∧ e1[i]? = some (some (.list ds)) ∧ Q ds[r] (e1.set i (some (.list (ds.eraseIdx r)))))) : Wx (ePopAt i f) env Q := by
  obtain ⟨k, e1, h1, r, ds, hr, hz, rfl, h2, h3⟩ := h
  refine ⟨_, _, ?_, h3⟩
  unfold ePopAt
  rw [lst_ok h0, R.bind_ok, h1, R.bind_ok, lst_ok h2, R.bind_ok, popD_nat hr hz, R.bind_ok]
theorem wx_eListC {f : EF} {env : Env} {Q : List D → Env → Prop} (h : Wx f env (fun d e => ∃ ds, itemsOf d = .ok ds ∧ Q ds e)) : Wx (eListC f) env Q := by
  obtain ⟨d, e, h1, ds, h2, h3⟩ := h
  exact ⟨ds, e, by unfold eListC; rw [h1, R.bind_ok, h2, R.bind_ok], h3⟩
end Dz

set_option maxRecDepth 100000
set_option maxHeartbeats 2000000
namespace Dz
open PySem PySem.Spec PyProof.Rows L2
/-! ## pairs of words: sorted -/
theorem perm_map_back {α β : Type} {f : α → β} {l m : List β} (h : l.Perm m) : ∀ ps, m = ps.map f → ∃ qs : List α, qs.Perm ps ∧ l = qs.map f := by
  induction h with
  | nil =>
    intro ps h
    cases ps with
    | nil => exact ⟨[], List.Perm.refl _, rfl⟩
    | cons _ _ => exact (nomatch h)
  | cons x _ ih =>
    intro ps h
    cases ps with
    | nil => exact (nomatch h)
    | cons p ps =>
      injection h with h1 h2
      obtain ⟨qs, a, b⟩ := ih ps h2
      exact ⟨p :: qs, a.cons p, by rw [List.map_cons, ← b, h1]⟩
  | swap x y l =>
    intro ps h
    match ps, h with
    | p :: q :: ps, h =>
      injection h with h1 h2
      injection h2 with h2 h3
      exact ⟨q :: p :: ps, List.Perm.swap _ _ _, by rw [List.map_cons, List.map_cons, ← h1, ← h2, ← h3]⟩
  | trans _ _ ih1 ih2 =>
    intro ps h
    obtain ⟨qs, a, b⟩ := ih2 ps h
    obtain ⟨rs, c, d⟩ := ih1 qs b
    exact ⟨rs, c.trans a, d⟩
def pwD (p : List Int × List Int) : D := .tuple [wD p.1, wD p.2]
theorem alike_w (a b : List Int) : PySem.W.alike (wD a) (wD b) = true := by
  show PySem.W.alikeAll (a.map PyData.int) (b.map PyData.int) = true
  exact alikeAll_ints a b
theorem sortOk2_pair (ns : List (List Int × List Int)) : sortOk2 (ns.map pwD) = true := by
  unfold sortOk2
  rw [Bool.and_eq_true, Bool.and_eq_true, Bool.or_eq_true]
  refine ⟨⟨List.all_eq_true.mpr fun d hd => List.all_eq_true.mpr fun e he => ?_, .inl (List.all_eq_true.mpr fun d hd => ?_)⟩, List.all_eq_true.mpr fun d hd => ?_⟩
  · obtain ⟨a, _, rfl⟩ := List.mem_map.mp hd
    obtain ⟨b, _, rfl⟩ := List.mem_map.mp he
    show PySem.W.alikeAll [wD a.1, wD a.2] [wD b.1, wD b.2] = true
    simp [PySem.W.alikeAll, alike_w]
  · obtain ⟨a, _, rfl⟩ := List.mem_map.mp hd; rfl
  · obtain ⟨a, _, rfl⟩ := List.mem_map.mp hd
    exact shaped_wsT [a.1, a.2]
theorem gSortV_pair (ns : List (List Int × List Int)) : ∃ qs : List (List Int × List Int), qs.Perm ns ∧ gSortedV [.list (ns.map pwD)] = .ok (.list (qs.map pwD)) := by
  obtain ⟨qs, h1, h2⟩ := perm_map_back (l := sortD (ns.map pwD)) (List.mergeSort_perm _ _) ns rfl
  refine ⟨qs, h1, ?_⟩
  show R.when (sortOk2 (ns.map pwD)) _ = _
  rw [sortOk2_pair, h2]; rfl
/-- all letters but the last -/
theorem gSl_but {p : List Int} : gSl (wD p) none (some (-((1 : Nat) : Int))) = .ok (wD p.dropLast) := by
  have e : cutD (p.map PyData.int) none (some (-((1 : Nat) : Int))) = p.dropLast.map PyData.int := by
    unfold cutD
    rw [List.dropLast_eq_take, List.map_take]
    show ((p.map PyData.int).drop 0).take (HT.sIx _ _ _ - 0) = _
    rw [List.drop_zero, List.length_map]
    congr 1
    unfold HT.sIx
    simp
    omega
  unfold wD gSl
  dsimp only
  rw [e]
end Dz

set_option maxRecDepth 100000
set_option maxHeartbeats 2000000
namespace PySem
open Sem (wp)
section
variable {prog : Program} {w : World} {A : Around} {E : Value → Shared → Prop} {s : Shared}
theorem call_min_twoH {a b : Value} {Q : Value → Shared → Prop}
    (h : wpAny (model prog w) A.in1 (pyIter (.ref s.heap.objs.size)) (fun it s₂ => ∃ I fp wr G n P St H bt, it = .ref I ∧ WalksS prog w A.in1 I fp wr G n P St ∧ St 0 s₂ ∧ (∀ b ∈ fp, b < s₂.heap.objs.size) ∧ 0 < n ∧
      (∀ b o, H.get? b = some o → b ∉ wr) ∧ (∀ b o, H.get? b = some o → s₂.heap.get? b = some o) ∧ CmpIn prog w A.in1 .Lt H P bt ∧ ∀ v s', P (argBest bt (n - 1)) v → Moved wr G s₂ s' → Q v s') E
      { s with heap := s.heap.push { cls := .type "tuple", data := .seq #[a, b] } }) :
    wpAny (model prog w) A (call (.builtin "min") [a, b]) Q E s := by
  have hname : (toString "min" ++ toString ".loop" : String) = "min.loop" := by decide
  refine call_function_tree F.kind_min F.plain_min F.entry_min (F.args_min2 _ _) ?_
  show wpAny _ A.in1 (Builtin.Builtins.bindParams "min" ["key", "default"] 0 ⟨[], []⟩ >>= _) _ _ s
  refine wpAny_bind (wpAny_of_eq (show Builtin.Builtins.bindParams "min" ["key", "default"] 0 ⟨[], []⟩ = pure [none, none] from rfl) ?_)
  show wpAny _ A.in1 (newTuple [a, b] >>= _) _ _ s
  refine wpAny_bind (wpAny_newObj_type ?_)
  refine wpAny_bind (wpAny_mono h (fun it s₂ h₂ => ?_) fun _ _ e => e)
  obtain ⟨I, fp, wr, G, n, P, St, H, bt, rfl, W, hst, hfp, hn, hw, hkeep, hcmp, hQ⟩ := h₂
  refine wpAny_bind (wpAny_newObj_type ?_)
  have hSf : s₂.heap.objs.size ∉ fp := fun hm => Nat.lt_irrefl _ (hfp _ hm)
  rw [hname]
  refine wpAny_pure ⟨plainId_quiet F.plain_min_loop _, codeAny_min_loop_firstH W H hw bt hcmp s₂.heap.objs.size hSf (fresh_in hkeep) _ hn (fun b o e => Heap.get?_push_of_some _ (hkeep b o e)) (W.frame 0 s₂ _ s₂.toks hst (Nat.le_refl _) fun b _ o e => Heap.get?_push_of_some _ e) (Heap.get?_push_size _ rfl) fun v s' hP hm => ?_⟩
  exact hQ v s' hP (Moved.drop_new (tk := s₂.toks) hm (Nat.le_refl _))
theorem call_max_twoH {a b : Value} {Q : Value → Shared → Prop}
    (h : wpAny (model prog w) A.in1 (pyIter (.ref s.heap.objs.size)) (fun it s₂ => ∃ I fp wr G n P St H bt, it = .ref I ∧ WalksS prog w A.in1 I fp wr G n P St ∧ St 0 s₂ ∧ (∀ b ∈ fp, b < s₂.heap.objs.size) ∧ 0 < n ∧
      (∀ b o, H.get? b = some o → b ∉ wr) ∧ (∀ b o, H.get? b = some o → s₂.heap.get? b = some o) ∧ CmpIn prog w A.in1 .Gt H P bt ∧ ∀ v s', P (argBest bt (n - 1)) v → Moved wr G s₂ s' → Q v s') E
      { s with heap := s.heap.push { cls := .type "tuple", data := .seq #[a, b] } }) :
    wpAny (model prog w) A (call (.builtin "max") [a, b]) Q E s := by
  have hname : (toString "max" ++ toString ".loop" : String) = "max.loop" := by decide
  refine call_function_tree F.kind_max F.plain_max F.entry_max (F.args_max2 _ _) ?_
  show wpAny _ A.in1 (Builtin.Builtins.bindParams "max" ["key", "default"] 0 ⟨[], []⟩ >>= _) _ _ s
  refine wpAny_bind (wpAny_of_eq (show Builtin.Builtins.bindParams "max" ["key", "default"] 0 ⟨[], []⟩ = pure [none, none] from rfl) ?_)
  show wpAny _ A.in1 (newTuple [a, b] >>= _) _ _ s
  refine wpAny_bind (wpAny_newObj_type ?_)
  refine wpAny_bind (wpAny_mono h (fun it s₂ h₂ => ?_) fun _ _ e => e)
  obtain ⟨I, fp, wr, G, n, P, St, H, bt, rfl, W, hst, hfp, hn, hw, hkeep, hcmp, hQ⟩ := h₂
  refine wpAny_bind (wpAny_newObj_type ?_)
  have hSf : s₂.heap.objs.size ∉ fp := fun hm => Nat.lt_irrefl _ (hfp _ hm)
  rw [hname]
  refine wpAny_pure ⟨plainId_quiet F.plain_max_loop _, codeAny_max_loop_firstH W H hw bt hcmp s₂.heap.objs.size hSf (fresh_in hkeep) _ hn (fun b o e => Heap.get?_push_of_some _ (hkeep b o e)) (W.frame 0 s₂ _ s₂.toks hst (Nat.le_refl _) fun b _ o e => Heap.get?_push_of_some _ e) (Heap.get?_push_size _ rfl) fun v s' hP hm => ?_⟩
  exact hQ v s' hP (Moved.drop_new (tk := s₂.toks) hm (Nat.le_refl _))
end
end PySem
namespace PySem.W
open PySem PySem.SeqAt PyProof.Rows
section
variable {prog : Program} {w : World} {A : Around} {E : Value → Shared → Prop} {s : Shared}
theorem min_two_data {a b : Value} {x y : PyData} {as : List Addr} {Q : Value → Shared → Prop} (hh : A.handled = none) (hr : ReadsAll s.heap [a, b] [x, y] as) (ha : AlikeAll [x, y]) (hu : A.units + 1 + PyData.depthAll [x, y] < cLine)
    (h : ∀ (i : Nat) v h' tk bs, [a, b][i]? = some v → Reads h' v (minD x [y]) bs → (∀ b o, s.heap.get? b = some o → h'.get? b = some o) → Q v { s with heap := h', toks := tk }) :
    wpAny (model prog w) A (call (.builtin "min") [a, b]) Q E s := by
  have hk0 : ∀ c o, s.heap.get? c = some o → (s.heap.push { cls := .type "tuple", data := .seq #[a, b] }).get? c = some o := fun c o e => Heap.get?_push_of_some _ e
  have hr2 : ReadsAll (s.heap.push { cls := .type "tuple", data := .seq #[a, b] }) (#[a, b] : Array Value).toList [x, y] as := ReadsAll.keeps hk0 hr
  have hl : Heap.IsTuple (s.heap.push { cls := .type "tuple", data := .seq #[a, b] }) s.heap.objs.size #[a, b] := ⟨_, Heap.get?_push_size _ rfl, rfl, _, rfl⟩
  refine call_min_twoH (iter_tupleW (A := A.in1) (s := { s with heap := s.heap.push { cls := .type "tuple", data := .seq #[a, b] } }) hh hl fun s₂ e W st hfp hw hk => ?_)
  refine ⟨_, _, _, _, _, _, _, (s.heap.push { cls := .type "tuple", data := .seq #[a, b] }), _, rfl, W, st, hfp, by show 0 < 2; omega, hw, hk, cmpIn_lt (A := A.in1) (s := { s with heap := s.heap.push { cls := .type "tuple", data := .seq #[a, b] } }) hr2 ha (by show A.units + 1 + _ < _; exact hu), fun v s' hP m => ?_⟩
  obtain ⟨h', tk, rfl, hk'⟩ := moved_old e rfl m
  obtain ⟨bs, r, _, _, _⟩ := readsAll_atA hr2 _ v hP
  have e2 := (argBest_fold dataLt PyData.none x [y] [y].length (Nat.le_refl _)).2
  rw [List.take_length] at e2
  refine h _ v h' tk bs (by simpa using hP) (reads_keeps hk' (by unfold minD; rw [← e2]; exact r)) fun c o q => hk' c o (hk0 c o q)
theorem max_two_data {a b : Value} {x y : PyData} {as : List Addr} {Q : Value → Shared → Prop} (hh : A.handled = none) (hr : ReadsAll s.heap [a, b] [x, y] as) (ha : AlikeAll [x, y]) (hu : A.units + 1 + PyData.depthAll [x, y] < cLine)
    (h : ∀ (i : Nat) v h' tk bs, [a, b][i]? = some v → Reads h' v (maxD x [y]) bs → (∀ b o, s.heap.get? b = some o → h'.get? b = some o) → Q v { s with heap := h', toks := tk }) :
    wpAny (model prog w) A (call (.builtin "max") [a, b]) Q E s := by
  have hk0 : ∀ c o, s.heap.get? c = some o → (s.heap.push { cls := .type "tuple", data := .seq #[a, b] }).get? c = some o := fun c o e => Heap.get?_push_of_some _ e
  have hr2 : ReadsAll (s.heap.push { cls := .type "tuple", data := .seq #[a, b] }) (#[a, b] : Array Value).toList [x, y] as := ReadsAll.keeps hk0 hr
  have hl : Heap.IsTuple (s.heap.push { cls := .type "tuple", data := .seq #[a, b] }) s.heap.objs.size #[a, b] := ⟨_, Heap.get?_push_size _ rfl, rfl, _, rfl⟩
  refine call_max_twoH (iter_tupleW (A := A.in1) (s := { s with heap := s.heap.push { cls := .type "tuple", data := .seq #[a, b] } }) hh hl fun s₂ e W st hfp hw hk => ?_)
  refine ⟨_, _, _, _, _, _, _, (s.heap.push { cls := .type "tuple", data := .seq #[a, b] }), _, rfl, W, st, hfp, by show 0 < 2; omega, hw, hk, cmpIn_gt (A := A.in1) (s := { s with heap := s.heap.push { cls := .type "tuple", data := .seq #[a, b] } }) hr2 ha (by show A.units + 1 + _ < _; exact hu), fun v s' hP m => ?_⟩
  obtain ⟨h', tk, rfl, hk'⟩ := moved_old e rfl m
  obtain ⟨bs, r, _, _, _⟩ := readsAll_atA hr2 _ v hP
  have e2 := (argBest_fold (fun a b => dataLt b a) PyData.none x [y] [y].length (Nat.le_refl _)).2
  rw [List.take_length] at e2
  refine h _ v h' tk bs (by simpa using hP) (reads_keeps hk' (by unfold maxD; rw [← e2]; exact r)) fun c o q => hk' c o (hk0 c o q)
end
end PySem.W
namespace Dz
open PySem PySem.Spec PyProof.Rows L2
/-! ## min(x, y), max(x, y) of alike data -/
def rMin2A (K : PySem.W.Frag) : List V → Hp → VK → Prop := fun xs H Q => ∃ y z : V × D, xs = [y.1, z.1] ∧ Dp K H y.1 y.2 ∧ Dp K H z.1 z.2 ∧ alikeB [y.2, z.2] = true ∧ ∀ u : V × D, u = y ∨ u = z → u.2 = PySem.W.minD y.2 [z.2] → Q u.1 H
def rMax2A (K : PySem.W.Frag) : List V → Hp → VK → Prop := fun xs H Q => ∃ y z : V × D, xs = [y.1, z.1] ∧ Dp K H y.1 y.2 ∧ Dp K H z.1 z.2 ∧ alikeB [y.2, z.2] = true ∧ ∀ u : V × D, u = y ∨ u = z → u.2 = PySem.W.maxD y.2 [z.2] → Q u.1 H
theorem cr_min2A {X : Cx} {k : Nat} (hr : RmG k X.A) (hc : X.calm = true) : CallR X (.builtin "min") (rMin2A X.K) := by
  intro pins s σ H vs us Q I r h
  obtain ⟨y, z, rfl, hy, hz, hk, q⟩ := h
  obtain ⟨u, v, rfl, r1, r2⟩ := vals2 r
  obtain ⟨as, h1⟩ := Dp.reads I y.2 y.1 u hy r1
  obtain ⟨bs, h2⟩ := Dp.reads I z.2 z.1 v hz r2
  have hR : ReadsAll s.heap [u, v] [y.2, z.2] (as ++ (bs ++ [])) := .cons h1 (.cons h2 .nil)
  have hun := hr.un
  have hdep : PyData.depthAll [y.2, z.2] ≤ 64 := depthAll_of fun d hd => SeqAt.depth_of_shaped (alikeB_shaped hk d hd)
  refine PySem.W.min_two_data (I.ok.hd hc) hR (alikeB_all hk) (by omega) fun i w h' tk cs hv hrd hkp => ?_
  have hw : w = u ∨ w = v := by
    match i, hv with
    | 0, hv => exact .inl (Option.some.inj hv).symm
    | 1, hv => exact .inr (Option.some.inj hv).symm
    | _ + 2, hv => exact absurd hv (by simp)
  rcases hw with rfl | rfl
  · have hsh := alikeB_shaped hk y.2 List.mem_cons_self
    have heq := SeqAt.Reads.unique y.2 _ w as cs (SeqAt.canLay_of_shaped hsh) (Reads.keeps hkp h1) hrd
    exact ⟨y.1, H, I.kept hkp, r1, q y (.inl rfl) heq⟩
  · have hsh := alikeB_shaped hk z.2 (List.mem_cons_of_mem _ List.mem_cons_self)
    have heq := SeqAt.Reads.unique z.2 _ w bs cs (SeqAt.canLay_of_shaped hsh) (Reads.keeps hkp h2) hrd
    exact ⟨z.1, H, I.kept hkp, r2, q z (.inr rfl) heq⟩
theorem cr_max2A {X : Cx} {k : Nat} (hr : RmG k X.A) (hc : X.calm = true) : CallR X (.builtin "max") (rMax2A X.K) := by
  intro pins s σ H vs us Q I r h
  obtain ⟨y, z, rfl, hy, hz, hk, q⟩ := h
  obtain ⟨u, v, rfl, r1, r2⟩ := vals2 r
  obtain ⟨as, h1⟩ := Dp.reads I y.2 y.1 u hy r1
  obtain ⟨bs, h2⟩ := Dp.reads I z.2 z.1 v hz r2
  have hR : ReadsAll s.heap [u, v] [y.2, z.2] (as ++ (bs ++ [])) := .cons h1 (.cons h2 .nil)
  have hun := hr.un
  have hdep : PyData.depthAll [y.2, z.2] ≤ 64 := depthAll_of fun d hd => SeqAt.depth_of_shaped (alikeB_shaped hk d hd)
  refine PySem.W.max_two_data (I.ok.hd hc) hR (alikeB_all hk) (by omega) fun i w h' tk cs hv hrd hkp => ?_
  have hw : w = u ∨ w = v := by
    match i, hv with
    | 0, hv => exact .inl (Option.some.inj hv).symm
    | 1, hv => exact .inr (Option.some.inj hv).symm
    | _ + 2, hv => exact absurd hv (by simp)
  rcases hw with rfl | rfl
  · have hsh := alikeB_shaped hk y.2 List.mem_cons_self
    have heq := SeqAt.Reads.unique y.2 _ w as cs (SeqAt.canLay_of_shaped hsh) (Reads.keeps hkp h1) hrd
    exact ⟨y.1, H, I.kept hkp, r1, q y (.inl rfl) heq⟩
  · have hsh := alikeB_shaped hk z.2 (List.mem_cons_of_mem _ List.mem_cons_self)
    have heq := SeqAt.Reads.unique z.2 _ w bs cs (SeqAt.canLay_of_shaped hsh) (Reads.keeps hkp h2) hrd
    exact ⟨z.1, H, I.kept hkp, r2, q z (.inr rfl) heq⟩
def gMin2A : List D → R D
  | [d, e] => R.when (alikeB [d, e]) (.ok (PySem.W.minD d [e]))
  | _ => .no
def gMax2A : List D → R D
  | [d, e] => R.when (alikeB [d, e]) (.ok (PySem.W.maxD d [e]))
  | _ => .no
theorem v_min2A {K : PySem.W.Frag} : OpN K (rMin2A K) gMin2A := fun xs H Z as c Q hz r h hq => by
  unfold gMin2A at h
  split at h
  · rename_i d e
    obtain ⟨h1, h2⟩ := R.of_when h
    cases h2
    cases r with
    | @cons v _ _ _ r1 t =>
      cases t with
      | @cons v2 _ _ _ r2 t =>
        cases t
        have s1 := SeqAt.canLay_of_shaped (alikeB_shaped h1 d List.mem_cons_self)
        have s2 := SeqAt.canLay_of_shaped (alikeB_shaped h1 e (List.mem_cons_of_mem _ List.mem_cons_self))
        refine ⟨(v, d), (v2, e), rfl, r1.dp hz s1, r2.dp hz s2, h1, fun u hu hm => ?_⟩
        have hrep : Rep K Z u.1 u.2 := by
          rcases hu with rfl | rfl
          · exact r1
          · exact r2
        rw [hm] at hrep
        exact hq _ _ _ (Gr.refl hz) hrep
  · cases h
theorem v_max2A {K : PySem.W.Frag} : OpN K (rMax2A K) gMax2A := fun xs H Z as c Q hz r h hq => by
  unfold gMax2A at h
  split at h
  · rename_i d e
    obtain ⟨h1, h2⟩ := R.of_when h
    cases h2
    cases r with
    | @cons v _ _ _ r1 t =>
      cases t with
      | @cons v2 _ _ _ r2 t =>
        cases t
        have s1 := SeqAt.canLay_of_shaped (alikeB_shaped h1 d List.mem_cons_self)
        have s2 := SeqAt.canLay_of_shaped (alikeB_shaped h1 e (List.mem_cons_of_mem _ List.mem_cons_self))
        refine ⟨(v, d), (v2, e), rfl, r1.dp hz s1, r2.dp hz s2, h1, fun u hu hm => ?_⟩
        have hrep : Rep K Z u.1 u.2 := by
          rcases hu with rfl | rfl
          · exact r1
          · exact r2
        rw [hm] at hrep
        exact hq _ _ _ (Gr.refl hz) hrep
  · cases h
def gMin2X (as : List D) : R D := match as with
  | [.int i, .int j] => gMin2 [.int i, .int j]
  | as => gMin2A as
def gMax2X (as : List D) : R D := match as with
  | [.int i, .int j] => gMax2 [.int i, .int j]
  | as => gMax2A as
theorem v_min2X {K : PySem.W.Frag} : OpN K (fun xs H Q => (∃ i j, xs = [.int i, .int j] ∧ Q (.int (if j < i then j else i)) H) ∨ rMin2A K xs H Q) gMin2X := fun xs H Z as c Q hz r h hq => by
  unfold gMin2X at h
  split at h
  · exact .inl (v_min2 xs H Z _ c Q hz r h hq)
  · exact .inr (v_min2A xs H Z _ c Q hz r h hq)
theorem v_max2X {K : PySem.W.Frag} : OpN K (fun xs H Q => (∃ i j, xs = [.int i, .int j] ∧ Q (.int (if j > i then j else i)) H) ∨ rMax2A K xs H Q) gMax2X := fun xs H Z as c Q hz r h hq => by
  unfold gMax2X at h
  split at h
  · exact .inl (v_max2 xs H Z _ c Q hz r h hq)
  · exact .inr (v_max2A xs H Z _ c Q hz r h hq)
theorem cr_min2X {X : Cx} {k : Nat} (hr : RmG k X.A) (hc : X.calm = true) : CallR X (.builtin "min") (fun xs H Q => (∃ i j, xs = [.int i, .int j] ∧ Q (.int (if j < i then j else i)) H) ∨ rMin2A X.K xs H Q) := (call_min2 hc).or (cr_min2A hr hc)
theorem cr_max2X {X : Cx} {k : Nat} (hr : RmG k X.A) (hc : X.calm = true) : CallR X (.builtin "max") (fun xs H Q => (∃ i j, xs = [.int i, .int j] ∧ Q (.int (if j > i then j else i)) H) ∨ rMax2A X.K xs H Q) := (call_max2 hc).or (cr_max2A hr hc)
theorem dataLt_w (a b : List Int) : PySem.W.dataLt (wD a) (wD b) = decide (a < b) := by
  show PySem.W.dataLt (.tuple (a.map .int)) (.tuple (b.map .int)) = _
  rw [PySem.W.dataLt_tuple]
  exact PySem.W.dataLt_ints a b
theorem alikeB_w (a b : List Int) : alikeB [wD a, wD b] = true := by
  unfold alikeB
  simp only [List.all_cons, List.all_nil, Bool.and_true, alike_w, shaped_wD]
  rfl
theorem gMin2X_w (a b : List Int) : gMin2X [wD a, wD b] = .ok (wD (if b < a then b else a)) := by
  show R.when (alikeB [wD a, wD b]) (R.ok (if PySem.W.dataLt (wD b) (wD a) = true then wD b else wD a)) = _
  rw [alikeB_w, dataLt_w, R.when_true]
  by_cases h : b < a
  · rw [decide_eq_true h, if_pos rfl, if_pos h]
  · rw [decide_eq_false h, if_neg (by simp), if_neg h]
theorem gMax2X_w (a b : List Int) : gMax2X [wD a, wD b] = .ok (wD (if a < b then b else a)) := by
  show R.when (alikeB [wD a, wD b]) (R.ok (if PySem.W.dataLt (wD a) (wD b) = true then wD b else wD a)) = _
  rw [alikeB_w, dataLt_w, R.when_true]
  by_cases h : a < b
  · rw [decide_eq_true h, if_pos rfl, if_pos h]
  · rw [decide_eq_false h, if_neg (by simp), if_neg h]
theorem gMax2X_nat (a b : Nat) : gMax2X [.int (a : Int), .int (b : Int)] = .ok (.int ((max a b : Nat) : Int)) := gMax2_nat a b
theorem gMin2X_nat (a b : Nat) : gMin2X [.int (a : Int), .int (b : Int)] = .ok (.int ((min a b : Nat) : Int)) := gMin2_nat a b
end Dz

set_option maxRecDepth 100000
set_option maxHeartbeats 2000000
namespace Dz
open PySem PySem.Spec PyProof.Rows L2
/-! ## words compared -/
theorem alks_ints (c : Cop) : ∀ a b : List Int, alks c (a.map PyData.int) (b.map PyData.int) = true
  | [], _ => by simp [alks]
  | _ :: _, [] => by simp [alks]
  | x :: a, y :: b => by
    rw [List.map_cons, List.map_cons, alks, alks_ints c a b]
    simp [alk]
theorem cmpVs_lt : ∀ a b : List Int, cmpVs .lt (a.map PyData.int) (b.map PyData.int) = decide (a < b)
  | [], [] => by simp [cmpVs, Cop.n]
  | [], _ :: _ => by simp [cmpVs, Cop.n]
  | _ :: _, [] => by simp [cmpVs, Cop.n]
  | x :: a, y :: b => by
    rw [List.map_cons, List.map_cons, cmpVs, cmpVs_lt a b]
    by_cases h : x = y
    · subst h
      simp [PyData.eqv, List.cons_lt_cons_iff]
    · simp [PyData.eqv, h, cmpV, Cop.i, List.cons_lt_cons_iff]
theorem cmpVs_le : ∀ a b : List Int, cmpVs .le (a.map PyData.int) (b.map PyData.int) = decide (a ≤ b)
  | [], [] => by simp [cmpVs, Cop.n]
  | [], _ :: _ => by simp [cmpVs, Cop.n]
  | _ :: _, [] => by simp [cmpVs, Cop.n]
  | x :: a, y :: b => by
    rw [List.map_cons, List.map_cons, cmpVs, cmpVs_le a b]
    by_cases h : x = y
    · subst h
      simp [PyData.eqv, List.cons_le_cons_iff]
    · simp only [PyData.eqv, cmpV, Cop.i, List.cons_le_cons_iff]
      simp [h]
      omega
theorem gLt_w (a b : List Int) : gCmp .lt (wD a) (wD b) = .ok (.bool (decide (a < b))) := by
  show R.when (SeqAt.shaped (wD a) && SeqAt.shaped (wD b) && alks .lt (a.map PyData.int) (b.map PyData.int)) (R.ok (PyData.bool (cmpVs .lt (a.map PyData.int) (b.map PyData.int)))) = _
  rw [shaped_wD, shaped_wD, alks_ints, cmpVs_lt]; rfl
theorem gLe_w (a b : List Int) : gCmp .le (wD a) (wD b) = .ok (.bool (decide (a ≤ b))) := by
  show R.when (SeqAt.shaped (wD a) && SeqAt.shaped (wD b) && alks .le (a.map PyData.int) (b.map PyData.int)) (R.ok (PyData.bool (cmpVs .le (a.map PyData.int) (b.map PyData.int)))) = _
  rw [shaped_wD, shaped_wD, alks_ints, cmpVs_le]; rfl
end Dz

set_option maxRecDepth 100000
set_option maxHeartbeats 4000000
/-! enumerate over a tuple, a list -/
namespace Dz
open PySem PySem.Spec PyProof.Rows L2
theorem meets_enumerate_new1 {v : Value} {o : Obj} {H : Heap → Prop} (B : Begins v o H) :
    Meets (Builtin.«enumerate.__new__» ⟨[.type "enumerate", v], []⟩) (fun _ R s => H s.heap ∧
      R (.ok (.ret (.ref (s.heap.push o).objs.size))) { s with heap := (s.heap.push o).push { cls := .type "enumerate", data := .fields #[.none, .bool false, .ref s.heap.objs.size, rawInt 0, .none, .none] } }) :=
  .of_wp fun prog w A R s h => by
    obtain ⟨hp, g, d, tk, os⟩ := s; obtain ⟨h1, h⟩ := h
    have hsub := sub_enumerate
    have q1 : ∀ {A' : Around} {E : Value → Shared → Prop} {Q : Value → Shared → Prop}, Q (.ref hp.objs.size) ⟨hp.push o, g, d, tk, os⟩ → wpAny (model prog w) A' (pyIter v) Q E ⟨hp, g, d, tk, os⟩ :=
      fun q => B.iter prog w _ _ ⟨hp, g, d, tk, os⟩ _ h1 q
    wp_walk using q1
    refine wpAny_stack_any fun st => wpAny_pure ?_
    split
    · rename_i c _ _ _ _ _
      cases (c == Value.type "enumerate")
      · wp_walk using q1
        exact ⟨_, rfl, h⟩
      · wp_walk using q1
        exact ⟨_, rfl, h⟩
    · wp_walk using q1
      exact ⟨_, rfl, h⟩
theorem call_enumerate_tuple {prog : Program} {w : World} {A : Around} {E : Value → Shared → Prop} {s : Shared} {t : Addr} {items : Array Value} {Q : Value → Shared → Prop} (hL : s.heap.IsTuple t items)
    (h : ∀ h', IsEnum h' (s.heap.objs.size + 1) s.heap.objs.size 0 .none → h'.IsTupleIter s.heap.objs.size t 0 → h'.objs.size = s.heap.objs.size + 2 →
      (∀ b o, s.heap.get? b = some o → h'.get? b = some o) → Q (.ref (s.heap.objs.size + 1)) { s with heap := h' }) :
    wpAny (model prog w) A (call (.type "enumerate") [.ref t]) Q E s := by
  refine callType_new F.called_enumerate (by decide) (F.typeCall_enumerate_1 _) (F.newCall_enumerate_1 _) (fun obj => F.args_object_init_2 obj _) F.entry_enumerate_new
    (meets_enumerate_new1 (begins_tuple t items)) ⟨hL, ?_⟩
  have hz : (s.heap.push { cls := .type "tuple_iterator", data := .fields #[.ref t, .int 0 0] }).objs.size = s.heap.objs.size + 1 := Heap.size_push ..
  show _ ∧ _
  rw [hz]
  have he : IsEnum ((s.heap.push { cls := .type "tuple_iterator", data := .fields #[.ref t, .int 0 0] }).push
      { cls := .type "enumerate", data := .fields #[.none, .bool false, .ref s.heap.objs.size, rawInt 0, .none, .none] }) (s.heap.objs.size + 1) s.heap.objs.size 0 .none := by
    have := Heap.get?_push_size (s.heap.push { cls := .type "tuple_iterator", data := .fields #[.ref t, .int 0 0] })
      (o := { cls := .type "enumerate", data := .fields #[.none, .bool false, .ref s.heap.objs.size, rawInt 0, .none, .none] }) rfl
    rw [hz] at this; exact this
  refine ⟨⟨_, he, rfl⟩, h _ he ⟨_, Heap.get?_push_of_some _ (Heap.get?_push_size _ rfl), rfl, rfl⟩ (by rw [Heap.size_push, hz]) fun b o x => Heap.get?_push_of_some _ (Heap.get?_push_of_some _ x)⟩
def Itet (K : PySem.W.Frag) (a : Addr) : It :=
  ⟨fun i H => ∃ (xs : List V) (x : V), SqT K H a xs ∧ xs[i]? = some x, fun i H v H' => ∃ T x, v = .ref T ∧ H T = none ∧ H' = upd H T (.tup [.int (i : Nat), x]) ∧ ∀ xs, SqT K H a xs → xs[i]? = some x, fun i H => ∃ xs : List V, SqT K H a xs ∧ xs.length = i⟩
theorem turn_enumT {P : Program} {w : World} {K : PySem.W.Frag} {elts : List Expr} {kk : Nat} {tpos : Pos} (a e it : Addr) :
    Turn P w K (.Tuple elts kk tpos) (Itet K a) [e, it] e (fun i h => (∃ old, IsEnum h e it ((i : Nat) : Int) old) ∧ h.IsTupleIter it a i ∧ e ≠ it ∧ a ≠ e ∧ a ≠ it) where
  mem := by simp
  obj := fun i h st b hb => by
    obtain ⟨⟨old, he⟩, ⟨o, ho, hc, hd⟩, _⟩ := st
    have e' : b = e ∨ b = it := by simpa using hb
    rcases e' with z | z
    · rw [z]; exact ⟨_, he, fun v q => nomatch q⟩
    · rw [z]; exact ⟨o, ho, fun v q => by rw [hd] at q; cases q⟩
  keep := fun i h h' st k => let ⟨⟨old, he⟩, hi, hne⟩ := st; ⟨⟨old, k e (by simp) _ he⟩, hi.at fun o q => k it (by simp) o q, hne⟩
  item := by
    intro X hP hw hK hc i pins s σ H E I hf st hg
    subst hP hw hK
    obtain ⟨⟨old, he⟩, hit, hne, hae, hai⟩ := st
    obtain ⟨xs, x, hq, hx⟩ := hg
    obtain ⟨its, rv, p, hz⟩ := I.tuple hq
    obtain ⟨u, hu, ru⟩ := rv.get hx
    have hel : e < s.heap.objs.size := Heap.lt_size he
    have hil : it < s.heap.objs.size := by obtain ⟨_, q, _⟩ := hit; exact Heap.lt_size q
    have p : s.heap.IsTuple a its.toArray := p
    have hl : i < its.toArray.size := by
      rw [List.size_toArray]
      exact (List.getElem?_eq_some_iff.mp hu).1
    refine wpAny_pyNext_enum_itemC (Draws.tuple (prog := X.prog) (w := X.w) (A := X.A.in1) (show X.A.in1.handled = none from I.ok.hd hc) it a hai its.toArray) he ⟨hit, p⟩ hl hne (by simp [hne, Ne.symm hae]) fun x0 h' tk hP ho hit' hT hsz hk => ?_
    have hxu : x0 = u := by
      have h1 : its.toArray[i]? = some x0 := hP
      have h2 : its.toArray[i]? = some u := by simpa using hu
      rw [h1] at h2; exact Option.some.inj h2
    subst hxu
    refine ⟨_, rfl, wpAny_letOwnedTupleGo_enum (s := { s with heap := h', toks := tk + 1 }) ho fun h'' he' sb => ?_⟩
    have hT2 : h''.get? s.heap.objs.size = some { cls := .type "tuple", data := .seq #[.int i tk, x0] } := (sb.2 _ (Nat.ne_of_gt hel)).trans hT
    have new : ObjOk X.prog X.w (upd H s.heap.objs.size (.tup [.int (i : Nat), x])) h'' s.heap.objs.size (.tup [.int (i : Nat), x]) :=
      ⟨by show 2 ≤ sizeLine; decide, [.int i tk, x0], .cons ⟨_, rfl⟩ (.cons ru .nil), ⟨_, hT2, rfl, _, rfl⟩⟩
    have I1 : Inv X pins σ (upd H s.heap.objs.size (.tup [.int (i : Nat), x])) { s with heap := h'', toks := tk + 1 } :=
      I.turnedNew (ch := [e, it]) (fun b ob hb q => (sb.2 b (fun z => hb (by simp [z]))).trans (hk b ob (fun z => hb (by simp [z])) (fun z => hb (by simp [z])) q)) hf (Nat.le_refl _) new
    refine ⟨.ref s.heap.objs.size, _, I1, rfl, ⟨_, x, rfl, I.hok.fresh (Nat.le_refl _), rfl, fun ys hy => by rw [I.tuple_inj hy hq]; exact hx⟩, ⟨⟨x0, ?_⟩, hit'.1.at fun o q => (sb.2 it (Ne.symm hne)).trans q, hne, hae, hai⟩, fun b hb => ?_⟩
    · have e1 : ((i + 1 : Nat) : Int) = (i : Int) + 1 := by omega
      rw [e1]; exact he'
    · have hb' : b < s.heap.objs.size := by
        have e' : b = e ∨ b = it := by simpa using hb
        rcases e' with z | z
        · rw [z]; exact hel
        · rw [z]; exact hil
      rw [upd_ne (Nat.ne_of_lt hb')]
      exact (hf b hb).1
  done := by
    intro X hP hw hK hc i pins s σ H E I hf st hg
    subst hP hw hK
    obtain ⟨⟨old, he⟩, hit, hne, hae, hai⟩ := st
    obtain ⟨xs, hq, hx⟩ := hg
    obtain ⟨its, rv, p, hz⟩ := I.tuple hq
    obtain ⟨f0, f1, f2, f3, f4, f5⟩ := hf it (by simp)
    have hl := rv.length
    have p : s.heap.IsTuple a its.toArray := p
    have hn : i = its.toArray.size := by rw [List.size_toArray]; omega
    have hst : s.heap.IsTupleIter it a its.toArray.size := hn ▸ hit
    exact wpAny_pyNext_enum_endD (Draws.tuple (prog := X.prog) (w := X.w) (A := X.A.in1) (show X.A.in1.handled = none from I.ok.hd hc) it a hai its.toArray) he ⟨hst, p⟩ fun h' eb => ⟨rfl, I.turned (t' := s.toks) (fun b o hb q => eb b o hb q) f0 f1 f3 f4 f5⟩
  self := fun A i s Q E st h => let ⟨⟨_, he⟩, _⟩ := st; wpAny_pyIter_enum he h
def iEnumT (K : PySem.W.Frag) (ta : TA) : TI := fun σ H R => ta σ H fun vs H1 => ∃ a xs, vs = [.ref a] ∧ SqT K H1 a xs ∧ R (Itet K a) H1
theorem pi_enumT {X : Cx} {e : Expr} {ta : TA} {p pos tpos : Pos} {elts : List Expr} {kk : Nat} (hg : Gl X "enumerate") (hm : X.mg "enumerate" = none) (ha : PA X [e] ta) (hs : starEach [e] X.env = [(false, eval e X.env)] := by rfl) :
    PI X (.Tuple elts kk tpos) (.Call (.Name "enumerate" p) [e] [] pos) (iEnumT X.K ta) := by
  refine ⟨fun pins s σ H R I h => ?_⟩
  refine Call_ (ld_blt I hg hm boot_enumerate (PyProof.Rows.callWith_type1 (thn (ha.run pos pins s σ H _ I h) fun us s1 ⟨vs, H1, I1, r1, q1⟩ => ?_) hs rfl))
  obtain ⟨a, xs, ex, hq, q⟩ := q1
  subst ex
  cases r1 with
  | cons r rr =>
    cases rr
    cases r
    obtain ⟨its, rv, p', hz⟩ := I1.tuple hq
    have p' : s1.heap.IsTuple a its.toArray := p'
    have hal : a < s1.heap.objs.size := by obtain ⟨_, q, _⟩ := p'; exact Heap.lt_size q
    refine call_enumerate_tuple p' fun h' he hit hsz hk => wpAny_pyIter_enum he ?_
    have I2 : Inv X pins σ H1 { s1 with heap := h' } := I1.kept (t' := s1.toks) hk
    refine ⟨s1.heap.objs.size + 1, [s1.heap.objs.size + 1, s1.heap.objs.size], _, _, H1, rfl, I2, turn_enumT a (s1.heap.objs.size + 1) s1.heap.objs.size, ⟨⟨.none, he⟩, hit, Nat.succ_ne_self _, Nat.ne_of_lt (Nat.lt_succ_of_lt hal), Nat.ne_of_lt hal⟩, fun b hb => ?_, q⟩
    have e' : b = s1.heap.objs.size + 1 ∨ b = s1.heap.objs.size := by simpa using hb
    have hle : s1.heap.objs.size ≤ b := by
      rcases e' with z | z
      · rw [z]; exact Nat.le_add_right _ _
      · rw [z]; exact Nat.le_refl _
    exact I1.fpOk hle (I1.hok.fresh hle)
def enD (ds : List D) : List D := ds.mapIdx fun i d => .tuple [.int (i : Nat), d]
theorem enD_get {ds : List D} {i : Nat} : (enD ds)[i]? = ds[i]?.map fun d => PyData.tuple [.int (i : Nat), d] := by unfold enD; rw [List.getElem?_mapIdx]
theorem enD_len {ds : List D} : (enD ds).length = ds.length := by unfold enD; rw [List.length_mapIdx]
theorem itok_enumL {K : PySem.W.Frag} {Z : Hp} {a : Addr} {vs : List V} {ds : List D} (t : Z a = some (.lst vs)) (q : Reps K Z vs ds) : ItOk K (Ite K a) Z (enD ds) where
  go := fun i H hi e => ⟨vs, vs[i]'(by rw [q.length, ← enD_len]; exact hi), .inl (.inl (e _ _ t)), by rw [enD_len] at hi; simp [q.length, hi]⟩
  stop := fun H e => ⟨vs, .inl (.inl (e _ _ t)), by rw [q.length, enD_len]; exact Nat.le_refl _⟩
  yld := fun i H x H' Z1 hi e e' y => by
    obtain ⟨T, u, rfl, hT, rfl, y⟩ := y
    obtain ⟨d, h1, h2⟩ := q.getV (y vs (.inl (.inl (e' _ _ (e _ _ t)))))
    have n : Z1 T = none := e'.free hT
    refine ⟨upd Z1 T (.tup [.int (i : Nat), u]), .tuple [.int (i : Nat), d], Gr.new e' hT, by rw [enD_get, h1]; rfl, .tup (.inl upd_same) (.cons (.int _) (.cons ((h2.mono e).mono (same_upd n)) .nil))⟩
theorem itok_enumT {K : PySem.W.Frag} {Z : Hp} {a : Addr} {vs : List V} {ds : List D} (t : TpAt K Z a vs) (q : Reps K Z vs ds) : ItOk K (Itet K a) Z (enD ds) where
  go := fun i H hi e => ⟨vs, vs[i]'(by rw [q.length, ← enD_len]; exact hi), same_seqT e t, by rw [enD_len] at hi; simp [q.length, hi]⟩
  stop := fun H e => ⟨vs, same_seqT e t, by rw [q.length, enD_len]⟩
  yld := fun i H x H' Z1 hi e e' y => by
    obtain ⟨T, u, rfl, hT, rfl, y⟩ := y
    obtain ⟨d, h1, h2⟩ := q.getV (y vs (same_seqT (e.trans e') t))
    have n : Z1 T = none := e'.free hT
    refine ⟨upd Z1 T (.tup [.int (i : Nat), u]), .tuple [.int (i : Nat), d], Gr.new e' hT, by rw [enD_get, h1]; rfl, .tup (.inl upd_same) (.cons (.int _) (.cons ((h2.mono e).mono (same_upd n)) .nil))⟩
def cEnum (f : PF) : IF := fun env => ((f env).bind itemsOf).bind fun ds => .ok (enD ds)
theorem di_enum {X : Cx} {us : List Nat} {e : Expr} {f : PF} {p pos tpos : Pos} {elts : List Expr} {kk : Nat} (hg : Gl X "enumerate") (hm : X.mg "enumerate" = none) (h : DP X us e f) (hs : starEach [e] X.env = [(false, eval e X.env)] := by rfl) :
    DI X us (.Tuple elts kk tpos) (.Call (.Name "enumerate" p) [e] [] pos) (cEnum f) := by
  obtain ⟨u, h1, h2⟩ := (da_cons h da_nil hs).ex
  refine ⟨_, pi_or (pi_enum hg hm h1 hs) (pi_enumT hg hm h1 hs), fun σ H Z env ds Q hz he hf hq => ?_⟩
  obtain ⟨xs, e0, e4⟩ := R.of_bind hf
  obtain ⟨d, e1, e2⟩ := R.of_bind e0
  cases e4
  unfold itemsOf at e2
  split at e2
  · cases e2
    refine .inl (h2 σ H Z env [.list xs] _ hz he (by simp [aCons, aNil, e1]) fun vs Z1 H1 g r => ?_)
    cases r with
    | cons r rr =>
      cases rr
      cases r with
      | lst t q => exact ⟨_, _, rfl, .inl (.inl (g.zh _ _ t)), hq _ Z1 H1 g (itok_enumL t q)⟩
  · cases e2
    refine .inr (h2 σ H Z env [.tuple xs] _ hz he (by simp [aCons, aNil, e1]) fun vs Z1 H1 g r => ?_)
    cases r with
    | cons r rr =>
      cases rr
      cases r with
      | tup t q => exact ⟨_, _, rfl, same_seqT g.zh t, hq _ Z1 H1 g (itok_enumT t q)⟩
  · cases e2
end Dz

set_option maxRecDepth 100000
set_option maxHeartbeats 2000000
namespace Dz
open PySem PySem.Spec PyProof.Rows L2
/-! ## slices whose ends draw -/
section
variable {env : Env} {d r : D} {Q : D → Env → Prop}
def slT2 (d : D) (Q : D → Env → Prop) : D → Env → Prop := fun k e => ∃ (p : Int) (r : D), k = .int p ∧ gSl d none (some p) = .ok r ∧ Q r e
def slT1 (g : EF) (Q : D → Env → Prop) : D → Env → Prop := fun d e => Wx g e (slT2 d Q)
theorem slT1_ok {g : EF} (h : Wx g env (slT2 d Q)) : slT1 g Q d env := h
theorem slT2_ok {p : Int} (h : gSl d none (some p) = .ok r) (q : Q r env) : slT2 d Q (.int p) env := ⟨p, r, rfl, h, q⟩
theorem wx_eSlT {f g : EF} (h : Wx f env (slT1 g Q)) : Wx (eSl f eNoPart (ePart g)) env Q := by
  obtain ⟨d, e, h1, k, e2, h2, p, r, rfl, h3, q⟩ := h
  refine ⟨_, _, ?_, q⟩
  unfold eSl
  rw [h1, R.bind_ok]
  show R.bind (ePart g e) _ = _
  unfold ePart
  rw [h2]
  show R.bind (gSl d none (some p)) _ = _
  rw [h3]
  rfl
def slF2 (d : D) (Q : D → Env → Prop) : D → Env → Prop := fun k e => ∃ (p : Int) (r : D), k = .int p ∧ gSl d (some p) none = .ok r ∧ Q r e
def slF1 (g : EF) (Q : D → Env → Prop) : D → Env → Prop := fun d e => Wx g e (slF2 d Q)
theorem slF1_ok {g : EF} (h : Wx g env (slF2 d Q)) : slF1 g Q d env := h
theorem slF2_ok {p : Int} (h : gSl d (some p) none = .ok r) (q : Q r env) : slF2 d Q (.int p) env := ⟨p, r, rfl, h, q⟩
theorem wx_eSlF {f g : EF} (h : Wx f env (slF1 g Q)) : Wx (eSl f (ePart g) eNoPart) env Q := by
  obtain ⟨d, e, h1, k, e2, h2, p, r, rfl, h3, q⟩ := h
  refine ⟨_, _, ?_, q⟩
  unfold eSl
  rw [h1, R.bind_ok]
  show R.bind (ePart g e) _ = _
  unfold ePart
  rw [h2]
  show R.bind (gSl d (some p) none) _ = _
  rw [h3]
  rfl
end
/-! ## enumerate -/
theorem enD_w {w : List Int} : enD (w.map PyData.int) = (List.range w.length).map fun (i : Nat) => PyData.tuple [.int (i : Int), .int (w.getD i 0)] := by
  apply List.ext_getElem?
  intro i
  rw [enD_get, List.getElem?_map, List.getElem?_map]
  rcases Nat.lt_or_ge i w.length with h | h
  · rw [List.getElem?_range h, List.getElem?_eq_getElem h]
    simp [List.getD_eq_getElem?_getD, List.getElem?_eq_getElem h]
  · rw [List.getElem?_eq_none (by simpa using h), List.getElem?_eq_none (by simpa using h)]; rfl
theorem enD_ws {ws : List (List Int)} : enD (ws.map wD) = (List.range ws.length).map fun (i : Nat) => PyData.tuple [.int (i : Int), wD (ws.getD i [])] := by
  apply List.ext_getElem?
  intro i
  rw [enD_get, List.getElem?_map, List.getElem?_map]
  rcases Nat.lt_or_ge i ws.length with h | h
  · rw [List.getElem?_range h, List.getElem?_eq_getElem h]
    simp [List.getD_eq_getElem?_getD, List.getElem?_eq_getElem h]
  · rw [List.getElem?_eq_none (by simpa using h), List.getElem?_eq_none (by simpa using h)]; rfl
theorem cEnum_w {f : PF} {env : Env} {w : List Int} (h : f env = .ok (wD w)) : cEnum f env = .ok ((List.range w.length).map fun (i : Nat) => PyData.tuple [.int (i : Int), .int (w.getD i 0)]) := by
  unfold cEnum
  rw [h, R.bind_ok, itemsOf_wD, R.bind_ok, enD_w]
theorem cEnum_l {f : PF} {env : Env} {w : List Int} (h : f env = .ok (.list (w.map PyData.int))) : cEnum f env = .ok ((List.range w.length).map fun (i : Nat) => PyData.tuple [.int (i : Int), .int (w.getD i 0)]) := by
  unfold cEnum
  rw [h, R.bind_ok, itemsOf_list, R.bind_ok, enD_w]
theorem cEnum_ws {f : PF} {env : Env} {ws : List (List Int)} (h : f env = .ok (.list (ws.map wD))) : cEnum f env = .ok ((List.range ws.length).map fun (i : Nat) => PyData.tuple [.int (i : Int), wD (ws.getD i [])]) := by
  unfold cEnum
  rw [h, R.bind_ok, itemsOf_list, R.bind_ok, enD_ws]
theorem cEnum_wsT {f : PF} {env : Env} {ws : List (List Int)} (h : f env = .ok (.tuple (ws.map wD))) : cEnum f env = .ok ((List.range ws.length).map fun (i : Nat) => PyData.tuple [.int (i : Int), wD (ws.getD i [])]) := by
  unfold cEnum
  rw [h, R.bind_ok, itemsOf_tuple, R.bind_ok, enD_ws]
/-- a loop whose target is set first -/
theorem exW' {gt : GF} {d : D} {env e1 : Env} {P : Env → Prop} (h : gt d env = .ok e1) (q : P e1) : ∃ e, gt d env = .ok e ∧ P e := ⟨_, h, q⟩
theorem cBin_gAdd_wD {a b : List Int} (h : a.length + b.length ≤ sizeLine) : gAdd (wD a) (wD b) = .ok (wD (a ++ b)) := gAdd_wD h
/-! ## own dicts: d.get(k, v) of lists -/
theorem fold_flat {α β : Type} (g : α → List β) : ∀ (l : List α) (s : List β), l.foldl (fun s x => s ++ g x) s = s ++ l.flatMap g
  | [], s => by simp
  | a :: l, s => by rw [List.foldl_cons, fold_flat g l, List.flatMap_cons, List.append_assoc]
/-! ## range(n - 1, -1, -1) -/
theorem cRng3_ok' {f g k : PF} {env : Env} {i j c : Int} (h1 : f env = .ok (.int i)) (h2 : g env = .ok (.int j)) (h3 : k env = .ok (.int c)) (h : rg3B i j c = true) : cRng3 f g k env = .ok (rg3D i c (Builtin.Range.rangeSize i j c).toNat) := by
  unfold cRng3
  rw [h1, R.bind_ok, h2, R.bind_ok, h3, R.bind_ok]
  dsimp only
  rw [h, R.when_true]
theorem rg3_down {n : Nat} (hn : n ≤ 1000) : rg3B ((n : Int) - 1) (-1) (-1) = true ∧ (Builtin.Range.rangeSize ((n : Int) - 1) (-1) (-1)).toNat = n := by
  have h : ((List.range 1001).all fun n => rg3B ((n : Int) - 1) (-1) (-1) && decide ((Builtin.Range.rangeSize ((n : Int) - 1) (-1) (-1)).toNat = n)) = true := by decide +kernel
  have := List.all_eq_true.mp h n (List.mem_range.mpr (by omega))
  rw [Bool.and_eq_true, decide_eq_true_eq] at this
  exact this
theorem cRng3_down {f g k : PF} {env : Env} {n : Nat} (h1 : f env = .ok (.int ((n : Int) - 1))) (h2 : g env = .ok (.int (-((1 : Nat) : Int)))) (h3 : k env = .ok (.int (-((1 : Nat) : Int)))) (hn : n ≤ 1000) : cRng3 f g k env = .ok ((List.range n).map fun (i : Nat) => PyData.int ((n - 1 - i : Nat) : Int)) := by
  obtain ⟨a, b⟩ := rg3_down hn
  have e : (-((1 : Nat) : Int)) = -1 := rfl
  rw [e] at h2 h3
  rw [cRng3_ok' h1 h2 h3 a, b]
  unfold rg3D
  refine congrArg R.ok (List.map_congr_left fun i hi => ?_)
  have := List.mem_range.mp hi
  exact congrArg PyData.int (by omega)
end Dz

set_option maxRecDepth 100000
set_option maxHeartbeats 2000000
namespace Dz
open PySem PySem.Spec PyProof.Rows L2
/-! ## dicts of lists: found[k] = [*found.get(k, []), x] -/
section
variable {α β : Type} [DecidableEq α] {c2 : β → D}
def grpV (c2 : β → D) (L : List (α × β)) (a : α) : List D := (L.filter fun z => decide (z.1 = a)).map fun z => c2 z.2
def grp (c2 : β → D) (L : List (α × β)) : List (α × D) := (nub (L.map (·.1))).map fun a => (a, .list (grpV c2 L a))
theorem grpV_none {L : List (α × β)} {a : α} (h : a ∉ L.map (·.1)) : grpV c2 L a = [] := by
  unfold grpV
  rw [List.map_eq_nil_iff, List.filter_eq_nil_iff]
  intro z hz q
  exact h (List.mem_map.mpr ⟨z, hz, of_decide_eq_true q⟩)
theorem getA_map {f : α → D} {a : α} : ∀ ws : List α, getA (ws.map fun a => (a, f a)) a = if a ∈ ws then some (f a) else none
  | [] => rfl
  | b :: ws => by
    have ih := getA_map (f := f) (a := a) ws
    unfold getA at ih ⊢
    rw [List.map_cons, List.find?_cons]
    by_cases h : b = a
    · subst h
      rw [decide_eq_true rfl]
      simp
    · rw [decide_eq_false h]
      show Option.map _ _ = _
      rw [ih]
      have : a ≠ b := fun q => h q.symm
      simp [this]
theorem getA_grp {L : List (α × β)} {a : α} : getA (grp c2 L) a = if a ∈ L.map (·.1) then some (.list (grpV c2 L a)) else none := by
  unfold grp
  rw [getA_map]
  simp only [mem_nub]
theorem getD_grp {L : List (α × β)} {a : α} : (getA (grp c2 L) a).getD (.list []) = .list (grpV c2 L a) := by
  rw [getA_grp]
  split
  · rfl
  · rename_i h
    rw [grpV_none h]; rfl
theorem grpV_snoc {L : List (α × β)} {a x : α} {b : β} : grpV c2 (L ++ [(a, b)]) x = if a = x then grpV c2 L x ++ [c2 b] else grpV c2 L x := by
  unfold grpV
  rw [List.filter_append, List.map_append, List.filter_cons]
  split
  · rename_i h
    have h := of_decide_eq_true h
    dsimp only at h
    rw [if_pos h]; rfl
  · rename_i h
    have h : ¬ a = x := fun q => h (decide_eq_true q)
    rw [if_neg h]; simp
theorem putA_map {f : α → D} {a : α} {v : D} (ws : List α) : putA (ws.map fun x => (x, f x)) a v = (insA ws a).map fun x => (x, if x = a then v else f x) := by
  unfold putA insA
  rw [getA_map]
  by_cases h : a ∈ ws
  · rw [if_pos h, if_pos h, if_pos (show (some (f a)).isSome = true from rfl), List.map_map]
    refine List.map_congr_left fun x hx => ?_
    dsimp only [Function.comp]
    split <;> rfl
  · rw [if_neg h, if_neg h, if_neg (by simp), List.map_append]
    congr 1
    · refine List.map_congr_left fun x hx => ?_
      have : x ≠ a := fun q => h (q ▸ hx)
      rw [if_neg this]
    · simp
theorem putA_grp {L : List (α × β)} {a : α} {b : β} : putA (grp c2 L) a (.list (grpV c2 L a ++ [c2 b])) = grp c2 (L ++ [(a, b)]) := by
  unfold grp
  rw [putA_map, List.map_append, show [(a, b)].map (·.1) = [a] from rfl, nub_snoc]
  refine List.map_congr_left fun x hx => ?_
  rw [grpV_snoc]
  by_cases h : x = a
  · subst h
    rw [if_pos rfl, if_pos rfl]
  · rw [if_neg h, if_neg (fun q => h q.symm)]
theorem grp_len {L : List (α × β)} : (grp c2 L).length ≤ L.length := by
  unfold grp
  rw [List.length_map]
  exact Nat.le_trans len_nub (by rw [List.length_map]; exact Nat.le_refl _)
theorem grp_keys {L : List (α × β)} : (grp c2 L).map (·.1) = nub (L.map (·.1)) := by
  unfold grp
  rw [List.map_map]
  exact List.map_id' _
theorem grp_nil : grp c2 ([] : List (α × β)) = [] := rfl
end
end Dz

set_option maxRecDepth 100000
set_option maxHeartbeats 2000000
namespace Dz
open PySem PySem.Spec PyProof.Rows L2
section
variable {X : Cx} {C : Cf} {i : Nat} {x : Str} {e : Expr} {f : EF} {pos p' cpos apos : Pos}
def sAppE (i : Nat) (f : EF) : SF := fun env => (lstAt env i).bindP fun _ => eApp i f env
theorem ds_appE2 (hN : X.N[i]? = some x) (hv : Vis X.env.scope x) (h : DE X C e f) (hu : C.ms.lookup i = some mL := by rfl) (hd : (x == ("__debug__" : Str)) = false := by decide) (hcd : (x == ("__classdict__" : Str)) = false := by decide)
    (he : starEach (e :: []) X.env = (false, eval e X.env) :: starEach [] X.env := by rfl) (hbase : attributeBase (.Name x p') "append" X.env (eval (.Name x p') X.env) = eval (.Name x p') X.env := by rfl) (hfew : ((backTo cpos (starEach (e :: []) X.env)).all (fun x => !x.1) && (backToKw cpos (keywordEach [] X.env)).all (fun x => x.1.isSome) && decide ((e :: []).length + ([] : List Keyword).length + (if ([] : List Keyword).isEmpty then 0 else 1) < 30)) = true := by rfl) (hline : (apos.endLine == cpos.line) = true := by rfl) (hpl : (backTo cpos (starEach [] X.env)).any (·.1) = false := by rfl)
    (hs : swapsWith (.Call (.Attribute (.Name x p') "append" apos) [e] [] cpos) none pos.line X.env = pure false := by rfl) :
    DS X C (.Expr (.Call (.Attribute (.Name x p') "append" apos) [e] [] cpos) pos) (sAppE i f) := ds_appE hN hv h hu hd hcd he hbase hfew hline hpl hs
end
theorem wx_sAppE {i : Nat} {f : EF} {env : Env} {ds0 : List D} {Q : Flo → Env → Prop} (h0 : env[i]? = some (some (.list ds0))) (h : Wx f env (appQ i Q)) : Wx (sAppE i f) env Q := by
  obtain ⟨fl, e, h1, h2⟩ := wx_eApp h
  exact ⟨fl, e, by unfold sAppE; rw [lst_ok h0, R.bindP_ok]; exact h1, h2⟩
end Dz

set_option maxRecDepth 100000
set_option maxHeartbeats 2000000
namespace Dz
open PySem PySem.Spec PyProof.Rows L2
theorem wx_eAddName {i : Nat} {fb : EF} {env : Env} {ds0 : List D} {Q : List D → Env → Prop} (h0 : env[i]? = some (some (.list ds0))) (h : Wx fb env (fun d e1 => ∃ ys xs, d = .list ys ∧ e1[i]? = some (some (.list xs)) ∧ xs.length + ys.length ≤ sizeLine ∧ Q (xs ++ ys) e1)) : Wx (eAddName i fb) env Q := by
  obtain ⟨d, e1, h1, ys, xs, rfl, h2, h3, q⟩ := h
  exact ⟨_, _, eAddName_ok h0 h1 h2 h3, q⟩
theorem wx_eSetIx {i : Nat} {fi f : EF} {env : Env} {Q : Flo → Env → Prop} (h : Wx f env (fun d e1 => ∃ ds0, e1[i]? = some (some (.list ds0)) ∧ Wx fi e1 (fun k e2 => ∃ (r : Nat) (ds : List D), k = .int (r : Int) ∧ e2[i]? = some (some (.list ds)) ∧ r < ds.length ∧ Q .nx (e2.set i (some (.list (ds.set r d))))))) : Wx (eSetIx i fi f) env Q := by
  obtain ⟨d, e1, h1, ds0, h2, k, e2, h3, r, ds, rfl, h4, h5, q⟩ := h
  exact ⟨_, _, eSetIx_ok h1 h2 h3 h4 (ixOf_nat h5), q⟩
end Dz

set_option maxRecDepth 100000
set_option maxHeartbeats 2000000
namespace Dz
open PySem PySem.Spec PyProof.Rows L2
/-- a loop that returns at the first element where q fails -/
theorem wx_forFind {α : Type} {gt : GF} {g : SF} {env : Env} {Q : Flo → Env → Prop} (c : α → D) (q : α → Bool) (v : α → D) (P : Env → Prop) {l : List α} (h0 : P env) (hb : ∀ x ∈ l, ∀ e, P e → ∃ e1, gt (c x) e = .ok e1 ∧ Wx g e1 (fun fl e2 => if q x = true then (fl = .nx ∨ fl = .ct) ∧ P e2 else fl = .rt (v x))) (ht : l.all q = true → ∀ e', P e' → Q .nx e') (hf : ∀ x, l.find? (fun x => !q x) = some x → ∀ e', Q (.rt (v x)) e') : Wx (forL gt g (l.map c)) env Q := by
  induction l generalizing env with
  | nil => exact wx_forNil (ht rfl _ h0)
  | cons x l ih =>
    obtain ⟨e1, a1, fl, e2, a2, a3⟩ := hb x List.mem_cons_self env h0
    rw [List.map_cons]
    refine wx_forCons a1 ⟨_, _, a2, ?_⟩
    cases hq : q x with
    | true =>
      rw [hq, if_pos rfl] at a3
      obtain ⟨a3, a4⟩ := a3
      have key : Wx (forL gt g (l.map c)) e2 Q := ih a4 (fun y hy => hb y (List.mem_cons_of_mem _ hy)) (fun h => ht (by rw [List.all_cons, hq, h]; rfl)) fun y hy => hf y (by rw [List.find?_cons, hq]; exact hy)
      rcases a3 with rfl | rfl
      · exact key
      · exact key
    | false =>
      rw [hq, if_neg Bool.false_ne_true] at a3
      subst a3
      exact hf x (by rw [List.find?_cons, hq]; rfl) e2
end Dz

set_option maxRecDepth 100000
set_option maxHeartbeats 2000000
namespace Dz
open PySem PySem.Spec PyProof.Rows L2
/-! ## values of all kinds, by depth and size -/
theorem Shw.huge {i : Int} (h : i.natAbs < 10 ^ 30) : Shw (.int i) 0 40 where
  s := by
    show decide (i.natAbs.log2 < 1920) = true
    refine decide_eq_true ?_
    rcases Nat.eq_zero_or_pos i.natAbs with e | e
    · rw [e]; decide
    · exact (Nat.log2_lt (by omega)).mpr (Nat.lt_trans h (Nat.lt_trans (show 10 ^ 30 < 2 ^ 120 by decide) (Nat.pow_lt_pow_right (by decide) (by decide))))
  c := rfl
  e := by rw [PyData.depth]; exact Nat.zero_le _
  l := by
    show (Str.ofString (toString i)).length ≤ 40
    rw [PySem.ofString_length]
    exact Nat.le_trans (int_text_length_le10 (k := 30) (by decide) h) (by decide)
/-- the words that stand in papers -/
def known : List Str := (["0", "again", "all", "alike", "at", "back", "begin", "chain", "divisor", "empty", "end", "ends", "even", "fails", "falls", "first", "form", "free", "full", "has", "keeps", "lacks", "last", "leading", "length", "lengths", "letter", "letters", "local", "lot", "met", "missed", "next", "none", "number", "off", "ones", "order", "other", "over", "palindrome", "parts", "period", "place", "plan", "product", "rests", "root", "round", "row", "run", "second", "sides", "single", "size", "slope", "square", "stand", "sums", "third", "turned", "twice", "two", "uneven", "unlike", "word", "words"] : List String).map Str.ofString
abbrev okS (s : Str) : Bool := (PyData.str s).showable && (PyData.str s).canLay0 && decide ((PyData.str s).shown.length ≤ 40) && decide (s ∈ known)
/-- not a tuple, not a list -/
def Atom (B : Nat) : D → Prop
  | .none => True
  | .bool _ => True
  | .int i => i.natAbs < B
  | .str s => Shw (.str s) 0 40 ∧ s ∈ known
  | _ => False
def Vl (B n : Nat) : Nat → D → Prop
  | 0, d => Atom B d
  | k + 1, d => Atom B d ∨ ∃ ds, (d = .tuple ds ∨ d = .list ds) ∧ ds.length ≤ n ∧ ∀ x ∈ ds, Vl B n k x
theorem Atom.mono {B B' : Nat} (h : B ≤ B') : ∀ {d : D}, Atom B d → Atom B' d
  | .none, _ => trivial
  | .bool _, _ => trivial
  | .int i, q => Nat.lt_of_lt_of_le q h
  | .str _, q => q
  | .tuple _, q => q
  | .list _, q => q
  | .dict _, q => q
theorem Atom.shw {B : Nat} (h : B ≤ 10 ^ 30) : ∀ {d : D}, Atom B d → Shw d 0 40
  | .none, _ => Shw.none.mono (Nat.le_refl _) (by decide)
  | .bool _, _ => Shw.bool.mono (Nat.le_refl _) (by decide)
  | .int i, q => Shw.huge (Nat.lt_of_lt_of_le q h)
  | .str _, q => q.1
theorem Vl.up {B n : Nat} : ∀ {k : Nat} {d : D}, Vl B n k d → Vl B n (k + 1) d
  | 0, d, h => .inl h
  | k + 1, d, h => h.elim .inl fun ⟨ds, e, l, q⟩ => .inr ⟨ds, e, l, fun x hx => Vl.up (q x hx)⟩
theorem Vl.ups {B n k : Nat} {d : D} (h : Vl B n k d) : ∀ {k'}, k ≤ k' → Vl B n k' d := fun {k'} hk => by
  induction k' with
  | zero =>
    obtain rfl : k = 0 := by omega
    exact h
  | succ m ih =>
    by_cases e : k = m + 1
    · rw [← e]; exact h
    · exact (ih (by omega)).up
theorem Vl.mono {B B' n n' : Nat} (hB : B ≤ B') (hn : n ≤ n') : ∀ {k : Nat} {d : D}, Vl B n k d → Vl B' n' k d
  | 0, _, h => Atom.mono hB h
  | k + 1, _, h => h.elim (fun q => .inl (Atom.mono hB q)) fun ⟨ds, e, l, q⟩ => .inr ⟨ds, e, Nat.le_trans l hn, fun x hx => Vl.mono hB hn (q x hx)⟩
theorem Vl.tup {B n k : Nat} {ds : List D} (l : ds.length ≤ n) (h : ∀ x ∈ ds, Vl B n k x) : Vl B n (k + 1) (.tuple ds) := .inr ⟨ds, .inl rfl, l, h⟩
theorem Vl.lst {B n k : Nat} {ds : List D} (l : ds.length ≤ n) (h : ∀ x ∈ ds, Vl B n k x) : Vl B n (k + 1) (.list ds) := .inr ⟨ds, .inr rfl, l, h⟩
theorem Vl.atom {B n k : Nat} {d : D} (h : Atom B d) : Vl B n k d := match k with
  | 0 => h
  | _ + 1 => .inl h
theorem Vl.of_tup {B n k : Nat} {ds : List D} (h : Vl B n k (.tuple ds)) : ∃ j, k = j + 1 ∧ ds.length ≤ n ∧ ∀ x ∈ ds, Vl B n j x := by
  cases k with
  | zero => exact h.elim
  | succ j =>
    rcases h with h | ⟨es, e, l, q⟩
    · exact h.elim
    · rcases e with e | e
      · cases e; exact ⟨j, rfl, l, q⟩
      · cases e
theorem Vl.of_lst {B n k : Nat} {ds : List D} (h : Vl B n k (.list ds)) : ∃ j, k = j + 1 ∧ ds.length ≤ n ∧ ∀ x ∈ ds, Vl B n j x := by
  cases k with
  | zero => exact h.elim
  | succ j =>
    rcases h with h | ⟨es, e, l, q⟩
    · exact h.elim
    · rcases e with e | e
      · cases e
      · cases e; exact ⟨j, rfl, l, q⟩
theorem Vl.not_dict {B n k : Nat} {ds : List (D × D)} (h : Vl B n k (.dict ds)) : False := by
  cases k with
  | zero => exact h.elim
  | succ j =>
    rcases h with h | ⟨es, e, l, q⟩
    · exact h.elim
    · rcases e with e | e <;> cases e
/-- how long it may be shown -/
def wid (n : Nat) : Nat → Nat
  | 0 => 40
  | k + 1 => wid n k * n + 2 * n + 40
theorem wid_le (n : Nat) : ∀ k, 40 ≤ wid n k
  | 0 => Nat.le_refl _
  | k + 1 => by unfold wid; omega
theorem Vl.shw {B n : Nat} (hB : B ≤ 10 ^ 30) : ∀ {k : Nat} {d : D}, Vl B n k d → Shw d k (wid n k)
  | 0, d, h => Atom.shw hB h
  | k + 1, d, h => by
    rcases h with h | ⟨ds, e, l, q⟩
    · exact (Atom.shw hB h).mono (Nat.zero_le _) (wid_le n (k + 1))
    · have hs : ∀ x ∈ ds, Shw x k (wid n k) := fun x hx => Vl.shw hB (q x hx)
      have hm : wid n k * ds.length ≤ wid n k * n := Nat.mul_le_mul_left _ l
      rcases e with rfl | rfl
      · exact (Shw.tup hs).mono (Nat.le_refl _) (show _ ≤ wid n k * n + 2 * n + 40 by omega)
      · exact (Shw.lst hs).mono (Nat.le_refl _) (show _ ≤ wid n k * n + 2 * n + 40 by omega)
theorem Vl.show {B n k : Nat} {d : D} (h : Vl B n k d) (hB : B ≤ 10 ^ 30) (hk : k ≤ 64) (hn : wid n k ≤ sizeLine) : canShow d = true := (h.shw hB).ok hk hn
theorem Vl.shaped {B n k : Nat} {d : D} (h : Vl B n k d) (hB : B ≤ 10 ^ 30) (hk : k ≤ 64) : SeqAt.shaped d = true := by
  have := h.shw hB
  unfold SeqAt.shaped
  rw [this.c, decide_eq_true (Nat.le_trans this.e hk)]; rfl
theorem at_str {B : Nat} {s : Str} (h : okS s = true) : Atom B (.str s) := by
  rw [Bool.and_eq_true, Bool.and_eq_true, Bool.and_eq_true, decide_eq_true_eq, decide_eq_true_eq] at h
  exact ⟨⟨h.1.1.1, h.1.1.2, by rw [PyData.depth]; exact Nat.zero_le _, h.1.2⟩, h.2⟩
theorem Vl.str {B n k : Nat} {s : Str} (h : okS s = true) : Vl B n k (.str s) := .atom (at_str h)
theorem Vl.known {B n k : Nat} {s : Str} (h : Vl B n k (.str s)) : s ∈ known := by
  cases k with
  | zero => exact h.2
  | succ j =>
    rcases h with h | ⟨es, e, l, q⟩
    · exact h.2
    · rcases e with e | e <;> cases e
theorem Vl.none {B n k : Nat} : Vl B n k .none := .atom trivial
theorem Vl.bool {B n k : Nat} {b : Bool} : Vl B n k (.bool b) := .atom trivial
theorem Vl.int {B n k : Nat} {i : Int} (h : i.natAbs < B) : Vl B n k (.int i) := .atom h
theorem Vl.nat {B n k m : Nat} (h : m < B) : Vl B n k (.int (m : Int)) := .atom (show (m : Int).natAbs < B by omega)
theorem Vl.word {B n k : Nat} {w : List Int} (h : ∀ a ∈ w, a.natAbs < B) (l : w.length ≤ n) : Vl B n (k + 1) (wD w) := .tup (by rw [List.length_map]; exact l) fun x hx => by
  obtain ⟨a, ha, rfl⟩ := List.mem_map.mp hx
  exact .int (h a ha)
/-! tests of values -/
def isTupB : D → Bool
  | .tuple _ => true
  | _ => false
theorem isi_tupV (x : D) : gIsi "tuple" x = .ok (.bool (isTupB x)) := by cases x <;> rfl
def isIntB : D → Bool
  | .int _ => true
  | .bool _ => true
  | _ => false
theorem isi_intV (x : D) : gIsi "int" x = .ok (.bool (isIntB x)) := by cases x <;> rfl
def isBoo : D → Bool
  | .bool _ => true
  | _ => false
theorem isi_boolV (x : D) : gIsi "bool" x = .ok (.bool (isBoo x)) := by cases x <;> rfl
theorem shaped_mem {l : List D} (h : SeqAt.shaped (.tuple l) = true) : ∀ d ∈ l, SeqAt.shaped d = true := fun d hd => by
  unfold SeqAt.shaped at h ⊢
  rw [Bool.and_eq_true, PyData.canLay0, PyData.depth, decide_eq_true_eq] at h
  rw [Bool.and_eq_true, decide_eq_true_eq]
  obtain ⟨h1, h2⟩ := h
  induction l with
  | nil => cases hd
  | cons x l ih =>
    rw [PyData.canLayAll0, Bool.and_eq_true] at h1
    rw [PyData.depthAll] at h2
    rcases List.mem_cons.mp hd with rfl | hd
    · exact ⟨h1.1, by omega⟩
    · exact ih hd h1.2 (by omega)
theorem eq_nilT {x : D} {xs : List D} (h : SeqAt.shaped (.tuple (x :: xs)) = true) : gEq (.tuple (x :: xs)) (.tuple []) = .ok (.bool false) := by
  show R.when (SeqAt.shaped (.tuple (x :: xs)) && SeqAt.shaped (.tuple [])) (R.ok (PyData.bool (PyData.eqv (.tuple (x :: xs)) (.tuple [])))) = _
  rw [h]
  rfl
end Dz

set_option maxRecDepth 100000
set_option maxHeartbeats 2000000
namespace Dz
open PySem PySem.Spec PyProof.Rows L2
/-! ## a part of a list of one's own, whatever stands in it -/
def eSlName (i : Nat) (fl fh : OF) : EAF := fun env => (lstAt env i).bind fun xs => (fl env).bind fun l => (fh env).bind fun h => .ok (cutD xs l h, env)
section
variable {X : Cx} {C : Cf} {i : Nat} {x : Str} {p' p2 pos : Pos} {lo hi : Option Expr} {fl fh : OF}
theorem deo_slName (hN : X.N[i]? = some x) (hv : Vis X.env.scope x) (hl : DPart X C.us lo fl) (hh : DPart X C.us hi fh) (hu : C.ms.lookup i = some mL := by rfl) (hd : (x == ("__debug__" : Str)) = false := by decide) (hcd : (x == ("__classdict__" : Str)) = false := by decide) : DEO X C (.Subscript (.Name x p') (.Slice lo hi none p2) pos) (eSlName i fl fh) := by
  obtain ⟨tl, h3, h4⟩ := hl.ex
  obtain ⟨th, h5, h6⟩ := hh.ex
  refine ⟨_, pe_slice (sl_tupA.or sl_list) (pe_var hN hv hd hcd) h3 h5, fun σ Z0 B Z H env fps ds env' Q I hf hq => ?_⟩
  obtain ⟨xs, e0, hf⟩ := R.of_bind hf
  obtain ⟨l, e3, hf⟩ := R.of_bind hf
  obtain ⟨hh', e5, hf⟩ := R.of_bind hf
  cases hf
  obtain ⟨q, vs, hσ, _, hH, r, hfp⟩ := I.lst hu (of_lstAt e0)
  refine ⟨.ref q, hσ, h4 σ H Z env l _ I.zh I.fz e3 fun Z2 H2 g2 => ?_⟩
  refine h6 σ H2 Z2 env hh' _ g2.zh (I.fz.mono g2) e5 fun Z3 H3 g3 => ?_
  have I3 := I.grow (g2.trans g3)
  obtain ⟨q2, vs2, hσ2, _, hH2, r2, hfp2⟩ := I3.lst hu (of_lstAt e0)
  obtain rfl : q2 = q := by
    rw [hσ] at hσ2
    injection hσ2 with hσ2
    injection hσ2 with hσ2
    injection hσ2 with hσ2
    exact hσ2.symm
  refine .inr ⟨_, _, rfl, .inl (.inl hH2), fun p np => ?_⟩
  refine hq p _ Z3 _ fps (I3.grow (Gr.own I3.zh np)) (g2.trans g3).zz (I3.gr.hh.free np) (I3.zh.free np) (fun j hj => ?_) upd_same (cutD_reps r2 _ _)
  obtain ⟨_, _, o, ho, _⟩ := I3.fp j p hj
  rw [np] at ho; cases ho
end
theorem eSlName_ok {i : Nat} {fl fh : OF} {env : Env} {xs : List D} {l h : Option Int} (h0 : env[i]? = some (some (.list xs))) (h1 : fl env = .ok l) (h2 : fh env = .ok h) : eSlName i fl fh env = .ok (cutD xs l h, env) := by
  have l0 : lstAt env i = .ok xs := by unfold lstAt; rw [h0]
  unfold eSlName
  rw [l0, R.bind_ok, h1, R.bind_ok, h2]; rfl
theorem wx_eSlName {i : Nat} {fl fh : OF} {env : Env} {xs : List D} {l h : Option Int} {Q : List D → Env → Prop} (h0 : env[i]? = some (some (.list xs))) (h1 : fl env = .ok l) (h2 : fh env = .ok h) (q : Q (cutD xs l h) env) : Wx (eSlName i fl fh) env Q := ⟨_, _, eSlName_ok h0 h1 h2, q⟩
end Dz

set_option maxRecDepth 100000
set_option maxHeartbeats 4000000
namespace Dz
open PySem PySem.Spec PyProof.Rows L2
/-! ## what is shown as a text is one -/
theorem cps_app (a b : Str) : (a ++ b).cps.toList = a.cps.toList ++ b.cps.toList := by
  show (a.cps ++ b.cps).toList = _
  exact Array.toList_append
theorem head_app {a b : Str} {c : Nat} {l : List Nat} (h : a.cps.toList = c :: l) : (a ++ b).cps.toList.head? = some c := by
  rw [cps_app, h]; rfl
theorem textFrom_head {c : Nat} : ∀ (ts : List Str) (n : Nat) (a : Str) (l : List Nat), a.cps.toList = c :: l → ∃ l', (textFrom n a ts).cps.toList = c :: l'
  | [], n, a, l, h => ⟨l, h⟩
  | t :: ts, n, a, l, h => by
    have : ∃ l', (a ++ (if n > 0 then ", " else "" : String) ++ t).cps.toList = c :: l' := by
      rw [cps_app, cps_app, h]
      exact ⟨_, rfl⟩
    obtain ⟨l', h'⟩ := this
    exact textFrom_head ts (n + 1) _ l' h'
/-- no other thing begins with a quote -/
theorem shown_head {x : D} (h : ∀ s, x ≠ .str s) : x.shown.cps.toList.head? ≠ some 39 := by
  cases x with
  | none => decide
  | bool b => cases b <;> decide
  | int i =>
    intro e
    have := shown_int_free' (k := 39) ⟨by decide, by decide⟩ i
    cases hl : (PyData.int i).shown.cps.toList with
    | nil => rw [hl] at e; cases e
    | cons a l =>
      rw [hl] at e this
      have e : a = 39 := by simpa using e
      exact this (by rw [e]; exact List.mem_cons_self)
  | str s => exact absurd rfl (h s)
  | list ds =>
    intro e
    obtain ⟨l', h'⟩ := textFrom_head (c := 91) (PyData.shownAll ds) 0 "[" [] rfl
    have : (PyData.list ds).shown.cps.toList.head? = some 91 := by
      rw [PyData.shown]
      show (textFrom 0 "[" (PyData.shownAll ds) ++ "]").cps.toList.head? = _
      exact head_app h'
    rw [this] at e; cases e
  | tuple ds =>
    intro e
    have : (PyData.tuple ds).shown.cps.toList.head? = some 40 := by
      rw [PyData.shown]
      show ((("(" : Str) ++ Str.join ", " (PyData.shownAll ds)) ++ _).cps.toList.head? = _
      have h1 : (("(" : Str) ++ Str.join ", " (PyData.shownAll ds)).cps.toList = 40 :: (Str.join ", " (PyData.shownAll ds)).cps.toList := by rw [cps_app]; rfl
      exact head_app h1
    rw [this] at e; cases e
  | dict ds =>
    intro e
    have : (PyData.dict ds).shown.cps.toList.head? = some 123 := by
      rw [PyData.shown]
      show ((("{" : Str) ++ Str.join ", " (PyData.shownKv ds)) ++ "}").cps.toList.head? = _
      have h1 : (("{" : Str) ++ Str.join ", " (PyData.shownKv ds)).cps.toList = 123 :: (Str.join ", " (PyData.shownKv ds)).cps.toList := by rw [cps_app]; rfl
      exact head_app h1
    rw [this] at e; cases e
theorem known_inj : ∀ s ∈ known, ∀ c ∈ known, (PyData.str s).shown = (PyData.str c).shown → s = c := by decide +kernel
theorem known_head : ∀ c ∈ known, (PyData.str c).shown.cps.toList.head? = some 39 := by decide +kernel
/-- a value's text is a word's text just if it is the word -/
theorem shown_known {x : D} (hk : ∀ s, x = .str s → s ∈ known) {c : Str} (hc : c ∈ known) : x.shown = (PyData.str c).shown ↔ x = .str c := by
  constructor
  · intro h
    by_cases hx : ∃ s, x = .str s
    · obtain ⟨s, rfl⟩ := hx
      rw [known_inj s (hk s rfl) c hc h]
    · exact absurd (by rw [h]; exact known_head c hc) (shown_head fun s e => hx ⟨s, e⟩)
  · rintro rfl; rfl
end Dz

set_option maxRecDepth 100000
set_option maxHeartbeats 4000000
namespace Dz
open PySem PySem.Spec PyProof.Rows L2
/-! ## what is shown is a text; texts among texts -/
def Ok16 (s : Str) : Prop := ∀ c ∈ s.cps.toList, c < 1114112
theorem strOk_iff {s : Str} : PyData.strOk s = true ↔ Ok16 s := by
  unfold PyData.strOk Ok16
  rw [Array.all_eq_true']
  simp
theorem Ok16.app {a b : Str} (h : Ok16 a) (h2 : Ok16 b) : Ok16 (a ++ b) := fun c hc => by
  rw [cps_app] at hc
  exact (List.mem_append.mp hc).elim (h c) (h2 c)
theorem ok_lit {s : Str} (h : PyData.strOk s = true) : Ok16 s := strOk_iff.mp h
theorem textFrom_ok : ∀ (ts : List Str) (n : Nat) (a : Str), Ok16 a → (∀ t ∈ ts, Ok16 t) → Ok16 (textFrom n a ts)
  | [], n, a, h, _ => h
  | t :: ts, n, a, h, ht => by
    refine textFrom_ok ts (n + 1) _ ((h.app ?_).app (ht t List.mem_cons_self)) fun u hu => ht u (List.mem_cons_of_mem _ hu)
    split
    · exact ok_lit (by decide +kernel)
    · exact ok_lit (by decide +kernel)
theorem join_ok : ∀ ts : List Str, (∀ t ∈ ts, Ok16 t) → Ok16 (Str.join ", " ts)
  | [], _ => ok_lit (by decide +kernel)
  | [x], h => h x List.mem_cons_self
  | x :: y :: r, h => by
    show Ok16 (x ++ ", " ++ Str.join ", " (y :: r))
    exact ((h x List.mem_cons_self).app (ok_lit (by decide +kernel))).app (join_ok (y :: r) fun t ht => h t (List.mem_cons_of_mem _ ht))
theorem known_ok : ∀ s ∈ known, PyData.strOk (PyData.str s).shown = true ∧ PyData.strOk s = true := by decide +kernel
theorem int_ok (i : Int) : Ok16 (PyData.int i).shown := fun c hc => by
  refine Classical.byContradiction fun h => ?_
  exact shown_int_free' (k := c) ⟨by omega, by omega⟩ i hc
theorem shownAll_mem {ds : List D} {t : Str} (h : t ∈ PyData.shownAll ds) : ∃ d ∈ ds, t = d.shown := by
  rw [shownAll_map] at h
  obtain ⟨d, hd, rfl⟩ := List.mem_map.mp h
  exact ⟨d, hd, rfl⟩
theorem Atom.txt {B : Nat} : ∀ {d : D}, Atom B d → Ok16 d.shown
  | .none, _ => ok_lit (by decide +kernel)
  | .bool b, _ => by cases b <;> exact ok_lit (by decide +kernel)
  | .int i, _ => int_ok i
  | .str s, h => ok_lit (known_ok s h.2).1
theorem Vl.txt {B n : Nat} : ∀ {k : Nat} {d : D}, Vl B n k d → Ok16 d.shown
  | 0, d, h => Atom.txt h
  | k + 1, d, h => by
    rcases h with h | ⟨ds, e, l, q⟩
    · exact Atom.txt h
    · have hs : ∀ t ∈ PyData.shownAll ds, Ok16 t := fun t ht => by
        obtain ⟨d, hd, rfl⟩ := shownAll_mem ht
        exact Vl.txt (q d hd)
      rcases e with rfl | rfl
      · rw [PyData.shown]
        refine Ok16.app (Ok16.app (ok_lit (by decide +kernel)) (join_ok _ hs)) ?_
        split <;> exact ok_lit (by decide +kernel)
      · rw [PyData.shown]
        exact Ok16.app (textFrom_ok _ _ _ (ok_lit (by decide +kernel)) hs) (ok_lit (by decide +kernel))
theorem shaped_str {s : Str} (h : Ok16 s) : SeqAt.shaped (.str s) = true := by
  unfold SeqAt.shaped
  rw [PyData.canLay0, strOk_iff.mpr h, PyData.depth]; rfl
theorem eqv_str (s a : Str) : PyData.eqv (.str s) (.str a) = decide (s = a) := by
  rw [PyData.eqv, Bool.eq_iff_iff, beq_iff_eq, decide_eq_true_iff]
theorem elem_str (s : Str) : ∀ ss : List Str, elemD (.str s) (ss.map PyData.str) = decide (s ∈ ss)
  | [] => rfl
  | a :: ss => by
    have ih := elem_str s ss
    unfold elemD at ih ⊢
    rw [List.map_cons, List.any_cons, ih, eqv_str, Bool.eq_iff_iff, Bool.or_eq_true, decide_eq_true_eq, decide_eq_true_eq, decide_eq_true_eq, List.mem_cons]
    exact or_congr ⟨fun h => h.symm, fun h => h.symm⟩ Iff.rfl
theorem gInS_str {s : Str} {ss : List Str} (h : Ok16 s) (h2 : SeqAt.shaped (.tuple (ss.map PyData.str)) = true) (neg : Bool) : gInS neg (.str s) (.tuple (ss.map PyData.str)) = .ok (.bool (if neg = true then !decide (s ∈ ss) else decide (s ∈ ss))) := by
  show R.when (SeqAt.shaped (.str s) && SeqAt.shaped (.tuple (ss.map PyData.str))) _ = _
  rw [shaped_str h, h2, elem_str]; rfl
end Dz

set_option maxRecDepth 100000
set_option maxHeartbeats 4000000
namespace Dz
open PySem PySem.Spec PyProof.Rows L2
/-! ## list.index, list.count -/
def posD (d : D) : List D → Option Nat
  | [] => none
  | z :: zs => if PyData.eqv z d = true then some 0 else (posD d zs).map (· + 1)
theorem posD_some {d : D} : ∀ {ds : List D} {j : Nat}, posD d ds = some j → ∃ z, ds[j]? = some z ∧ PyData.eqv z d = true ∧ ∀ (m : Nat) (z' : D), m < j → ds[m]? = some z' → PyData.eqv z' d = false
  | [], _, h => by cases h
  | y :: ys, j, h => by
    rw [posD] at h
    split at h
    · rename_i he
      cases h
      exact ⟨y, rfl, he, fun m z' hm => absurd hm (Nat.not_lt_zero m)⟩
    · rename_i he
      cases hp : posD d ys with
      | none => rw [hp] at h; cases h
      | some i =>
        rw [hp] at h
        cases h
        obtain ⟨z, h1, h2, h3⟩ := posD_some hp
        refine ⟨z, h1, h2, fun m z' hm hz => ?_⟩
        cases m with
        | zero =>
          cases hz
          simpa using he
        | succ m => exact h3 m z' (by simp only at hm; omega) hz
def gIndex : D → List D → R D
  | .list ds, [d] => match posD d ds with
    | some j => R.when (SeqAt.shaped d && SeqAt.shaped (.list ds)) (.ok (.int (j : Nat)))
    | none => .no
  | _, _ => .no
def cIndex (f : PF) (fa : AF) : PF := fun env => (f env).bind fun d => (fa env).bind fun as => gIndex d as
def rCountD (K : PySem.W.Frag) : V → List V → Hp → VK → Prop := fun x xs H Q => ∃ (a : Addr) (y : V) (d : D) (ds : List D), x = V.ref a ∧ xs = [y] ∧ Dp K H (V.ref a) (.list ds) ∧ Dp K H y d ∧
  SeqAt.shaped (.list ds) = true ∧ SeqAt.shaped d = true ∧ Q (.int ((ds.countP fun z => PyData.eqv z d : Nat) : Int)) H
theorem mt_countD {X : Cx} (hu : X.A.units + 65 < cLine) : MtR X "list.count" (rCountD X.K) := by
  intro pins s σ H x xs v us Q I rx rxs h
  obtain ⟨a, y, d, ds, rfl, rfl, hl, hy, sl, sd, q⟩ := h
  cases rx
  cases rxs with
  | cons ry rt =>
    rename_i uy ut
    cases rt
    obtain ⟨bs, r1⟩ := Dp.reads I d y uy hy ry
    have hxs : PyData.canLayAll0 ds = true := SeqAt.canLay_of_shaped sl
    have hroom : X.A.units + 1 + min (PyData.depthAll ds) d.depth < cLine := room_in_shaped sd hu
    cases hl with
    | lst hs ha =>
      obtain ⟨its, rv, ⟨⟨cls, dd, data, sls⟩, n, ho, hc, hdn, hdt⟩, hlen⟩ := I.list hs
      simp only at hc hdt
      subst hc hdt
      obtain ⟨as, h4⟩ := Dp.readsAll I ds _ its ha rv
      have hmap : its.map (SeqAt.readOf s.heap) = ds := SeqAt.readsAll_map ds its as hxs h4
      refine call_meets PySem.F.slot_list_count ⟨_, ho, rfl⟩ PySem.F.entry_list_count (PySem.F.args_list_count_2 _ _)
        (SeqAt.list_countAt a its.toArray n dd sls uy (fun u => PyData.eqv (SeqAt.readOf s.heap u) d)) ⟨ho, SeqAt.items_eqAt (vs := its.toArray) (show ReadsAll s.heap its.toArray.toList ds as from h4) r1 hxs (SeqAt.canLay_of_shaped sd) hroom, ?_⟩
      refine ⟨.int ((ds.countP fun z => PyData.eqv z d : Nat) : Int), H, I.tok _, ⟨s.toks, ?_⟩, q⟩
      rw [← hmap, List.countP_map]
      rfl
def gCount : D → List D → R D
  | .list ds, [d] => R.when (SeqAt.shaped d && SeqAt.shaped (.list ds)) (.ok (.int ((ds.countP fun z => PyData.eqv z d : Nat) : Int)))
  | _, _ => .no
def cCount (f : PF) (fa : AF) : PF := fun env => (f env).bind fun d => (fa env).bind fun as => gCount d as
theorem cIndex_ok {f : PF} {fa : AF} {env : Env} {d r : D} {as : List D} (h : f env = .ok d) (h2 : fa env = .ok as) (h3 : gIndex d as = .ok r) : cIndex f fa env = .ok r := by
  unfold cIndex; rw [h, R.bind_ok, h2]; exact h3
theorem cCount_ok {f : PF} {fa : AF} {env : Env} {d r : D} {as : List D} (h : f env = .ok d) (h2 : fa env = .ok as) (h3 : gCount d as = .ok r) : cCount f fa env = .ok r := by
  unfold cCount; rw [h, R.bind_ok, h2]; exact h3
section
variable {X : Cx} {us : List Nat} {o e : Expr} {es : List Expr} {f : PF} {fa : AF} {apos cpos : Pos} {k : Nat}
theorem RmG.u65 (hr : RmG k X.A) : X.A.units + 65 < cLine := by have := hr.un; omega
theorem rep_list_sq {K : PySem.W.Frag} {Z H : Hp} {v : V} {ds : List D} (hz : Same Z H) (r : Rep K Z v (.list ds)) : ∃ a xs, v = .ref a ∧ SqL K H a xs := by
  cases r with
  | lst t q => exact ⟨_, _, rfl, .inl (.inl (hz _ _ t))⟩
theorem dp_index (hr : RmG k X.A) (ho : DP X us o f) (h : DA X us (e :: es) fa)
    (he : starEach (e :: es) X.env = (false, eval e X.env) :: starEach es X.env := by rfl) (hbase : attributeBase o "index" X.env (eval o X.env) = eval o X.env := by rfl) (hfew : ((backTo cpos (starEach (e :: es) X.env)).all (fun x => !x.1) && (backToKw cpos (keywordEach [] X.env)).all (fun x => x.1.isSome) && decide ((e :: es).length + ([] : List Keyword).length + (if ([] : List Keyword).isEmpty then 0 else 1) < 30)) = true := by rfl) (hline : (apos.endLine == cpos.line) = true := by rfl) (hpl : (backTo cpos (starEach es X.env)).any (·.1) = false := by rfl) :
    DP X us (.Call (.Attribute o "index" apos) (e :: es) [] cpos) (cIndex f fa) := by
  obtain ⟨t, h1, h2⟩ := ho.ex
  obtain ⟨u, h3, h4⟩ := h.ex
  refine ⟨_, pe_bm PySem.F.plainAttrs_list PySem.F.slot_list_index PySem.F.type_list_index (mt_indexD hr.u65) h1 h3 hbase hfew hline he hpl, fun σ H Z env d Q hz hen hf hq => ?_⟩
  obtain ⟨dd, e1, hf⟩ := R.of_bind hf
  obtain ⟨as, e2, hf⟩ := R.of_bind hf
  refine h2 σ H Z env dd _ hz hen e1 fun v Z1 H1 g1 r1 => ?_
  unfold gIndex at hf
  split at hf
  · rename_i ds kd hf0
    split at hf
    · rename_i j hj
      obtain ⟨hs, hf⟩ := R.of_when hf
      cases hf
      rw [Bool.and_eq_true] at hs
      obtain ⟨z, a1, a2, a3⟩ := posD_some hj
      obtain ⟨a, xs, rfl, hq1⟩ := rep_list_sq g1.zh r1
      refine ⟨.inl ⟨rfl, _, hq1⟩, h4 σ H1 Z1 env _ _ g1.zh (hen.mono g1) e2 fun vs Z2 H2 g2 r2 => ?_⟩
      cases r2 with
      | cons rk t =>
        cases t
        exact ⟨a, _, _, ds, j, z, rfl, rfl, (r1.mono g2.zz).dp g2.zh (SeqAt.canLay_of_shaped hs.2), rk.dp g2.zh (SeqAt.canLay_of_shaped hs.1), hs.2, hs.1, a1, a2, a3, hq _ _ _ (g1.trans g2) (.int _)⟩
    · cases hf
  · cases hf
theorem dp_count (hr : RmG k X.A) (ho : DP X us o f) (h : DA X us (e :: es) fa)
    (he : starEach (e :: es) X.env = (false, eval e X.env) :: starEach es X.env := by rfl) (hbase : attributeBase o "count" X.env (eval o X.env) = eval o X.env := by rfl) (hfew : ((backTo cpos (starEach (e :: es) X.env)).all (fun x => !x.1) && (backToKw cpos (keywordEach [] X.env)).all (fun x => x.1.isSome) && decide ((e :: es).length + ([] : List Keyword).length + (if ([] : List Keyword).isEmpty then 0 else 1) < 30)) = true := by rfl) (hline : (apos.endLine == cpos.line) = true := by rfl) (hpl : (backTo cpos (starEach es X.env)).any (·.1) = false := by rfl) :
    DP X us (.Call (.Attribute o "count" apos) (e :: es) [] cpos) (cCount f fa) := by
  obtain ⟨t, h1, h2⟩ := ho.ex
  obtain ⟨u, h3, h4⟩ := h.ex
  refine ⟨_, pe_bm PySem.F.plainAttrs_list PySem.F.slot_list_count PySem.F.type_list_count (mt_countD hr.u65) h1 h3 hbase hfew hline he hpl, fun σ H Z env d Q hz hen hf hq => ?_⟩
  obtain ⟨dd, e1, hf⟩ := R.of_bind hf
  obtain ⟨as, e2, hf⟩ := R.of_bind hf
  refine h2 σ H Z env dd _ hz hen e1 fun v Z1 H1 g1 r1 => ?_
  unfold gCount at hf
  split at hf
  · rename_i ds kd hf0
    obtain ⟨hs, hf⟩ := R.of_when hf
    cases hf
    rw [Bool.and_eq_true] at hs
    obtain ⟨a, xs, rfl, hq1⟩ := rep_list_sq g1.zh r1
    refine ⟨.inl ⟨rfl, _, hq1⟩, h4 σ H1 Z1 env _ _ g1.zh (hen.mono g1) e2 fun vs Z2 H2 g2 r2 => ?_⟩
    cases r2 with
    | cons rk t =>
      cases t
      exact ⟨a, _, _, ds, rfl, rfl, (r1.mono g2.zz).dp g2.zh (SeqAt.canLay_of_shaped hs.2), rk.dp g2.zh (SeqAt.canLay_of_shaped hs.1), hs.2, hs.1, hq _ _ _ (g1.trans g2) (.int _)⟩
  · cases hf
end
end Dz

set_option maxHeartbeats 4000000
/-! points k * p % q on a round: the three distances (plain) -/
namespace T43
structure Rt (q N : Nat) (r : Nat → Nat) : Prop where
  z : r 0 = 0
  pos : ∀ m, 0 < m → m < q → 0 < r m
  lt : ∀ m, r m < q
  add : ∀ a b, r (a + b) = r a + r b ∨ r (a + b) + q = r a + r b
  n2 : 2 ≤ N
  nq : N ≤ q
theorem rt_of {p q N : Nat} (hc : ∀ m, 0 < m → m < q → m * p % q ≠ 0) (h2 : 2 ≤ N) (hq : N ≤ q) : Rt q N fun k => k * p % q where
  z := by simp
  pos m h1 h2 := Nat.pos_of_ne_zero (hc m h1 h2)
  lt m := Nat.mod_lt _ (by omega)
  add a b := by
    show (a + b) * p % q = a * p % q + b * p % q ∨ (a + b) * p % q + q = a * p % q + b * p % q
    rw [Nat.add_mul, Nat.add_mod]
    have h1 := Nat.mod_lt (a * p) (show 0 < q by omega)
    have h3 := Nat.mod_lt (b * p) (show 0 < q by omega)
    by_cases h : a * p % q + b * p % q < q
    · left; exact Nat.mod_eq_of_lt h
    · right
      rw [Nat.mod_eq_sub_mod (by omega), Nat.mod_eq_of_lt (by omega)]
      omega
  n2 := h2
  nq := hq
theorem cop {p q : Nat} (hq : 0 < q) (h : Nat.gcd p q = 1) : ∀ m, 0 < m → m < q → m * p % q ≠ 0 := by
  intro m h1 h2 h3
  have d : q ∣ m * p := Nat.dvd_of_mod_eq_zero h3
  have d2 : q ∣ m := Nat.Coprime.dvd_of_dvd_mul_right (by rw [Nat.Coprime, Nat.gcd_comm]; exact h) d
  have := Nat.le_of_dvd h1 d2
  omega
/-- the steps: s to the least, t to the greatest -/
structure St (q N : Nat) (r : Nat → Nat) (s t : Nat) : Prop extends Rt q N r where
  s1 : 1 ≤ s
  sN : s < N
  t1 : 1 ≤ t
  tN : t < N
  mn : ∀ m, 1 ≤ m → m < N → r s ≤ r m
  mx : ∀ m, m < N → r m ≤ r t
variable {q N : Nat} {r : Nat → Nat} {s t : Nat}
theorem St.many (h : St q N r s t) : N ≤ s + t := by
  obtain ⟨⟨z, ps, lt, ad, n2, nq⟩, s1, sN, t1, tN, mn, mx⟩ := h
  rcases Nat.lt_or_ge (s + t) N with c | c
  · have a1 := ad s t
    have a2 := ps (s + t) (by omega) (by omega)
    have a3 := mn (s + t) (by omega) c
    have a4 := mx (s + t) c
    have a5 := lt t
    have a6 := ps s (by omega) (by omega)
    omega
  · exact c
def far (q N : Nat) (r : Nat → Nat) (s t k : Nat) : Nat := (if k < t then r s else 0) + (if N - s ≤ k then q - r t else 0)
def Hit (q N : Nat) (r : Nat → Nat) (k f : Nat) : Prop := ∃ j, j < N ∧ (r k + f = r j ∨ r k + f = r j + q)
theorem St.far3 (h : St q N r s t) {k : Nat} (hk : k < N) : (k < N - s ∧ k < t ∧ far q N r s t k = r s) ∨ (t ≤ k ∧ N - s ≤ k ∧ far q N r s t k = q - r t) ∨ (N - s ≤ k ∧ k < t ∧ far q N r s t k = r s + (q - r t)) := by
  have hm := h.many
  have hs := h.sN
  unfold far
  by_cases c2 : N - s ≤ k
  · by_cases c1 : k < t
    · refine .inr (.inr ⟨c2, c1, ?_⟩)
      rw [if_pos c1, if_pos c2]
    · refine .inr (.inl ⟨by omega, c2, ?_⟩)
      rw [if_neg c1, if_pos c2, Nat.zero_add]
  · have c1 : k < t := by omega
    refine .inl ⟨by omega, c1, ?_⟩
    rw [if_pos c1, if_neg c2, Nat.add_zero]
theorem St.hit (h : St q N r s t) {k : Nat} (hk : k < N) : Hit q N r k (far q N r s t k) := by
  have hm := h.many
  have h3 := h.far3 hk
  obtain ⟨⟨z, ps, lt, ad, n2, nq⟩, s1, sN, t1, tN, mn, mx⟩ := h
  have l1 := lt s
  have l2 := lt t
  rcases h3 with ⟨c1, c2, e⟩ | ⟨c1, c2, e⟩ | ⟨c1, c2, e⟩ <;> rw [e]
  · refine ⟨k + s, by omega, ?_⟩
    have := ad k s
    omega
  · refine ⟨k - t, by omega, ?_⟩
    have a := ad (k - t) t
    rw [Nat.sub_add_cancel c1] at a
    omega
  · refine ⟨k + s - t, by omega, ?_⟩
    have a := ad (k + s - t) t
    rw [Nat.sub_add_cancel (show t ≤ k + s by omega)] at a
    have b := ad k s
    have c := mn t (by omega) (by omega)
    have d := lt (k + s - t)
    have d := lt k
    omega
theorem St.miss (h : St q N r s t) {k f : Nat} (hk : k < N) (h0 : 0 < f) (hf : f < far q N r s t k) : ¬ Hit q N r k f := by
  rintro ⟨j, hj, hx⟩
  have hm := h.many
  have h3 := h.far3 hk
  obtain ⟨⟨z, ps, lt, ad, n2, nq⟩, s1, sN, t1, tN, mn, mx⟩ := h
  have l1 := lt s
  have l2 := lt t
  have l3 := lt k
  have l4 := lt j
  have l5 := mn t (by omega) (by omega)
  have p1 := ps s (by omega) (by omega)
  rcases Nat.lt_trichotomy k j with g | g | g
  · obtain ⟨m, rfl, hm0⟩ : ∃ m, j = k + m ∧ 0 < m := ⟨j - k, by omega, by omega⟩
    have a := ad k m
    have b := lt m
    have c := ps m hm0 (by omega)
    have d := mn m (by omega) (by omega)
    have fe : f = r m := by omega
    rcases h3 with ⟨c1, c2, e⟩ | ⟨c1, c2, e⟩ | ⟨c1, c2, e⟩ <;> rw [e] at hf
    · omega
    · have a2 := ad m t
      have a3 := mx (m + t) (by omega)
      omega
    · have a2 := ad m (s - m)
      rw [show m + (s - m) = s by omega] at a2
      by_cases hs : m = s
      · subst hs; omega
      · have a3 := mx (s - m) (by omega)
        have a4 := ps (s - m) (by omega) (by omega)
        omega
  · subst g
    omega
  · obtain ⟨m, rfl, hm0⟩ : ∃ m, k = j + m ∧ 0 < m := ⟨k - j, by omega, by omega⟩
    have a := ad j m
    have b := lt m
    have c := ps m hm0 (by omega)
    have d := mx m (by omega)
    have fe : r m = q - f := by omega
    rcases h3 with ⟨c1, c2, e⟩ | ⟨c1, c2, e⟩ | ⟨c1, c2, e⟩ <;> rw [e] at hf
    · have a2 := ad m s
      have a3 := mn (m + s) (by omega) (by omega)
      have a4 := lt (m + s)
      omega
    · omega
    · have a2 := ad m (t - m)
      rw [show m + (t - m) = t by omega] at a2
      have a4 := mn (t - m) (by omega) (by omega)
      have a5 := lt (t - m)
      omega
theorem St.far_pos (h : St q N r s t) {k : Nat} (hk : k < N) : 0 < far q N r s t k ∧ far q N r s t k ≤ q := by
  have h3 := h.far3 hk
  obtain ⟨⟨z, ps, lt, ad, n2, nq⟩, s1, sN, t1, tN, mn, mx⟩ := h
  have l1 := lt s
  have l2 := lt t
  have p1 := ps s (by omega) (by omega)
  have l5 := mn t (by omega) (by omega)
  omega
/-- the sum of the distances -/
theorem sum_if {a N t : Nat} (h : t ≤ N) : ((List.range N).map fun k => if k < t then a else 0).sum = t * a := by
  induction N with
  | zero => simp at h; subst h; simp
  | succ n ih =>
    rw [List.range_succ, List.map_append, List.sum_append]
    by_cases c : t = n + 1
    · subst c
      have : ((List.range n).map fun k => if k < n + 1 then a else 0) = (List.range n).map fun _ => a := List.map_congr_left fun k hk => by
        have := List.mem_range.mp hk
        rw [if_pos (by omega)]
      rw [this, show (List.map (fun _ => a) (List.range n)) = List.replicate n a by rw [List.map_const', List.length_range], List.sum_replicate_nat]
      simp [Nat.add_mul]
    · rw [ih (by omega)]
      simp
      omega
theorem sum_if2 {a N t : Nat} (h : t ≤ N) : ((List.range N).map fun k => if t ≤ k then a else 0).sum = (N - t) * a := by
  induction N with
  | zero => simp at h; subst h; simp
  | succ n ih =>
    rw [List.range_succ, List.map_append, List.sum_append]
    by_cases c : t = n + 1
    · subst c
      have : ((List.range n).map fun k => if n + 1 ≤ k then a else 0) = (List.range n).map fun _ => 0 := List.map_congr_left fun k hk => by
        have := List.mem_range.mp hk
        rw [if_neg (by omega)]
      rw [this, show (List.map (fun _ => 0) (List.range n)) = List.replicate n 0 by rw [List.map_const', List.length_range], List.sum_replicate_nat]
      simp
      omega
    · rw [ih (by omega)]
      have : t ≤ n := by omega
      simp [this]
      rw [show n + 1 - t = (n - t) + 1 by omega, Nat.add_mul]
      omega
theorem sum_add {f g : Nat → Nat} : ∀ l : List Nat, (l.map fun k => f k + g k).sum = (l.map f).sum + (l.map g).sum
  | [] => rfl
  | a :: l => by simp [sum_add l]; omega
theorem St.sum (h : St q N r s t) : ((List.range N).map (far q N r s t)).sum = t * r s + s * (q - r t) := by
  have := h.sN
  have := h.tN
  have e : far q N r s t = fun k => (if k < t then r s else 0) + (if N - s ≤ k then q - r t else 0) := rfl
  rw [e, sum_add, sum_if (by omega), sum_if2 (by omega), show N - (N - s) = s by omega]
theorem sub_len : ∀ (L M : List Nat), L.Nodup → (∀ a ∈ L, a ∈ M) → L.length ≤ M.length
  | [], _, _, _ => Nat.zero_le _
  | a :: L, M, hn, h => by
    have ha := h a List.mem_cons_self
    have hn2 := List.nodup_cons.mp hn
    have := sub_len L (M.erase a) hn2.2 fun b hb => (List.mem_erase_of_ne (fun e => hn2.1 (by rw [← e]; exact hb))).mpr (h b (List.mem_cons_of_mem _ hb))
    rw [List.length_erase_of_mem ha] at this
    have := List.length_pos_of_mem ha
    rw [List.length_cons]; omega
theorem St.inj (h : St q N r s t) {k i k2 i2 : Nat} (hk : k < N) (hk2 : k2 < N) (hi : i < far q N r s t k) (hi2 : i2 < far q N r s t k2) (hle : i ≤ i2) (e : (r k + i) % q = (r k2 + i2) % q) : k = k2 ∧ i = i2 := by
  have f2 := (h.far_pos hk2).2
  have f1 := (h.far_pos hk).2
  have l1 := h.lt k
  have l2 := h.lt k2
  have hmod : ∀ x, x < 2 * q → x % q = x ∨ x % q + q = x := fun x hx => by
    by_cases c : x < q
    · left; exact Nat.mod_eq_of_lt c
    · right; rw [Nat.mod_eq_sub_mod (by omega), Nat.mod_eq_of_lt (by omega)]; omega
  have e1 := hmod (r k + i) (by omega)
  have e2 := hmod (r k2 + i2) (by omega)
  by_cases c : i = i2
  · subst c
    refine ⟨?_, rfl⟩
    have : r k = r k2 := by omega
    rcases Nat.lt_trichotomy k k2 with g | g | g
    · have a := h.add k (k2 - k)
      rw [show k + (k2 - k) = k2 by omega] at a
      have b := h.pos (k2 - k) (by omega) (by have := h.nq; omega)
      have c := h.lt (k2 - k)
      omega
    · exact g
    · have a := h.add k2 (k - k2)
      rw [show k2 + (k - k2) = k by omega] at a
      have b := h.pos (k - k2) (by omega) (by have := h.nq; omega)
      have c := h.lt (k - k2)
      omega
  · exact absurd (⟨k, hk, by omega⟩ : Hit q N r k2 (i2 - i)) (h.miss hk2 (by omega) (by omega))
theorem St.le (h : St q N r s t) : ((List.range N).map (far q N r s t)).sum ≤ q := by
  have hq : 0 < q := by have := h.nq; have := h.n2; omega
  have hn : ((List.range N).flatMap fun k => (List.range (far q N r s t k)).map fun i => (r k + i) % q).Nodup := by
    rw [List.Nodup, List.pairwise_flatMap]
    refine ⟨fun k hk => ?_, ?_⟩
    · rw [List.pairwise_map]
      refine List.Pairwise.imp_of_mem (R := fun a b => a < b) (fun {a b} ha hb hlt e => ?_) List.pairwise_lt_range
      have := (h.inj (List.mem_range.mp hk) (List.mem_range.mp hk) (List.mem_range.mp ha) (List.mem_range.mp hb) (by omega) e).2
      omega
    · refine List.Pairwise.imp_of_mem (R := fun a b => a < b) (fun {a b} ha hb hlt x hx y hy e => ?_) List.pairwise_lt_range
      obtain ⟨i, hi, rfl⟩ := List.mem_map.mp hx
      obtain ⟨j, hj, rfl⟩ := List.mem_map.mp hy
      rcases Nat.le_total i j with g | g
      · have := (h.inj (List.mem_range.mp ha) (List.mem_range.mp hb) (List.mem_range.mp hi) (List.mem_range.mp hj) g e).1
        omega
      · have := (h.inj (List.mem_range.mp hb) (List.mem_range.mp ha) (List.mem_range.mp hj) (List.mem_range.mp hi) g e.symm).1
        omega
  have := sub_len _ (List.range q) hn fun a ha => by
    obtain ⟨k, _, h1⟩ := List.mem_flatMap.mp ha
    obtain ⟨i, _, rfl⟩ := List.mem_map.mp h1
    exact List.mem_range.mpr (Nat.mod_lt _ hq)
  rw [List.length_flatMap] at this
  simpa using this
theorem St.total {p : Nat} (h : St q N (fun k => k * p % q) s t) : ((List.range N).map (far q N (fun k => k * p % q) s t)).sum = q := by
  have h1 := h.le
  have h2 := h.sum
  have hq : 0 < q := by have := h.nq; have := h.n2; omega
  rw [h2] at h1 ⊢
  have p0 : 0 < s * p % q := h.pos s h.s1 (by have := h.sN; have := h.nq; omega)
  have pt : t * p % q < q := Nat.mod_lt _ hq
  have a1 := Nat.div_add_mod (s * p) q
  have a2 := Nat.div_add_mod (t * p) q
  have b1 : t * (s * p) = t * (q * (s * p / q)) + t * (s * p % q) := by rw [← Nat.mul_add, a1]
  have b2 : s * (t * p) = s * (q * (t * p / q)) + s * (t * p % q) := by rw [← Nat.mul_add, a2]
  have b3 : s * (t * p) = t * (s * p) := by rw [← Nat.mul_assoc, ← Nat.mul_assoc, Nat.mul_comm s t]
  have b4 : s * q = s * (q - t * p % q) + s * (t * p % q) := by rw [← Nat.mul_add]; congr 1; omega
  have d1 : q ∣ t * (q * (s * p / q)) := ⟨t * (s * p / q), by rw [Nat.mul_left_comm]⟩
  have d2 : q ∣ s * (q * (t * p / q)) := ⟨s * (t * p / q), by rw [Nat.mul_left_comm]⟩
  have d3 : q ∣ s * q := ⟨s, Nat.mul_comm _ _⟩
  have e : (t * (s * p % q) + s * (q - t * p % q)) + t * (q * (s * p / q)) = s * q + s * (q * (t * p / q)) := by omega
  have d4 : q ∣ (t * (s * p % q) + s * (q - t * p % q)) + t * (q * (s * p / q)) := by rw [e]; exact Nat.dvd_add d3 d2
  have d5 := (Nat.dvd_add_left d1).mp d4
  have p1 : 0 < t * (s * p % q) := Nat.mul_pos h.t1 p0
  have := Nat.le_of_dvd (by omega) d5
  show t * (s * p % q) + s * (q - t * p % q) = q
  have h1' : t * (s * p % q) + s * (q - t * p % q) ≤ q := h1
  omega
theorem ex_min (f : Nat → Nat) : ∀ n, 1 ≤ n → ∃ m, m < n ∧ ∀ x, x < n → f m ≤ f x
  | 0, h => absurd h (by omega)
  | 1, _ => ⟨0, by omega, fun x hx => by have : x = 0 := by omega
                                         subst this; exact Nat.le_refl _⟩
  | n + 2, _ => by
    obtain ⟨m, h1, h2⟩ := ex_min f (n + 1) (by omega)
    by_cases c : f m ≤ f (n + 1)
    · refine ⟨m, by omega, fun x hx => ?_⟩
      by_cases e : x = n + 1
      · rw [e]; exact c
      · exact h2 x (by omega)
    · refine ⟨n + 1, by omega, fun x hx => ?_⟩
      by_cases e : x = n + 1
      · rw [e]; exact Nat.le_refl _
      · have := h2 x (by omega); omega
theorem Rt.ex (h : Rt q N r) : ∃ s t, St q N r s t := by
  have n2 := h.n2
  obtain ⟨s, h1, h2⟩ := ex_min (fun i => r (1 + i)) (N - 1) (by omega)
  obtain ⟨t, h3, h4⟩ := ex_min (fun i => q - r (1 + i)) (N - 1) (by omega)
  refine ⟨1 + s, 1 + t, h, by omega, by omega, by omega, by omega, fun m a b => ?_, fun m a => ?_⟩
  · have := h2 (m - 1) (by omega)
    simp only [show 1 + (m - 1) = m by omega] at this
    exact this
  · by_cases e : m = 0
    · subst e; rw [h.z]; exact Nat.zero_le _
    · have := h4 (m - 1) (by omega)
      simp only [show 1 + (m - 1) = m by omega] at this
      have := h.lt m
      have := h.lt (1 + t)
      omega
theorem Rt.inj (h : Rt q N r) {a b : Nat} (ha : a < N) (hb : b < N) (e : r a = r b) : a = b := by
  have key : ∀ a b, a < b → b < N → r a ≠ r b := fun a b h1 h2 e => by
    have x := h.add a (b - a)
    rw [show a + (b - a) = b by omega] at x
    have y := h.pos (b - a) (by omega) (by have := h.nq; omega)
    have z := h.lt (b - a)
    omega
  rcases Nat.lt_trichotomy a b with g | g | g
  · exact absurd e (key a b g hb)
  · exact g
  · exact absurd e.symm (key b a g ha)
end T43

set_option maxRecDepth 100000
set_option maxHeartbeats 4000000
namespace Lw
open PySem PySem.Spec PyProof.Rows L2 Dz
def top (i : Nat) : Stmt := PySem.Challenge.pw_lettersagain_k43_points_on_a_round.main.body.getD i (.Pass ⟨0, 0, 0, 0⟩)
abbrev fuel : Nat := 1000000
theorem sc_round_points : FnScope ["p", "q", "many", "k"] ["p", "q", "many"] (defScope (top 1)) := ⟨rfl, rfl, rfl, by decide +kernel, rfl, by decide +kernel, by decide +kernel⟩
def g_round_points : SF :=
  (sRet (cCall gTuple1 (aCons (cCall gSortedV (aCons (cList (cLc (cRng1 (cV 2)) [3] (setE 3) cYes (cBin gMod (cBin gMul (cV 3) (cV 0)) (cV 1)))) aNil)) aNil)))
def F_round_points : List D → R D := run 4 g_round_points
theorem ok_round_points {P : Program} {w : World} {K : PySem.W.Frag} {mg : Str → Option Value} {base : Heap} (F : FunAt K mg "round_points" (top 1)) (m_range : mg "range" = none) (m_sorted : mg "sorted" = none) (m_tuple : mg "tuple" = none) : HasFn P w K mg base "round_points" 1 3 F_round_points :=
  mkFn (k := 0) (cf0 []) F sc_round_points rfl rfl (by decide) (by decide) (fun _ _ _ _ _ _ us hl => match us, hl with | [_, _, _], _ => rfl) fun f cdv A outer s H E hr =>
    (dss_one (ds_ret (dp_callTy call_tuple_of v_tuple1 rfl m_tuple (by decide +kernel) (da_cons (dp_callB (cr_sortV hr rfl) v_sortedV rfl m_sorted (by decide +kernel) (da_cons (DO.p ((do_lc (own := [("k", 3)]) (sl := [3]) rfl sc_round_points.nd (di_rng1 rfl m_range (dp_var (i := 2) rfl (.inl rfl))) (blkOk_by (by kernel_rfl)) rfl (fun _ _ _ _ _ => (dg_name (i := 3) sc_round_points.nd rfl (.inl rfl) (.inr rfl))) (fun _ _ _ _ _ => dts_nil) (fun _ _ _ _ _ => (dp_mod (dp_mul (dp_var (i := 3) rfl (.inl rfl)) (dp_var (i := 0) rfl (.inr (.inl rfl)))) (dp_var (i := 1) rfl (.inr (.inl rfl)))))))) da_nil)) da_nil))))
theorem sc_nearest_steps : FnScope ["p", "q", "many", "left", "least", "greatest", "k"] ["p", "q", "many"] (defScope (top 2)) := ⟨rfl, rfl, rfl, by decide +kernel, rfl, by decide +kernel, by decide +kernel⟩
def g_nearest_steps : SF :=
  (sSeq (sSet 3 (cList (cLc (cRng1 (cV 2)) [6] (setE 6) cYes (cBin gMod (cBin gMul (cV 6) (cV 0)) (cV 1)))))
    (sSeq (sPar 4 5 (cCall gMin (aCons (cSl (cV 3) (cPart (cC (.int 1))) cNoPart) aNil)) (cCall gMaxX (aCons (cSl (cV 3) (cPart (cC (.int 1))) cNoPart) aNil)))
    (sRet (cTup (aCons (cIndex (cV 3) (aCons (cV 4) aNil)) (aCons (cV 4) (aCons (cIndex (cV 3) (aCons (cV 5) aNil)) (aCons (cBin gSub (cV 1) (cV 5)) aNil))))))))
def F_nearest_steps : List D → R D := run 7 g_nearest_steps
theorem ok_nearest_steps {P : Program} {w : World} {K : PySem.W.Frag} {mg : Str → Option Value} {base : Heap} (F : FunAt K mg "nearest_steps" (top 2)) (m_max : mg "max" = none) (m_min : mg "min" = none) (m_range : mg "range" = none) : HasFn P w K mg base "nearest_steps" 1 3 F_nearest_steps :=
  mkFn (k := 0) (cf0 []) F sc_nearest_steps rfl rfl (by decide) (by decide) (fun _ _ _ _ _ _ us hl => match us, hl with | [_, _, _], _ => rfl) fun f cdv A outer s H E hr =>
    (dss_cons (ds_lcF (i := 3) (own := [("k", 6)]) (sl := [6]) rfl sc_nearest_steps.nd rfl rfl (sw_true rfl rfl rfl (by decide +kernel)) (di_rng1 rfl m_range (dp_var (i := 2) rfl (.inl rfl))) (blkOk_by (by kernel_rfl)) rfl (fun _ _ _ _ _ => (dg_name (i := 6) sc_nearest_steps.nd rfl (.inl rfl) (.inr rfl))) (fun _ _ _ _ _ => dts_nil) (fun _ _ _ _ _ => (dp_mod (dp_mul (dp_var (i := 6) rfl (.inl rfl)) (dp_var (i := 0) rfl (.inr (.inl rfl)))) (dp_var (i := 1) rfl (.inr (.inl rfl))))))
    (dss_cons (ds_par (i := 4) (j := 5) rfl sc_nearest_steps.nd rfl rfl (by decide) rfl rfl (dp_callB (call_minX rfl) v_min rfl m_min (by decide +kernel) (da_cons (dp_sl (dp_var (i := 3) rfl (.inl rfl)) (dpart_some dp_int) dpart_none) da_nil)) (dp_callB (cr_maxXX hr rfl) v_maxX rfl m_max (by decide +kernel) (da_cons (dp_sl (dp_var (i := 3) rfl (.inl rfl)) (dpart_some dp_int) dpart_none) da_nil)) rfl)
    (dss_one (ds_ret (dp_tup (da_cons (dp_index hr (dp_var (i := 3) rfl (.inl rfl)) (da_cons (dp_var (i := 4) rfl (.inl rfl)) da_nil)) (da_cons (dp_var (i := 4) rfl (.inl rfl)) (da_cons (dp_index hr (dp_var (i := 3) rfl (.inl rfl)) (da_cons (dp_var (i := 5) rfl (.inl rfl)) da_nil)) (da_cons (dp_sub (dp_var (i := 1) rfl (.inr (.inl rfl))) (dp_var (i := 5) rfl (.inl rfl))) da_nil)))))))))
def b1_round_distances : SF :=
  (sIf (cTst (cBin (gCmp .lt) (cV 8) (cBin gSub (cV 2) (cV 3))))
    (sApp 7 (cV 4))
    (sApp 7 (cIf (cTst (cBin (gCmp .ge) (cV 8) (cV 5))) (cV 6) (cBin gAdd (cV 4) (cV 6)))))
theorem sc_round_distances : FnScope ["p", "q", "many", "step", "u", "back", "v", "found", "k"] ["p", "q", "many"] (defScope (top 3)) := ⟨rfl, rfl, rfl, by decide +kernel, rfl, by decide +kernel, by decide +kernel⟩
def g_round_distances : SF :=
  (sSeq (sTgt (setTup 4 (setCons (setE 3) (setCons (setE 4) (setCons (setE 5) (setCons (setE 6) setNil))))) (cFn 3 F_nearest_steps (aCons (cV 0) (aCons (cV 1) (aCons (cV 2) aNil)))))
    (sSeq (sSetL 7 (cLst aNil))
    (sSeq (sFor (cRng1 (cV 2)) (setE 8)
    b1_round_distances)
    (sRet (cScal (cCall gTuple1 (aCons (cV 7) aNil)))))))
def F_round_distances : List D → R D := run 9 g_round_distances
theorem ok_round_distances {P : Program} {w : World} {K : PySem.W.Frag} {mg : Str → Option Value} {base : Heap} (F : FunAt K mg "round_distances" (top 3)) (h_nearest_steps : HasFn P w K mg base "nearest_steps" 1 3 F_nearest_steps) (m_range : mg "range" = none) (m_tuple : mg "tuple" = none) : HasFn P w K mg base "round_distances" 2 3 F_round_distances :=
  mkFn (k := 1) (cf0 [(7, mL)]) F sc_round_distances rfl rfl (by decide) (by decide) (fun _ _ _ _ _ _ us hl => match us, hl with | [_, _, _], _ => rfl) fun f cdv A outer s H E hr =>
    (dss_cons (ds_tgt (sl := ([3] ++ ([4] ++ ([5] ++ ([6] ++ []))))) (dp_fn h_nearest_steps hr (by decide) rfl (da_cons (dp_var (i := 0) rfl (.inl rfl)) (da_cons (dp_var (i := 1) rfl (.inl rfl)) (da_cons (dp_var (i := 2) rfl (.inl rfl)) da_nil)))) (dg_tup rfl (dgs_cons (dg_name (i := 3) sc_round_distances.nd rfl (.inl rfl) (.inl rfl)) (dgs_cons (dg_name (i := 4) sc_round_distances.nd rfl (.inl rfl) (.inl rfl)) (dgs_cons (dg_name (i := 5) sc_round_distances.nd rfl (.inl rfl) (.inl rfl)) (dgs_cons (dg_name (i := 6) sc_round_distances.nd rfl (.inl rfl) (.inl rfl)) dgs_nil))))))
    (dss_cons (ds_setL (i := 7) sc_round_distances.nd rfl (.inl rfl) (do_lst da_nil))
    (dss_cons (ds_for (sl := [8]) PassesOwn.never rfl (di_rng1 rfl m_range (dp_var (i := 2) rfl (.inl rfl))) (dg_name (i := 8) sc_round_distances.nd rfl (.inl rfl) (.inl rfl))
    (dss_one (ds_if (dt_cmp (op_cmpD .lt hr) (v_cmp .lt) (dp_var (i := 8) rfl (.inl rfl)) (dp_sub (dp_var (i := 2) rfl (.inl rfl)) (dp_var (i := 3) rfl (.inl rfl))) (nomark _))
    (dss_one (ds_app (i := 7) rfl (.inl rfl) (dp_var (i := 4) rfl (.inl rfl))))
    (dss_one (ds_app (i := 7) rfl (.inl rfl) (dp_if (dt_cmp (op_cmpD .ge hr) (v_cmp .ge) (dp_var (i := 8) rfl (.inl rfl)) (dp_var (i := 5) rfl (.inl rfl)) (nomark _)) (dp_var (i := 6) rfl (.inl rfl)) (dp_add (dp_var (i := 4) rfl (.inl rfl)) (dp_var (i := 6) rfl (.inl rfl)))))))))
    (dss_one (ds_ret (dp_scal (dp_callTy call_tuple_of v_tuple1 rfl m_tuple (by decide +kernel) (da_cons (dp_var (i := 7) rfl (.inl rfl)) da_nil))))))))
theorem sc__law_source : FnScope ["script", "mixed", "cell"] ["script"] (defScope (top 5)) := ⟨rfl, rfl, rfl, by decide +kernel, rfl, by decide +kernel, by decide +kernel⟩
theorem ok__law_source {P : Program} {w : World} {K : PySem.W.Frag} {mg : Str → Option Value} {base : Heap} (F : FunAt K mg "_law_source" (top 5)) (m_abs : mg "abs" = none) (m_int : mg "int" = none) : HasSrc P w K mg base "_law_source" 1 :=
  mkSrcB (k := 0) F sc__law_source rfl rfl (fun _ _ _ _ _ _ us hl => match us, hl with | [_], _ => rfl) fun f cdv A outer s H E hr =>
    (pss_cons (ps_set (i := 1) sc__law_source.nd rfl (.inl rfl) pe_int rfl) (pss_cons (ps_for PassesOwn.never rfl (pi_list (pe_var (i := 0) rfl (.inl rfl))) (pg_name (i := 2) sc__law_source.nd rfl (.inl rfl) (.inl rfl)) (pss_one (ps_set (i := 1) sc__law_source.nd rfl (.inl rfl) (DP.can ((dp_mod (dp_callTy call_int1 v_int1 rfl m_int (by decide +kernel) (da_cons (dp_add (dp_add (dp_mulI (dp_var (i := 1) rfl (.inl rfl)) dp_int) (dp_mulI (dp_var (i := 2) rfl (.inl rfl)) dp_int)) dp_int) da_nil)) dp_int))) rfl))) (pss_one (ps_ret (pe_disp (pps_cons pe_str (pe_revL (pe_lc (own := [("cell", 2)]) rfl sc__law_source.nd (pi_list (pe_var (i := 0) rfl (.inl rfl))) (blkOk_by (by kernel_rfl)) (fun _ _ _ _ _ => pg_name sc__law_source.nd rfl (.inl rfl) (.inr rfl)) (fun _ _ _ _ _ => dts_nil.run) (fun _ _ _ _ _ => DP.can ((dp_callB call_abs v_abs rfl m_abs (by decide +kernel) (da_cons (dp_var (i := 2) rfl (.inl rfl)) da_nil)))))) (pps_cons pe_str pe_int (pps_cons pe_str (pe_var (i := 1) rfl (.inl rfl)) (pps_cons pe_str pe_int pps_nil)))) rfl rfl (by simp) (by decide))))))
theorem sc__law_pick : FnScope ["source", "many", "left", "mixed"] ["source", "many"] (defScope (top 6)) := ⟨rfl, rfl, rfl, by decide +kernel, rfl, by decide +kernel, by decide +kernel⟩
abbrev F__law_pick : List D → R (D × D) := pickB
theorem ok__law_pick {P : Program} {w : World} {K : PySem.W.Frag} {mg : Str → Option Value} {base : Heap} (F : FunAt K mg "_law_pick" (top 6)) (m_int : mg "int" = none) (m_len : mg "len" = none) (m_max : mg "max" = none) : HasFnM P w K mg base "_law_pick" 1 2 mSrc F__law_pick :=
  mkFnM (k := 0) (g := gPickB) [] F sc__law_pick (by decide) (by decide) (by decide) (fun _ _ _ _ _ _ us hl => match us, hl with | [_, _], _ => rfl) fun v0 f cdv A outer s H E hr =>
    (dss_cons (ds_drainB (k6 := 0) (i := 0) (j := 1) hr PassesOwn.never rfl rfl (.inl rfl) (.inl rfl) rfl m_len rfl rfl (by decide) (by decide) (by decide) (by decide) (by decide) rfl rfl rfl rfl)
    (dss_cons (ds_setE (i := 2) sc__law_pick.nd rfl (.inl rfl) (de_src .left hr rfl (.inl rfl)))
    (dss_cons (ds_if (DW.t (dw_or (dt_cmp (op_cmpD .lt hr) (v_cmp .lt) (dp_var (i := 1) rfl (.inl rfl)) dp_int (nomark _)) (dw_or1 (dt_cmp (op_cmpD .gt hr) (v_cmp .gt) (dp_var (i := 2) rfl (.inl rfl)) dp_int (nomark _)))))
    (dss_cons (ds_srcPut .left hr rfl (.inl rfl) (DP.eff ((dp_fdiv (dp_var (i := 2) rfl (.inl rfl)) (dp_callB (call_max2 rfl) v_max2 rfl m_max (by decide +kernel) (da_cons dp_int (da_cons (dp_var (i := 1) rfl (.inl rfl)) da_nil)))))))
    (dss_one (ds_ret (dp_mod (dp_callTy call_int1 v_int1 rfl m_int (by decide +kernel) (da_cons (dp_var (i := 2) rfl (.inl rfl)) da_nil)) (dp_callB (call_max2 rfl) v_max2 rfl m_max (by decide +kernel) (da_cons dp_int (da_cons (dp_var (i := 1) rfl (.inl rfl)) da_nil)))))))
    dss_nil)
    (dss_cons (ds_srcPut .turn hr rfl (.inl rfl) (de_op op_addD v_add (de_src .turn hr rfl (.inl rfl)) (DP.eff (dp_int))))
    (dss_cons (ds_setE (i := 3) sc__law_pick.nd rfl (.inl rfl) (de_op op_mod v_mod (de_callTy call_int1 v_int1 rfl m_int (by decide +kernel) (dea_cons (de_op op_addD v_add (de_src .mixed hr rfl (.inl rfl)) (de_op op_mul v_mulI (de_src .turn hr rfl (.inl rfl)) (DP.eff (dp_int)))) dea_nil)) (DP.eff (dp_int))))
    (dss_cons (ds_setE (i := 3) sc__law_pick.nd rfl (.inl rfl) (de_op op_mod v_mod (de_callTy call_int1 v_int1 rfl m_int (by decide +kernel) (dea_cons (de_op op_addD v_add (DP.eff ((dp_mulI (dp_var (i := 3) rfl (.inl rfl)) (dp_var (i := 3) rfl (.inl rfl))))) (de_op op_mul v_mulI (de_src .turn hr rfl (.inl rfl)) (DP.eff (dp_int)))) dea_nil)) (DP.eff (dp_int))))
    (dss_cons (ds_srcPut .mixed hr rfl (.inl rfl) (DP.eff ((dp_var (i := 3) rfl (.inl rfl)))))
    (dss_one (ds_ret (dp_mod (dp_callTy call_int1 v_int1 rfl m_int (by decide +kernel) (da_cons (dp_fdiv (dp_var (i := 3) rfl (.inl rfl)) dp_int) da_nil)) (dp_var (i := 1) rfl (.inl rfl))))))))))))
theorem sc__law_of : FnScope ["source", "some"] ["source", "some"] (defScope (top 7)) := ⟨rfl, rfl, rfl, by decide +kernel, rfl, by decide +kernel, by decide +kernel⟩
def g__law_of : SF :=
  (eRet (eBin gIx (eP (cV 1)) (eFnM 0 2 F__law_pick (eaCons (eP (cCall gLen (aCons (cV 1) aNil))) eaNil))))
def F__law_of : List D → R (D × D) := runM 2 g__law_of
theorem ok__law_of {P : Program} {w : World} {K : PySem.W.Frag} {mg : Str → Option Value} {base : Heap} (F : FunAt K mg "_law_of" (top 7)) (h__law_pick : HasFnM P w K mg base "_law_pick" 1 2 mSrc F__law_pick) (m_len : mg "len" = none) : HasFnM P w K mg base "_law_of" 2 2 mSrc F__law_of :=
  mkFnM (k := 1) [] F sc__law_of (by decide) (by decide) (by decide) (fun _ _ _ _ _ _ us hl => match us, hl with | [_, _], _ => rfl) fun v0 f cdv A outer s H E hr =>
    (dss_one (ds_retE (de_ix (DP.eff ((dp_var (i := 1) rfl (.inl rfl)))) (de_fnM h__law_pick hr (by decide) rfl (i := 0) rfl (.inl rfl) (dea_cons (DP.eff ((dp_callB call_lenX v_len rfl m_len (by decide +kernel) (da_cons (dp_var (i := 1) rfl (.inl rfl)) da_nil)))) dea_nil)))))
theorem sc__law_slope : FnScope ["source", "most", "p", "some", "q", "d"] ["source", "most"] (defScope (top 8)) := ⟨rfl, rfl, rfl, by decide +kernel, rfl, by decide +kernel, by decide +kernel⟩
def g__law_slope : SF :=
  (sSeq (eSet 2 (eBin gAdd (eP (cC (.int 2))) (eFnM 0 2 F__law_pick (eaCons (eP (cBin gSub (cV 1) (cC (.int 1)))) eaNil))))
    (sSeq (sSet 3 (cList (cLc (cRng2 (cC (.int 1)) (cV 2)) [4] (setE 4) (cTst (cBin gEq (cList (cLc (cRng2 (cC (.int 2)) (cBin gAdd (cV 4) (cC (.int 1)))) [5] (setE 5) (cAnd (cTst (cBin gEq (cBin gMod (cCall gInt1 (aCons (cV 2) aNil)) (cV 5)) (cC (.int 0)))) (cTst (cBin gEq (cBin gMod (cCall gInt1 (aCons (cV 4) aNil)) (cV 5)) (cC (.int 0))))) (cV 5))) (cList (cLst aNil)))) (cV 4))))
    (eRet (eTup (eaCons (eP (cV 2)) (eaCons (eFnM 0 2 F__law_of (eaCons (eP (cV 3)) eaNil)) eaNil))))))
def F__law_slope : List D → R (D × D) := runM 6 g__law_slope
theorem ok__law_slope {P : Program} {w : World} {K : PySem.W.Frag} {mg : Str → Option Value} {base : Heap} (F : FunAt K mg "_law_slope" (top 8)) (h__law_of : HasFnM P w K mg base "_law_of" 2 2 mSrc F__law_of) (h__law_pick : HasFnM P w K mg base "_law_pick" 1 2 mSrc F__law_pick) (m_int : mg "int" = none) (m_range : mg "range" = none) : HasFnM P w K mg base "_law_slope" 3 2 mSrc F__law_slope :=
  mkFnM (k := 2) [] F sc__law_slope (by decide) (by decide) (by decide) (fun _ _ _ _ _ _ us hl => match us, hl with | [_, _], _ => rfl) fun v0 f cdv A outer s H E hr =>
    (dss_cons (ds_setE (i := 2) sc__law_slope.nd rfl (.inr rfl) (de_op op_addD v_add (DP.eff (dp_int)) (de_fnM h__law_pick hr (by decide) rfl (i := 0) rfl (.inl rfl) (dea_cons (DP.eff ((dp_sub (dp_var (i := 1) rfl (.inl rfl)) dp_int))) dea_nil))))
    (dss_cons (ds_lcF (i := 3) (own := [("q", 4)]) (sl := [4]) rfl sc__law_slope.nd rfl rfl (sw_true rfl rfl rfl (by decide +kernel)) (di_rng2 rfl m_range dp_int (dp_var (i := 2) rfl (.inr (.inl rfl)))) (blkOk_by (by kernel_rfl)) rfl (fun _ _ _ _ _ => (dg_name (i := 4) sc__law_slope.nd rfl (.inr rfl) (.inl rfl))) (fun _ _ _ _ _ => (dts_one (dt_cmp (op_eqX hr.units) v_eq (DO.p ((do_lc (own := [("d", 5)]) (sl := [5]) rfl sc__law_slope.nd (di_rng2 rfl m_range dp_int (dp_add (dp_var (i := 4) rfl (.inr (.inl rfl))) dp_int)) (blkOk_by (by kernel_rfl)) rfl (fun _ _ _ _ _ => (dg_name (i := 5) sc__law_slope.nd rfl (.inl rfl) (.inr rfl))) (fun _ _ _ _ _ => (dts_one (DW.t (dw_and (dt_cmp (op_eqX hr.units) v_eq (dp_mod (dp_callTy call_int1 v_int1 rfl m_int (by decide +kernel) (da_cons (dp_var (i := 2) rfl (.inr (.inl rfl))) da_nil)) (dp_var (i := 5) rfl (.inl rfl))) dp_int (nomark _)) (dw_and1 (dt_cmp (op_eqX hr.units) v_eq (dp_mod (dp_callTy call_int1 v_int1 rfl m_int (by decide +kernel) (da_cons (dp_var (i := 4) rfl (.inr (.inl rfl))) da_nil)) (dp_var (i := 5) rfl (.inl rfl))) dp_int (nomark _))))))) (fun _ _ _ _ _ => (dp_var (i := 5) rfl (.inl rfl)))))) (DO.p (do_lst da_nil)) (nomark _)))) (fun _ _ _ _ _ => (dp_var (i := 4) rfl (.inr (.inl rfl)))))
    (dss_one (ds_retE (de_tup (dea_cons (DP.eff ((dp_var (i := 2) rfl (.inr (.inl rfl))))) (dea_cons (de_fnM h__law_of hr (by decide) rfl (i := 0) rfl (.inl rfl) (dea_cons (DP.eff ((dp_var (i := 3) rfl (.inl rfl)))) dea_nil)) dea_nil)))))))
def b1_law : SF :=
  (sSet 9 (cBin gAdd (cV 9) (cC (.int 1))))
def b2_law : SF :=
  (sSeq (sSet 9 (cC (.int 1)))
    (sSeq (sWhile fuel (cTst (cBin (gInS true) (cBin gMod (cCall gInt1 (aCons (cBin gAdd (cV 8) (cV 9)) aNil)) (cV 3)) (cV 6)))
    b1_law)
    (sApp 7 (cV 9))))
def b3_law : SF :=
  (sSeq (eTgt (setTup 2 (setCons (setE 3) (setCons (setE 4) setNil))) (eFnM 1 2 F__law_slope (eaCons (eP (cBin gIx (cList (cLst (aCons (cC (.int 6)) (aCons (cC (.int 15)) (aCons (cC (.int 30)) (aCons (cC (.int 60)) (aCons (cC (.int 60)) aNil))))))) (cV 2))) eaNil)))
    (sSeq (eSet 5 (eBin gAdd (eP (cC (.int 2))) (eFnM 1 2 F__law_pick (eaCons (eP (cBin gSub (cV 3) (cC (.int 1)))) eaNil))))
    (sSeq (sSet 6 (cList (cLc (cRng1 (cV 5)) [13] (setE 13) cYes (cBin gMod (cCall gInt1 (aCons (cBin gMul (cV 13) (cV 4)) aNil)) (cV 3)))))
    (sSeq (sIf (cTst (cBin gNe (cCall gRepr (aCons (cFn 3 F_round_points (aCons (cV 4) (aCons (cV 3) (aCons (cV 5) aNil)))) aNil)) (cCall gRepr (aCons (cCall gTuple1 (aCons (cCall gSortedV (aCons (cV 6) aNil)) aNil)) aNil))))
    (sRet (cC (.bool false)))
    sNil)
    (sSeq (sSetL 7 (cLst aNil))
    (sSeq (sFor (cItX (cV 6)) (setE 8)
    b2_law)
    (sSeq (sIf (cOr (cTst (cBin gNe (cCall gRepr (aCons (cFn 3 F_round_distances (aCons (cV 4) (aCons (cV 3) (aCons (cV 5) aNil)))) aNil)) (cCall gRepr (aCons (cCall gTuple1 (aCons (cV 7) aNil)) aNil)))) (cTst (cBin gNe (cCall gSumX (aCons (cV 7) aNil)) (cV 3))))
    (sRet (cC (.bool false)))
    sNil)
    (sSeq (sPar 10 11 (cCall gMin (aCons (cSl (cV 6) (cPart (cC (.int 1))) cNoPart) aNil)) (cCall gMaxX (aCons (cSl (cV 6) (cPart (cC (.int 1))) cNoPart) aNil)))
    (sSeq (sSet 12 (cTup (aCons (cIndex (cV 6) (aCons (cV 10) aNil)) (aCons (cV 10) (aCons (cIndex (cV 6) (aCons (cV 11) aNil)) (aCons (cBin gSub (cV 3) (cV 11)) aNil))))))
    (sIf (cOr (cTst (cBin gNe (cCall gRepr (aCons (cFn 3 F_nearest_steps (aCons (cV 4) (aCons (cV 3) (aCons (cV 5) aNil)))) aNil)) (cCall gRepr (aCons (cV 12) aNil)))) (cTst (cBin (gCmp .lt) (cBin gAdd (cBin gIx (cV 12) (cC (.int 0))) (cBin gIx (cV 12) (cC (.int 2)))) (cV 5))))
    (sRet (cC (.bool false)))
    sNil))))))))))
def t4_law : SF :=
  (sFor (cRng1 (cC (.int 5))) (setE 2)
    b3_law)
def t5_law : SF :=
  (sRet (cBin gEq (cFn 3 F_round_distances (aCons (cC (.int 3)) (aCons (cC (.int 8)) (aCons (cC (.int 5)) aNil)))) (cTup (aCons (cC (.int 1)) (aCons (cC (.int 1)) (aCons (cC (.int 2)) (aCons (cC (.int 2)) (aCons (cC (.int 2)) aNil))))))))
theorem sc_law : FnScope ["script", "source", "lap", "q", "p", "many", "places", "distances", "place", "far", "least", "greatest", "due", "k"] ["script"] (defScope (top 10)) := ⟨rfl, rfl, rfl, by decide +kernel, rfl, by decide +kernel, by decide +kernel⟩
def g_law : SF :=
  (sSeq t4_law
    t5_law)
theorem ok_law {P : Program} {w : World} {K : PySem.W.Frag} {mg : Str → Option Value} {base : Heap} {fa : Addr} {fd : FuncData} (F : FunD K "law" "law" (defArgs (top 10)) (defBody (top 10)) (defScope (top 10)) [] [] fa fd) (h__law_pick : HasFnM P w K mg base "_law_pick" 1 2 mSrc F__law_pick) (h__law_slope : HasFnM P w K mg base "_law_slope" 3 2 mSrc F__law_slope) (h__law_source : HasSrc P w K mg base "_law_source" 1) (h_nearest_steps : HasFn P w K mg base "nearest_steps" 1 3 F_nearest_steps) (h_round_distances : HasFn P w K mg base "round_distances" 2 3 F_round_distances) (h_round_points : HasFn P w K mg base "round_points" 1 3 F_round_points) (m_int : mg "int" = none) (m_max : mg "max" = none) (m_min : mg "min" = none) (m_range : mg "range" = none) (m_repr : mg "repr" = none) (m_sorted : mg "sorted" = none) (m_sum : mg "sum" = none) (m_tuple : mg "tuple" = none) (hlaw : LawTrue 1 14 g_law) : FnG P w K mg base CX0 4 fa fd ["script"] (spLaw K) :=
  mkLaw (k := 3) (i := 1) [(7, mL)] F sc_law rfl (by decide) (by decide) (fun f cdv A outer s H E hr => ps_src h__law_source hr (by decide) rfl sc_law.nd rfl (.inl rfl) rfl (.inl rfl)) (fun f cdv A outer s H E hr =>
    (dss_cons (ds_for (sl := [2]) PassesOwn.never rfl (di_rng1 rfl m_range dp_int) (dg_name (i := 2) sc_law.nd rfl (.inl rfl) (.inl rfl))
    (dss_cons (ds_tgtE (sl := ([3] ++ ([4] ++ []))) (de_fnM h__law_slope hr (by decide) rfl (i := 1) rfl (.inl rfl) (dea_cons (DP.eff ((dp_ix (DO.p (do_lst (da_cons dp_int (da_cons dp_int (da_cons dp_int (da_cons dp_int (da_cons dp_int da_nil))))))) (dp_var (i := 2) rfl (.inl rfl))))) dea_nil)) (dg_tup rfl (dgs_cons (dg_name (i := 3) sc_law.nd rfl (.inr rfl) (.inl rfl)) (dgs_cons (dg_name (i := 4) sc_law.nd rfl (.inr rfl) (.inl rfl)) dgs_nil))))
    (dss_cons (ds_setE (i := 5) sc_law.nd rfl (.inl rfl) (de_op op_addD v_add (DP.eff (dp_int)) (de_fnM h__law_pick hr (by decide) rfl (i := 1) rfl (.inl rfl) (dea_cons (DP.eff ((dp_sub (dp_var (i := 3) rfl (.inr (.inl rfl))) dp_int))) dea_nil))))
    (dss_cons (ds_lcF (i := 6) (own := [("k", 13)]) (sl := [13]) rfl sc_law.nd rfl rfl (sw_true rfl rfl rfl (by decide +kernel)) (di_rng1 rfl m_range (dp_var (i := 5) rfl (.inl rfl))) (blkOk_by (by kernel_rfl)) rfl (fun _ _ _ _ _ => (dg_name (i := 13) sc_law.nd rfl (.inl rfl) (.inr rfl))) (fun _ _ _ _ _ => dts_nil) (fun _ _ _ _ _ => (dp_mod (dp_callTy call_int1 v_int1 rfl m_int (by decide +kernel) (da_cons (dp_mul (dp_var (i := 13) rfl (.inl rfl)) (dp_var (i := 4) rfl (.inr (.inl rfl)))) da_nil)) (dp_var (i := 3) rfl (.inr (.inl rfl))))))
    (dss_cons (ds_if (dt_cmp (op_neX hr.units) v_ne (dp_callB (cr_repr hr) v_repr rfl m_repr (by decide +kernel) (da_cons (dp_fn h_round_points hr (by decide) rfl (da_cons (dp_var (i := 4) rfl (.inr (.inl rfl))) (da_cons (dp_var (i := 3) rfl (.inr (.inl rfl))) (da_cons (dp_var (i := 5) rfl (.inl rfl)) da_nil)))) da_nil)) (dp_callB (cr_repr hr) v_repr rfl m_repr (by decide +kernel) (da_cons (dp_callTy call_tuple_of v_tuple1 rfl m_tuple (by decide +kernel) (da_cons (dp_callB (cr_sortV hr rfl) v_sortedV rfl m_sorted (by decide +kernel) (da_cons (dp_var (i := 6) rfl (.inl rfl)) da_nil)) da_nil)) da_nil)) (nomark _))
    (dss_one (ds_ret dp_bl))
    dss_nil)
    (dss_cons (ds_setL (i := 7) sc_law.nd rfl (.inl rfl) (do_lst da_nil))
    (dss_cons (ds_for (sl := [8]) PassesOwn.never rfl (di_any (dp_var (i := 6) rfl (.inl rfl))) (dg_name (i := 8) sc_law.nd rfl (.inl rfl) (.inl rfl))
    (dss_cons (ds_set (i := 9) sc_law.nd rfl (.inl rfl) dp_int)
    (dss_cons (ds_while fuel PassesOwn.never (dt_cmp (op_notInS hr) (v_inS true) (dp_mod (dp_callTy call_int1 v_int1 rfl m_int (by decide +kernel) (da_cons (dp_add (dp_var (i := 8) rfl (.inl rfl)) (dp_var (i := 9) rfl (.inl rfl))) da_nil)) (dp_var (i := 3) rfl (.inr (.inl rfl)))) (dp_var (i := 6) rfl (.inl rfl)) rfl)
    (dss_one (ds_set (i := 9) sc_law.nd rfl (.inl rfl) (dp_add (dp_var (i := 9) rfl (.inl rfl)) dp_int))))
    (dss_one (ds_app (i := 7) rfl (.inl rfl) (dp_var (i := 9) rfl (.inl rfl)))))))
    (dss_cons (ds_if (DW.t (dw_or (dt_cmp (op_neX hr.units) v_ne (dp_callB (cr_repr hr) v_repr rfl m_repr (by decide +kernel) (da_cons (dp_fn h_round_distances hr (by decide) rfl (da_cons (dp_var (i := 4) rfl (.inr (.inl rfl))) (da_cons (dp_var (i := 3) rfl (.inr (.inl rfl))) (da_cons (dp_var (i := 5) rfl (.inl rfl)) da_nil)))) da_nil)) (dp_callB (cr_repr hr) v_repr rfl m_repr (by decide +kernel) (da_cons (dp_callTy call_tuple_of v_tuple1 rfl m_tuple (by decide +kernel) (da_cons (dp_var (i := 7) rfl (.inl rfl)) da_nil)) da_nil)) (nomark _)) (dw_or1 (dt_cmp (op_neX hr.units) v_ne (dp_callB (call_sumX rfl) v_sumX rfl m_sum (by decide +kernel) (da_cons (dp_var (i := 7) rfl (.inl rfl)) da_nil)) (dp_var (i := 3) rfl (.inr (.inl rfl))) (nomark _)))))
    (dss_one (ds_ret dp_bl))
    dss_nil)
    (dss_cons (ds_par (i := 10) (j := 11) rfl sc_law.nd rfl rfl (by decide) rfl rfl (dp_callB (call_minX rfl) v_min rfl m_min (by decide +kernel) (da_cons (dp_sl (dp_var (i := 6) rfl (.inl rfl)) (dpart_some dp_int) dpart_none) da_nil)) (dp_callB (cr_maxXX hr rfl) v_maxX rfl m_max (by decide +kernel) (da_cons (dp_sl (dp_var (i := 6) rfl (.inl rfl)) (dpart_some dp_int) dpart_none) da_nil)) rfl)
    (dss_cons (ds_set (i := 12) sc_law.nd rfl (.inl rfl) (dp_tup (da_cons (dp_index hr (dp_var (i := 6) rfl (.inl rfl)) (da_cons (dp_var (i := 10) rfl (.inl rfl)) da_nil)) (da_cons (dp_var (i := 10) rfl (.inl rfl)) (da_cons (dp_index hr (dp_var (i := 6) rfl (.inl rfl)) (da_cons (dp_var (i := 11) rfl (.inl rfl)) da_nil)) (da_cons (dp_sub (dp_var (i := 3) rfl (.inr (.inl rfl))) (dp_var (i := 11) rfl (.inl rfl))) da_nil))))))
    (dss_one (ds_if (DW.t (dw_or (dt_cmp (op_neX hr.units) v_ne (dp_callB (cr_repr hr) v_repr rfl m_repr (by decide +kernel) (da_cons (dp_fn h_nearest_steps hr (by decide) rfl (da_cons (dp_var (i := 4) rfl (.inr (.inl rfl))) (da_cons (dp_var (i := 3) rfl (.inr (.inl rfl))) (da_cons (dp_var (i := 5) rfl (.inl rfl)) da_nil)))) da_nil)) (dp_callB (cr_repr hr) v_repr rfl m_repr (by decide +kernel) (da_cons (dp_var (i := 12) rfl (.inl rfl)) da_nil)) (nomark _)) (dw_or1 (dt_cmp (op_cmpD .lt hr) (v_cmp .lt) (dp_add (dp_ix (dp_var (i := 12) rfl (.inl rfl)) dp_int) (dp_ix (dp_var (i := 12) rfl (.inl rfl)) dp_int)) (dp_var (i := 5) rfl (.inl rfl)) (nomark _)))))
    (dss_one (ds_ret dp_bl))
    dss_nil))))))))))))
    (dss_one (ds_ret (dp_cmp (op_eqX hr.units) v_eq (dp_fn h_round_distances hr (by decide) rfl (da_cons dp_int (da_cons dp_int (da_cons dp_int da_nil)))) (dp_tup (da_cons dp_int (da_cons dp_int (da_cons dp_int (da_cons dp_int (da_cons dp_int da_nil)))))) (nomark _)))))) hlaw
end Lw
set_option maxRecDepth 100000
set_option maxHeartbeats 4000000
namespace Lw
open PySem PySem.Spec PyProof.Rows L2 Dz T43
local macro_rules | `(tactic| sizeOf_list_dec) => `(tactic| first | with_reducible exact setZ | ((with_reducible apply setS); sizeOf_list_dec) | with_reducible exact getZ | ((with_reducible apply getS); sizeOf_list_dec) | with_reducible exact wipe0 | ((with_reducible apply wipeS); (· sizeOf_list_dec); (· sizeOf_list_dec)) | with_reducible exact rest0 | ((with_reducible apply restS); (· sizeOf_list_dec); (· sizeOf_list_dec); (· sizeOf_list_dec)) | with_reducible exact storeN | ((with_reducible apply storeC); (· sizeOf_list_dec); (· sizeOf_list_dec)))
local macro_rules | `(tactic| decreasing_trivial_pre_omega) => `(tactic| first | with_reducible assumption | omega | (simp only [List.length_append, List.length_map, List.length_range, List.length_take, List.length_drop, List.length_reverse, List.length_replicate, List.length_cons, List.length_nil, List.length_singleton, sizeLine_eq] at *; omega) | ((with_reducible apply_assumption (transparency := .reducible) (symm := false) (exfalso := false) only [*]) <;> first | with_reducible assumption | omega) | exact rfl)
local macro_rules | `(tactic| infer_instance) => `(tactic| first | with_reducible assumption | with_reducible rfl | ((with_reducible apply bf_or); (· infer_instance); (· infer_instance)) | ((with_reducible apply bt_and); (· infer_instance); (· infer_instance)) | ((with_reducible apply bf_not); infer_instance) | ((with_reducible apply bt_not); infer_instance) | ((with_reducible apply bf_dec); first | with_reducible assumption | omega | (intro hh; omega) | (simp only [List.length_append, List.length_map, List.length_range, List.length_take, List.length_drop, List.length_reverse, List.length_replicate, List.length_cons, List.length_nil, List.length_singleton]; omega)) | ((with_reducible apply bt_dec); first | with_reducible assumption | with_reducible rfl | ((with_reducible apply shown_eq); first | with_reducible assumption | with_reducible rfl) | decreasing_trivial_pre_omega) | ((with_reducible apply bf_ne); first | with_reducible assumption | with_reducible rfl) | ((with_reducible apply bf_and1); infer_instance) | ((with_reducible apply bf_and2); infer_instance) | ((with_reducible apply bt_or1); infer_instance) | ((with_reducible apply bt_or2); infer_instance))
local macro_rules | `(tactic| array_mem_dec) => `(tactic| first | ((with_reducible refine of_r ?_); with_reducible assumption) | ((with_reducible apply cV_ok); sizeOf_list_dec) | with_reducible exact cC_nat | with_reducible exact cC_ok | with_reducible exact aNil_ok | with_reducible apply aCons_ok | with_reducible apply cTst_ok' | with_reducible exact toB_ok | with_reducible apply cBin_ok | ((with_reducible apply cFnW); (· array_get_dec); (· exact rfl)) | with_reducible apply cCall_ok | ((with_reducible apply cIf_T); (· array_get_dec); (· infer_instance)) | ((with_reducible apply cIf_F); (· array_get_dec); (· infer_instance)) | with_reducible apply cIf_nat | with_reducible apply cAnd_w | with_reducible apply cOr_w | with_reducible apply cNot_ok | with_reducible apply cAndV_w | with_reducible apply cOrV_w | with_reducible apply cNotV_w | with_reducible apply cBl_ok | with_reducible apply cUn_ok | with_reducible apply cSl_w | with_reducible apply cPart_ok | with_reducible exact cNoPart_ok | ((with_reducible apply cTup_ok); (· array_get_dec); (· decreasing_trivial_pre_omega)) | ((with_reducible apply cLst_ok); (· array_get_dec); (· decreasing_trivial_pre_omega)) | with_reducible apply cList_ok | with_reducible apply cItX_ok | ((with_reducible apply cRng1_w); (· array_get_dec); (· decreasing_trivial_pre_omega)) | ((with_reducible apply cRng2_w); (· array_get_dec); (· array_get_dec); (· decreasing_trivial_pre_omega); (· decreasing_trivial_pre_omega)) | ((with_reducible apply cRng2_wi); (· array_get_dec); (· array_get_dec); (· decreasing_trivial_pre_omega); (· decreasing_trivial_pre_omega)) | ((with_reducible apply cLR1_w); (· array_get_dec); (· decreasing_trivial_pre_omega)) | ((with_reducible apply cLR2_w); (· array_get_dec); (· array_get_dec); (· decreasing_trivial_pre_omega); (· decreasing_trivial_pre_omega)) | ((with_reducible apply cLcYR_w); (· array_get_dec); (· sizeOf_list_dec); (· decreasing_trivial_pre_omega); intro _ _; with_reducible apply lcY_mk) | ((with_reducible apply cLcY_w); (· array_get_dec); (· sizeOf_list_dec); (· decreasing_trivial_pre_omega); intro _ _; with_reducible apply lcY_mk) | ((with_reducible apply cLcR_w); (· array_get_dec); (· sizeOf_list_dec); (· decreasing_trivial_pre_omega); intro _ _; with_reducible apply lcB_mk) | ((with_reducible apply cLc_w); (· array_get_dec); (· sizeOf_list_dec); (· decreasing_trivial_pre_omega); intro _ _; with_reducible apply lcB_mk) | with_reducible apply cChain_w | ((with_reducible refine imp_r ?_); intro hb; try simp only [decide_eq_true_eq, decide_eq_false_iff_not, Bool.and_eq_true, Bool.or_eq_false_iff, Bool.not_eq_true', Bool.not_eq_false'] at hb) | ((with_reducible apply setE_ok); sizeOf_list_dec) | ((with_reducible apply setTup_ok); (· exact rfl)) | with_reducible apply setCons_ok | with_reducible exact setNil_ok | with_reducible exact gAdd_nat _ _ | ((with_reducible apply gSub_nat); decreasing_trivial_pre_omega) | with_reducible exact gEq_nat _ _ | with_reducible exact gNe_nat _ _ | with_reducible exact gLt_nat _ _ | with_reducible exact gGt_nat _ _ | with_reducible exact gLe_nat _ _ | with_reducible exact gGe_nat _ _ | ((with_reducible apply gMod_nat); decreasing_trivial_pre_omega) | ((with_reducible apply gDiv_nat); (· decreasing_trivial_pre_omega); (· decreasing_trivial_pre_omega)) | ((with_reducible apply gMulN); decreasing_trivial_pre_omega) | ((with_reducible apply gMulN'); decreasing_trivial_pre_omega) | ((with_reducible refine of_r ?_); ((with_reducible apply_assumption (transparency := .reducible) (symm := false) (exfalso := false) only [*]) <;> decreasing_trivial_pre_omega)) | with_reducible exact gNeg_nat | with_reducible exact gAdd_il | with_reducible exact gSub_il | ((with_reducible apply gDiv_il); (· decreasing_trivial_pre_omega); (· decreasing_trivial_pre_omega)) | with_reducible exact gLt_il | with_reducible exact gLe_il | with_reducible exact gGt_il | with_reducible exact gGe_il | with_reducible exact gEq_il | with_reducible exact gNe_il | with_reducible exact gAdd_int _ _ | with_reducible exact gSub_int _ _ | with_reducible exact gEq_int _ _ | with_reducible exact gNe_int _ _ | with_reducible exact gLt_i _ _ | with_reducible exact gLe_i _ _ | with_reducible exact gGt_i _ _ | with_reducible exact gGe_i _ _ | ((with_reducible apply gMul_i1); decreasing_trivial_pre_omega) | ((with_reducible apply gMul_i2); decreasing_trivial_pre_omega) | ((with_reducible apply gMod_i); decreasing_trivial_pre_omega) | ((with_reducible apply gDiv_i); (· decreasing_trivial_pre_omega); (· decreasing_trivial_pre_omega)) | with_reducible exact gEq_wD _ _ | with_reducible exact gNe_wD _ _ | with_reducible exact gNe_bool _ _ | with_reducible exact gEq_bool _ _ | with_reducible exact gNe_str _ _ | with_reducible exact gIsB_ok | with_reducible exact gNotB_ok | ((with_reducible apply gAdd_wD); decreasing_trivial_pre_omega) | ((with_reducible apply gAdd_list); decreasing_trivial_pre_omega) | ((with_reducible apply gAdd_tup); decreasing_trivial_pre_omega) | ((with_reducible apply gMul_wD); (· decreasing_trivial_pre_omega); (· decreasing_trivial_pre_omega)) | with_reducible exact len_wD' _ | with_reducible exact gLen_map | with_reducible exact gLen_mapT | with_reducible exact gLen_list | with_reducible exact gLen_tup | with_reducible exact gTuple1_ints | with_reducible exact gTuple1_list | with_reducible exact gTuple1_tup | with_reducible exact itemsOf_wD | with_reducible exact itemsOf_list | with_reducible exact itemsOf_tuple | ((with_reducible apply gIx_wD); decreasing_trivial_pre_omega) | ((with_reducible apply gIx_map); decreasing_trivial_pre_omega) | ((with_reducible apply gIx_mapT); decreasing_trivial_pre_omega) | ((with_reducible apply gIx_list0); decreasing_trivial_pre_omega) | ((with_reducible apply gIx_tup0); decreasing_trivial_pre_omega) | with_reducible exact gSl_from | with_reducible exact gSl_to | with_reducible exact gSl_mid | with_reducible exact gSl_fromL | with_reducible exact gSl_toL | with_reducible exact gSl_fromT | with_reducible exact gSl_toT | with_reducible exact gAll_map _ _ | with_reducible exact gAny_map _ _ | with_reducible exact gMin2_nat _ _ | ((with_reducible apply gRepr_ok); with_reducible assumption))
local macro_rules | `(tactic| array_get_dec) => `(tactic| (array_mem_dec <;> array_get_dec))
local macro_rules | `(tactic| array_get_dec) => `(tactic| done)
local macro_rules | `(tactic| subst_eqs) => `(tactic| first | ((with_reducible apply wx_sSeq); subst_eqs) | ((with_reducible apply seqQ_nx); subst_eqs) | ((with_reducible apply seqQ_rt); subst_eqs) | ((with_reducible apply wx_sSet); (· array_get_dec); (· sizeOf_list_dec); subst_eqs) | ((with_reducible apply wx_sSetL); (· array_get_dec); (· sizeOf_list_dec); subst_eqs) | ((with_reducible apply wx_sTgt); (· array_get_dec); (· array_get_dec); subst_eqs) | ((with_reducible apply wx_sPar); (· array_get_dec); (· array_get_dec); (· sizeOf_list_dec); (· sizeOf_list_dec); subst_eqs) | ((with_reducible apply wx_sIf3); (· array_get_dec); first | ((with_reducible refine Or.inl (And.intro ?_ ?_)); (· infer_instance); subst_eqs) | ((with_reducible refine Or.inr (And.intro ?_ ?_)); (· infer_instance); subst_eqs)) | ((with_reducible apply wx_sNil); subst_eqs) | ((with_reducible apply wx_sPass); subst_eqs) | ((with_reducible apply wx_sCont); subst_eqs) | ((with_reducible apply wx_sBreak); subst_eqs) | ((with_reducible apply wx_sRet); (· array_get_dec); subst_eqs) | ((with_reducible apply wx_sFor); (· array_get_dec); subst_eqs) | ((with_reducible apply wx_sApp); (· array_get_dec); (· sizeOf_list_dec); (· decreasing_trivial_pre_omega); (· sizeOf_list_dec); subst_eqs) | ((with_reducible apply wx_eSet); subst_eqs) | ((with_reducible apply setQ_ok); (· sizeOf_list_dec); subst_eqs) | ((with_reducible apply wx_eP); (· array_get_dec); subst_eqs) | ((with_reducible apply wx_eT); (· array_get_dec); subst_eqs) | ((with_reducible apply wx_eO); (· array_get_dec); subst_eqs) | ((with_reducible apply wx_eI); (· array_get_dec); subst_eqs) | ((with_reducible apply wx_eFnM); (· sizeOf_list_dec); subst_eqs) | ((with_reducible apply wx_eaNil); subst_eqs) | ((with_reducible apply wx_eaCons); subst_eqs) | ((with_reducible apply con1Q_ok); subst_eqs) | ((with_reducible apply con2Q_ok); subst_eqs) | ((with_reducible apply fnmQ_ok); (· sizeOf_list_dec); (· exact rfl); subst_eqs) | ((with_reducible apply fnQ_ok); (· sizeOf_list_dec); subst_eqs) | ((with_reducible apply wf_pick pickB_ok); (· decreasing_trivial_pre_omega); intro _ _ _ _ _ _; subst_eqs) | ((with_reducible apply wf_pick pickA_ok); (· decreasing_trivial_pre_omega); intro _ _ _ _ _ _; subst_eqs) | ((with_reducible apply wx_eSetL); subst_eqs) | ((with_reducible apply setLQ_ok); (· sizeOf_list_dec); subst_eqs) | ((with_reducible apply wx_eTgt); subst_eqs) | ((with_reducible apply tgtQ_ok); (· array_get_dec); subst_eqs) | ((with_reducible apply wx_eRet); subst_eqs) | ((with_reducible apply retQ_ok); subst_eqs) | ((with_reducible apply wx_eExpr); subst_eqs) | ((with_reducible apply exprQ_ok); subst_eqs) | ((with_reducible apply wx_eBin); subst_eqs) | ((with_reducible apply bin1Q_ok); subst_eqs) | ((with_reducible apply bin2Q_ok); (· array_get_dec); subst_eqs) | ((with_reducible apply wx_eUn); subst_eqs) | ((with_reducible apply unQ_ok); (· array_get_dec); subst_eqs) | ((with_reducible apply wx_eCall); subst_eqs) | ((with_reducible apply callQ_ok); (· array_get_dec); subst_eqs) | ((with_reducible apply wx_eFn); subst_eqs) | ((with_reducible apply fneQ_ok); (· exact rfl); (· array_get_dec); subst_eqs) | ((with_reducible apply wx_eList); subst_eqs) | ((with_reducible apply elistQ_ok); subst_eqs) | ((with_reducible apply wx_eTup); subst_eqs) | ((with_reducible apply etupQ_ok); (· decreasing_trivial_pre_omega); subst_eqs) | ((with_reducible apply wx_eLst); subst_eqs) | ((with_reducible apply elstQ_ok); (· decreasing_trivial_pre_omega); subst_eqs) | ((with_reducible apply wx_eTst); subst_eqs) | ((with_reducible apply tstQ_ok); subst_eqs) | ((with_reducible apply wx_ePar); subst_eqs) | ((with_reducible apply parQ_ok); (· sizeOf_list_dec); (· sizeOf_list_dec); subst_eqs) | ((with_reducible apply wx_eStore); subst_eqs) | ((with_reducible apply storQ_ok); (· sizeOf_list_dec); subst_eqs) | ((with_reducible apply wx_eFor); subst_eqs) | ((with_reducible apply forQ_ok); subst_eqs) | ((with_reducible apply wx_eApp); subst_eqs) | ((with_reducible apply appQ_ok); (· sizeOf_list_dec); (· decreasing_trivial_pre_omega); (· sizeOf_list_dec); subst_eqs) | ((with_reducible apply wx_eRng); subst_eqs) | ((with_reducible apply rngQ_ok); (· array_get_dec); subst_eqs) | ((with_reducible apply wx_eItX); subst_eqs) | ((with_reducible apply itxQ_ok); (· array_get_dec); subst_eqs) | ((with_reducible apply wx_eLc); subst_eqs) | ((with_reducible apply wx_eIfS); subst_eqs) | ((with_reducible apply wx_eIf); subst_eqs) | ((with_reducible apply ifQ_f); (· infer_instance); subst_eqs) | ((with_reducible apply ifQ_t); (· infer_instance); subst_eqs) | ((with_reducible apply wx_eAnd); subst_eqs) | ((with_reducible apply andQ_t); (· infer_instance); subst_eqs) | ((with_reducible apply andQ_f); (· infer_instance); subst_eqs) | ((with_reducible apply wx_eOr); subst_eqs) | ((with_reducible apply orQ_f); (· infer_instance); subst_eqs) | ((with_reducible apply orQ_t); (· infer_instance); subst_eqs) | ((with_reducible apply wx_eNot); subst_eqs) | ((with_reducible apply notQ_ok); subst_eqs) | skip)
local macro_rules | `(tactic| array_mem_dec) => `(tactic| first | with_reducible apply cTru_ok' | with_reducible exact gTru_bool | with_reducible exact gTru_list | with_reducible exact gTru_tuple | with_reducible exact isi_tt | with_reducible exact isi_tw | with_reducible exact isi_ti | with_reducible exact isi_tl | with_reducible exact isi_tb | with_reducible exact isi_ts | with_reducible exact isi_tn | with_reducible exact isi_ii | with_reducible exact isi_ib | with_reducible exact isi_it | with_reducible exact isi_iw | with_reducible exact isi_il | with_reducible exact isi_is | with_reducible exact isi_in | with_reducible exact isi_bi | with_reducible exact isi_bb | with_reducible exact isi_bt | with_reducible exact isi_bw | with_reducible exact isi_bl | with_reducible exact isi_bs | with_reducible exact isi_bn | with_reducible exact gIn_ints _ _ | with_reducible exact gNotIn_ints _ _ | with_reducible exact gIn_wD _ _ | with_reducible exact gNotIn_wD _ _ | with_reducible exact gIn_f _ _ _ | with_reducible exact gNotIn_f _ _ _ | with_reducible exact gIn_fT _ _ _ | with_reducible exact gNotIn_fT _ _ _ | with_reducible exact gEq_intsL _ _ | with_reducible exact gNe_intsL _ _ | with_reducible exact gEq_nilF _ _ | with_reducible exact gNe_nilF _ _ | with_reducible exact gEq_nilW _ | with_reducible exact gNe_nilW _ | with_reducible exact gNe_nilFW _ _ | with_reducible exact gEq_fL _ _ _ _ | with_reducible exact gNe_fL _ _ _ _ | with_reducible exact gEq_fT _ _ _ _ | with_reducible exact gNe_fT _ _ _ _ | with_reducible exact gList1_wD | with_reducible exact gList1_list | with_reducible exact gList1_tuple | with_reducible apply cScal_w | with_reducible apply cScalL_w | with_reducible exact noRef_wD _ | with_reducible exact noRef_tupF _ _ | with_reducible exact noRefs_f _ _ | with_reducible exact noRefs_b _ _ | with_reducible exact noRefs_ints _ | with_reducible exact noRef_int | with_reducible exact noRef_bool)
local macro_rules | `(tactic| array_mem_dec) => `(tactic| first | with_reducible exact gIx_c0 | with_reducible exact gIx_t0 | with_reducible exact gIx_t1 | with_reducible exact gIx_t2 | with_reducible exact gEq_t2 _ _ _ _ | with_reducible exact gNe_t2 _ _ _ _ | with_reducible exact gEq_t3 _ _ _ _ _ _ | with_reducible exact gNe_t3 _ _ _ _ _ _ | with_reducible exact gEq_n _ _ | with_reducible exact gNe_n _ _ | with_reducible exact gEq_n0 _ | with_reducible exact gNe_n0 _ | ((with_reducible apply gAdd_n); decreasing_trivial_pre_omega) | ((with_reducible apply gAdd_n0); decreasing_trivial_pre_omega) | ((with_reducible apply gAdd_n1); decreasing_trivial_pre_omega) | ((with_reducible apply gAdd_1n); decreasing_trivial_pre_omega) | ((with_reducible apply gMul_n); (· decreasing_trivial_pre_omega); (· decreasing_trivial_pre_omega)) | with_reducible exact gLen_n _ | ((with_reducible apply gIx_n); decreasing_trivial_pre_omega) | with_reducible exact gSl_n1 | with_reducible exact gSl_n2 | with_reducible exact gSl_n3 | with_reducible exact items_n | with_reducible exact gTuple1_n | with_reducible exact gTuple1_f | with_reducible exact gList1_n | with_reducible exact gSum_n | with_reducible exact gSum_fL | with_reducible exact gRev_n | with_reducible exact noRef_n _ | with_reducible exact isi_tnw | with_reducible exact isi_inw | with_reducible exact isi_bnw | with_reducible exact gTru_n | with_reducible exact gIn_nW _ _ | with_reducible exact gNotIn_nW _ _ | with_reducible exact gIn_nWT _ _ | with_reducible exact gNotIn_nWT _ _ | with_reducible exact gEq_nilN _ | with_reducible exact gNe_nilN _ | with_reducible exact gEq_nilFN _ _ | with_reducible exact gNe_nilFN _ _ | with_reducible exact gEq_nWs _ _ | with_reducible exact gNe_nWs _ _ | with_reducible exact gEq_nWsT _ _ | with_reducible exact gNe_nWsT _ _ | with_reducible exact gInt1_ok | with_reducible exact gAbs_nat | with_reducible exact gMax2_nat _ _ | with_reducible exact gGcd_nat _ _)
local macro_rules | `(tactic| array_mem_dec) => `(tactic| first | with_reducible exact cItX_lit1 | with_reducible exact cItX_lit2 | with_reducible exact cItX_lit3 | with_reducible exact cItX_lit4 | ((with_reducible apply cTup_star1); (· array_get_dec); (· array_get_dec); (· decreasing_trivial_pre_omega)) | ((with_reducible apply gAdd_w1); decreasing_trivial_pre_omega) | ((with_reducible apply gAdd_1w); decreasing_trivial_pre_omega) | with_reducible exact gEq_w0 _ | with_reducible exact gNe_w0 _ | ((with_reducible apply gAdd_listM); decreasing_trivial_pre_omega) | ((with_reducible apply gAdd_tupM); decreasing_trivial_pre_omega) | with_reducible exact gEq_ws _ _ | with_reducible exact gNe_ws _ _ | with_reducible exact gEq_wsT0 _ | with_reducible exact gNe_wsT0 _ | with_reducible exact gEq_wsT _ _ | with_reducible exact gNe_wsT _ _ | with_reducible exact gIn_wD2 _ _ | with_reducible exact gNotIn_wD2 _ _ | with_reducible exact gIn_wD2T _ _ | with_reducible exact gNotIn_wD2T _ _ | with_reducible exact gRev_w | ((with_reducible apply cLc2Z_w); (· array_get_dec); (· sizeOf_list_dec); (· intro _ _; ((with_reducible apply lcZ_mk) <;> array_get_dec)); (· decreasing_trivial_pre_omega)) | ((with_reducible apply lcInY_w); (· array_get_dec); (· sizeOf_list_dec); intro _ _; with_reducible apply lcY_mk) | ((with_reducible apply lcIn_w); (· array_get_dec); (· sizeOf_list_dec); intro _ _; with_reducible apply lcB_mk))
local macro_rules | `(tactic| array_mem_dec) => `(tactic| first | with_reducible exact gSl_but | with_reducible exact gMax2X_nat _ _ | with_reducible exact gMin2X_nat _ _ | with_reducible exact gMax2X_w _ _ | with_reducible exact gMin2X_w _ _ | with_reducible exact gLt_w _ _ | with_reducible exact gLe_w _ _ | with_reducible exact gInX_s kf_w | with_reducible exact gNotInX_s kf_w | with_reducible exact gInX_s kf_i | with_reducible exact gNotInX_s kf_i | with_reducible exact gInX_s kf_n | with_reducible exact gNotInX_s kf_n | with_reducible exact gInX_k kf_w | with_reducible exact gNotInX_k kf_w | with_reducible exact gInX_k kf_i | with_reducible exact gNotInX_k kf_i | with_reducible exact gInX_k kf_n | with_reducible exact gNotInX_k kf_n | ((with_reducible apply gIxX_k kf_w); with_reducible assumption) | ((with_reducible apply gIxX_k kf_i); with_reducible assumption) | ((with_reducible apply gIxX_k kf_n); with_reducible assumption) | with_reducible exact gDictX_s kf_w | with_reducible exact gDictX_s kf_i | with_reducible exact gDictX_s kf_n | with_reducible exact gDictX_k kf_w | with_reducible exact gDictX_k kf_i | with_reducible exact gDictX_k kf_n | with_reducible exact gLen_dS | with_reducible exact gLen_dK | with_reducible exact gSortV_ds | with_reducible exact gSortV_dsI | with_reducible exact gSortV_w | with_reducible exact gSortV_wT | with_reducible exact gSortV_f | with_reducible exact gSortV_i | with_reducible exact gSortV_iT | with_reducible exact sortL_ds | with_reducible exact sortL_dsI | with_reducible exact sortL_w | with_reducible apply cSortL_ok | with_reducible apply cListL_ok | with_reducible exact gList1V_ds | with_reducible exact gList1V_wD | with_reducible exact gList1V_l | with_reducible exact gList1V_t | with_reducible exact noRefs_w _ | with_reducible exact noRef_tw _ | ((with_reducible apply gReprD_ok); with_reducible assumption) | ((with_reducible apply gReprD_ok); (with_reducible apply Or.inl); with_reducible assumption) | with_reducible exact cNewD_ok | ((with_reducible apply cDc_s kf_w); (· array_get_dec); (· sizeOf_list_dec); (· decreasing_trivial_pre_omega); intro _ _; with_reducible apply lcK_mk) | ((with_reducible apply cDc_s kf_i); (· array_get_dec); (· sizeOf_list_dec); (· decreasing_trivial_pre_omega); intro _ _; with_reducible apply lcK_mk) | ((with_reducible apply cDc_s kf_n); (· array_get_dec); (· sizeOf_list_dec); (· decreasing_trivial_pre_omega); intro _ _; with_reducible apply lcK_mk) | with_reducible apply cGetD_ok | with_reducible exact gGet2_k kf_w | with_reducible exact gGet2_k kf_i | with_reducible exact gGet2_k kf_n | ((with_reducible apply putX_s kf_w); decreasing_trivial_pre_omega) | ((with_reducible apply putX_s kf_i); decreasing_trivial_pre_omega) | ((with_reducible apply putX_s kf_n); decreasing_trivial_pre_omega) | ((with_reducible apply putX_k kf_w); decreasing_trivial_pre_omega) | ((with_reducible apply putX_k kf_i); decreasing_trivial_pre_omega) | ((with_reducible apply putX_k kf_n); decreasing_trivial_pre_omega))
local macro_rules | `(tactic| subst_eqs) => `(tactic| first | ((with_reducible apply wx_sSetD); (· array_get_dec); (· sizeOf_list_dec); subst_eqs) | ((with_reducible apply wx_sPutD); (· array_get_dec); (· array_get_dec); (· sizeOf_list_dec); (· array_get_dec); (· sizeOf_list_dec); subst_eqs) | ((with_reducible apply wx_sRetM); (· sizeOf_list_dec); (· sizeOf_list_dec); subst_eqs) | ((with_reducible apply wx_eDict); (· array_get_dec); subst_eqs))
local macro_rules | `(tactic| array_mem_dec) => `(tactic| first | ((with_reducible apply cEnum_w); (· array_get_dec)) | ((with_reducible apply cEnum_l); (· array_get_dec)) | ((with_reducible apply cEnum_ws); (· array_get_dec)) | ((with_reducible apply cEnum_wsT); (· array_get_dec)))
local macro_rules | `(tactic| subst_eqs) => `(tactic| first | ((with_reducible apply wx_eSlT); subst_eqs) | ((with_reducible apply slT1_ok); subst_eqs) | ((with_reducible apply slT2_ok); (· array_get_dec); subst_eqs) | ((with_reducible apply wx_eSlF); subst_eqs) | ((with_reducible apply slF1_ok); subst_eqs) | ((with_reducible apply slF2_ok); (· array_get_dec); subst_eqs))
/-! ### points on a round -/
structure Pq (q p : Nat) : Prop where
  p1 : 1 ≤ p
  lt : p < q
  le : q ≤ 60
  cop : Nat.gcd p q = 1
abbrev pos (q p : Nat) (k : Nat) : Nat := k * p % q
theorem law_of_list {cs : List Int} {l x t : Int} {ds : List D} {Q : D → D → Prop} (h1 : 1 ≤ ds.length) (h2 : ds.length ≤ 100) (q : ∀ (d : D) (cs' : List Int) (l' x' t' : Int), d ∈ ds → Q d (srcD cs' l' x' t')) : WF F__law_of [srcD cs l x t, .list ds] Q := by
  refine runM_w ?_
  show Wx g__law_of [some (srcD cs l x t), some (.list ds)] _
  unfold g__law_of
  subst_eqs
  rename_i r cs' l' x' t' hr
  exact ⟨_, _, rfl, rfl, q _ _ _ _ _ (List.getElem_mem _)⟩
theorem cop_of {q p : Nat} (h1 : 1 ≤ p) (h : ((List.range (p + 1 - 2)).filter fun x => decide (q % (2 + x) = 0) && decide (p % (2 + x) = 0)).isEmpty = true) : Nat.gcd p q = 1 := by
  rw [List.isEmpty_iff, List.filter_eq_nil_iff] at h
  have hg := Nat.gcd_pos_of_pos_left q (show 0 < p by omega)
  have d1 := Nat.gcd_dvd_left p q
  have d2 := Nat.gcd_dvd_right p q
  have hle := Nat.le_of_dvd (by omega) d1
  by_cases c : Nat.gcd p q = 1
  · exact c
  · refine absurd ?_ (h (Nat.gcd p q - 2) (List.mem_range.mpr (by omega)))
    rw [show 2 + (Nat.gcd p q - 2) = Nat.gcd p q by omega, Nat.mod_eq_zero_of_dvd d1, Nat.mod_eq_zero_of_dvd d2]
    rfl
theorem law_slope {cs : List Int} {l x t : Int} {most : Nat} {Q : D → D → Prop} (h2 : 3 ≤ most) (h3 : most ≤ 60) (qq : ∀ (q p : Nat) (cs' : List Int) (l' x' t' : Int), Pq q p → Q (.tuple [.int (q : Int), .int (p : Int)]) (srcD cs' l' x' t')) : WF F__law_slope [srcD cs l x t, .int (most : Int)] Q := by
  refine runM_w ?_
  show Wx g__law_slope [some (srcD cs l x t), some (.int (most : Int)), none, none, none, none] _
  unfold g__law_slope
  subst_eqs
  rename_i r cs1 l1 x1 t1 hr
  refine law_of_list ?_ ?_ fun d cs2 l2 x2 t2 hd => ?_
  · rw [List.length_map]
    refine List.length_pos_iff.mpr fun e => ?_
    have : 0 ∈ (List.range (2 + r - 1)).filter fun x => ((List.range (1 + x + 1 - 2)).filter fun x_1 => decide ((2 + r) % (2 + x_1) = 0) && decide ((1 + x) % (2 + x_1) = 0)).isEmpty := List.mem_filter.mpr ⟨List.mem_range.mpr (by omega), rfl⟩
    rw [e] at this
    cases this
  · rw [List.length_map]
    have := List.length_filter_le (fun x => ((List.range (1 + x + 1 - 2)).filter fun x_1 => decide ((2 + r) % (2 + x_1) = 0) && decide ((1 + x) % (2 + x_1) = 0)).isEmpty) (List.range (2 + r - 1))
    rw [List.length_range] at this
    omega
  · obtain ⟨y, hy, rfl⟩ := List.mem_map.mp hd
    have hc := (List.mem_filter.mp hy).2
    have hy := List.mem_range.mp (List.mem_filter.mp hy).1
    subst_eqs
    exact ⟨_, _, rfl, rfl, qq (2 + r) (1 + y) _ _ _ _ ⟨by omega, by omega, by omega, cop_of (by omega) hc⟩⟩
/-! ### index, least and greatest -/
theorem eqv_nat (a b : Nat) : PyData.eqv (.int (a : Int)) (.int (b : Int)) = decide (a = b) := by
  show decide ((a : Int) = (b : Int)) = _
  exact decide_eq_decide.mpr ⟨fun h => by omega, fun h => by omega⟩
theorem posD_from {f : Nat → Nat} : ∀ (n z s : Nat), s < n → (∀ m, m < s → f (z + m) ≠ f (z + s)) → posD (.int (f (z + s) : Nat)) ((List.range' z n).map fun k => PyData.int ((f k : Nat) : Int)) = some s
  | 0, _, _, h, _ => absurd h (Nat.not_lt_zero _)
  | n + 1, z, s, h, hn => by
    rw [List.range'_succ, List.map_cons, posD, eqv_nat]
    cases s with
    | zero => rw [if_pos (by simp)]
    | succ s =>
      rw [if_neg (by have := hn 0 (by omega); simpa using this)]
      have ih := posD_from (f := f) n (z + 1) s (by omega) fun m hm => by
        have := hn (m + 1) (by omega)
        rw [show z + 1 + m = z + (m + 1) by omega, show z + 1 + s = z + (s + 1) by omega]; exact this
      rw [show z + 1 + s = z + (s + 1) by omega] at ih
      rw [ih]; rfl
theorem posD_at {f : Nat → Nat} {n s : Nat} (h : s < n) (hn : ∀ m, m < s → f m ≠ f s) : posD (.int (f s : Nat)) ((List.range n).map fun k => PyData.int ((f k : Nat) : Int)) = some s := by
  have := posD_from (f := f) n 0 s h fun m hm => by rw [Nat.zero_add, Nat.zero_add]; exact hn m hm
  rw [Nat.zero_add] at this
  rw [List.range_eq_range']
  exact this
theorem drop1 {f : Nat → D} {n : Nat} : ((List.range n).map f).drop 1 = (List.range (n - 1)).map fun k => f (1 + k) := by
  cases n with
  | zero => rfl
  | succ n =>
    rw [List.range_succ_eq_map, List.map_cons, List.map_map]
    simp only [List.drop_succ_cons, List.drop_zero, Nat.add_sub_cancel]
    exact List.map_congr_left fun k _ => by simp [Function.comp, Nat.add_comm]
end Lw

set_option maxRecDepth 100000
set_option maxHeartbeats 4000000
namespace Lw
open PySem PySem.Spec PyProof.Rows L2 Dz T43
local macro_rules | `(tactic| sizeOf_list_dec) => `(tactic| first | with_reducible exact setZ | ((with_reducible apply setS); sizeOf_list_dec) | with_reducible exact getZ | ((with_reducible apply getS); sizeOf_list_dec) | with_reducible exact wipe0 | ((with_reducible apply wipeS); (· sizeOf_list_dec); (· sizeOf_list_dec)) | with_reducible exact rest0 | ((with_reducible apply restS); (· sizeOf_list_dec); (· sizeOf_list_dec); (· sizeOf_list_dec)) | with_reducible exact storeN | ((with_reducible apply storeC); (· sizeOf_list_dec); (· sizeOf_list_dec)))
local macro_rules | `(tactic| decreasing_trivial_pre_omega) => `(tactic| first | with_reducible assumption | omega | (simp only [List.length_append, List.length_map, List.length_range, List.length_take, List.length_drop, List.length_reverse, List.length_replicate, List.length_cons, List.length_nil, List.length_singleton, sizeLine_eq] at *; omega) | ((with_reducible apply_assumption (transparency := .reducible) (symm := false) (exfalso := false) only [*]) <;> first | with_reducible assumption | omega) | exact rfl)
local macro_rules | `(tactic| infer_instance) => `(tactic| first | with_reducible assumption | with_reducible rfl | ((with_reducible apply bf_or); (· infer_instance); (· infer_instance)) | ((with_reducible apply bt_and); (· infer_instance); (· infer_instance)) | ((with_reducible apply bf_not); infer_instance) | ((with_reducible apply bt_not); infer_instance) | ((with_reducible apply bf_dec); first | with_reducible assumption | omega | (intro hh; omega) | (simp only [List.length_append, List.length_map, List.length_range, List.length_take, List.length_drop, List.length_reverse, List.length_replicate, List.length_cons, List.length_nil, List.length_singleton]; omega)) | ((with_reducible apply bt_dec); first | with_reducible assumption | with_reducible rfl | ((with_reducible apply shown_eq); first | with_reducible assumption | with_reducible rfl) | decreasing_trivial_pre_omega) | ((with_reducible apply bf_ne); first | with_reducible assumption | with_reducible rfl) | ((with_reducible apply bf_and1); infer_instance) | ((with_reducible apply bf_and2); infer_instance) | ((with_reducible apply bt_or1); infer_instance) | ((with_reducible apply bt_or2); infer_instance))
local macro_rules | `(tactic| array_mem_dec) => `(tactic| first | ((with_reducible refine of_r ?_); with_reducible assumption) | ((with_reducible apply cV_ok); sizeOf_list_dec) | with_reducible exact cC_nat | with_reducible exact cC_ok | with_reducible exact aNil_ok | with_reducible apply aCons_ok | with_reducible apply cTst_ok' | with_reducible exact toB_ok | with_reducible apply cBin_ok | ((with_reducible apply cFnW); (· array_get_dec); (· exact rfl)) | with_reducible apply cCall_ok | ((with_reducible apply cIf_T); (· array_get_dec); (· infer_instance)) | ((with_reducible apply cIf_F); (· array_get_dec); (· infer_instance)) | with_reducible apply cIf_nat | with_reducible apply cAnd_w | with_reducible apply cOr_w | with_reducible apply cNot_ok | with_reducible apply cAndV_w | with_reducible apply cOrV_w | with_reducible apply cNotV_w | with_reducible apply cBl_ok | with_reducible apply cUn_ok | with_reducible apply cSl_w | with_reducible apply cPart_ok | with_reducible exact cNoPart_ok | ((with_reducible apply cTup_ok); (· array_get_dec); (· decreasing_trivial_pre_omega)) | ((with_reducible apply cLst_ok); (· array_get_dec); (· decreasing_trivial_pre_omega)) | with_reducible apply cList_ok | with_reducible apply cItX_ok | ((with_reducible apply cRng1_w); (· array_get_dec); (· decreasing_trivial_pre_omega)) | ((with_reducible apply cRng2_w); (· array_get_dec); (· array_get_dec); (· decreasing_trivial_pre_omega); (· decreasing_trivial_pre_omega)) | ((with_reducible apply cRng2_wi); (· array_get_dec); (· array_get_dec); (· decreasing_trivial_pre_omega); (· decreasing_trivial_pre_omega)) | ((with_reducible apply cLR1_w); (· array_get_dec); (· decreasing_trivial_pre_omega)) | ((with_reducible apply cLR2_w); (· array_get_dec); (· array_get_dec); (· decreasing_trivial_pre_omega); (· decreasing_trivial_pre_omega)) | ((with_reducible apply cLcYR_w); (· array_get_dec); (· sizeOf_list_dec); (· decreasing_trivial_pre_omega); intro _ _; with_reducible apply lcY_mk) | ((with_reducible apply cLcY_w); (· array_get_dec); (· sizeOf_list_dec); (· decreasing_trivial_pre_omega); intro _ _; with_reducible apply lcY_mk) | ((with_reducible apply cLcR_w); (· array_get_dec); (· sizeOf_list_dec); (· decreasing_trivial_pre_omega); intro _ _; with_reducible apply lcB_mk) | ((with_reducible apply cLc_w); (· array_get_dec); (· sizeOf_list_dec); (· decreasing_trivial_pre_omega); intro _ _; with_reducible apply lcB_mk) | with_reducible apply cChain_w | ((with_reducible refine imp_r ?_); intro hb; try simp only [decide_eq_true_eq, decide_eq_false_iff_not, Bool.and_eq_true, Bool.or_eq_false_iff, Bool.not_eq_true', Bool.not_eq_false'] at hb) | ((with_reducible apply setE_ok); sizeOf_list_dec) | ((with_reducible apply setTup_ok); (· exact rfl)) | with_reducible apply setCons_ok | with_reducible exact setNil_ok | with_reducible exact gAdd_nat _ _ | ((with_reducible apply gSub_nat); decreasing_trivial_pre_omega) | with_reducible exact gEq_nat _ _ | with_reducible exact gNe_nat _ _ | with_reducible exact gLt_nat _ _ | with_reducible exact gGt_nat _ _ | with_reducible exact gLe_nat _ _ | with_reducible exact gGe_nat _ _ | ((with_reducible apply gMod_nat); decreasing_trivial_pre_omega) | ((with_reducible apply gDiv_nat); (· decreasing_trivial_pre_omega); (· decreasing_trivial_pre_omega)) | ((with_reducible apply gMulN); decreasing_trivial_pre_omega) | ((with_reducible apply gMulN'); decreasing_trivial_pre_omega) | ((with_reducible refine of_r ?_); ((with_reducible apply_assumption (transparency := .reducible) (symm := false) (exfalso := false) only [*]) <;> decreasing_trivial_pre_omega)) | with_reducible exact gNeg_nat | with_reducible exact gAdd_il | with_reducible exact gSub_il | ((with_reducible apply gDiv_il); (· decreasing_trivial_pre_omega); (· decreasing_trivial_pre_omega)) | with_reducible exact gLt_il | with_reducible exact gLe_il | with_reducible exact gGt_il | with_reducible exact gGe_il | with_reducible exact gEq_il | with_reducible exact gNe_il | with_reducible exact gAdd_int _ _ | with_reducible exact gSub_int _ _ | with_reducible exact gEq_int _ _ | with_reducible exact gNe_int _ _ | with_reducible exact gLt_i _ _ | with_reducible exact gLe_i _ _ | with_reducible exact gGt_i _ _ | with_reducible exact gGe_i _ _ | ((with_reducible apply gMul_i1); decreasing_trivial_pre_omega) | ((with_reducible apply gMul_i2); decreasing_trivial_pre_omega) | ((with_reducible apply gMod_i); decreasing_trivial_pre_omega) | ((with_reducible apply gDiv_i); (· decreasing_trivial_pre_omega); (· decreasing_trivial_pre_omega)) | with_reducible exact gEq_wD _ _ | with_reducible exact gNe_wD _ _ | with_reducible exact gNe_bool _ _ | with_reducible exact gEq_bool _ _ | with_reducible exact gNe_str _ _ | with_reducible exact gIsB_ok | with_reducible exact gNotB_ok | ((with_reducible apply gAdd_wD); decreasing_trivial_pre_omega) | ((with_reducible apply gAdd_list); decreasing_trivial_pre_omega) | ((with_reducible apply gAdd_tup); decreasing_trivial_pre_omega) | ((with_reducible apply gMul_wD); (· decreasing_trivial_pre_omega); (· decreasing_trivial_pre_omega)) | with_reducible exact len_wD' _ | with_reducible exact gLen_map | with_reducible exact gLen_mapT | with_reducible exact gLen_list | with_reducible exact gLen_tup | with_reducible exact gTuple1_ints | with_reducible exact gTuple1_list | with_reducible exact gTuple1_tup | with_reducible exact itemsOf_wD | with_reducible exact itemsOf_list | with_reducible exact itemsOf_tuple | ((with_reducible apply gIx_wD); decreasing_trivial_pre_omega) | ((with_reducible apply gIx_map); decreasing_trivial_pre_omega) | ((with_reducible apply gIx_mapT); decreasing_trivial_pre_omega) | ((with_reducible apply gIx_list0); decreasing_trivial_pre_omega) | ((with_reducible apply gIx_tup0); decreasing_trivial_pre_omega) | with_reducible exact gSl_from | with_reducible exact gSl_to | with_reducible exact gSl_mid | with_reducible exact gSl_fromL | with_reducible exact gSl_toL | with_reducible exact gSl_fromT | with_reducible exact gSl_toT | with_reducible exact gAll_map _ _ | with_reducible exact gAny_map _ _ | with_reducible exact gMin2_nat _ _ | ((with_reducible apply gRepr_ok); with_reducible assumption))
local macro_rules | `(tactic| array_get_dec) => `(tactic| (array_mem_dec <;> array_get_dec))
local macro_rules | `(tactic| array_get_dec) => `(tactic| done)
local macro_rules | `(tactic| subst_eqs) => `(tactic| first | ((with_reducible apply wx_sSeq); subst_eqs) | ((with_reducible apply seqQ_nx); subst_eqs) | ((with_reducible apply seqQ_rt); subst_eqs) | ((with_reducible apply wx_sSet); (· array_get_dec); (· sizeOf_list_dec); subst_eqs) | ((with_reducible apply wx_sSetL); (· array_get_dec); (· sizeOf_list_dec); subst_eqs) | ((with_reducible apply wx_sTgt); (· array_get_dec); (· array_get_dec); subst_eqs) | ((with_reducible apply wx_sPar); (· array_get_dec); (· array_get_dec); (· sizeOf_list_dec); (· sizeOf_list_dec); subst_eqs) | ((with_reducible apply wx_sIf3); (· array_get_dec); first | ((with_reducible refine Or.inl (And.intro ?_ ?_)); (· infer_instance); subst_eqs) | ((with_reducible refine Or.inr (And.intro ?_ ?_)); (· infer_instance); subst_eqs)) | ((with_reducible apply wx_sNil); subst_eqs) | ((with_reducible apply wx_sPass); subst_eqs) | ((with_reducible apply wx_sCont); subst_eqs) | ((with_reducible apply wx_sBreak); subst_eqs) | ((with_reducible apply wx_sRet); (· array_get_dec); subst_eqs) | ((with_reducible apply wx_sFor); (· array_get_dec); subst_eqs) | ((with_reducible apply wx_sApp); (· array_get_dec); (· sizeOf_list_dec); (· decreasing_trivial_pre_omega); (· sizeOf_list_dec); subst_eqs) | ((with_reducible apply wx_eSet); subst_eqs) | ((with_reducible apply setQ_ok); (· sizeOf_list_dec); subst_eqs) | ((with_reducible apply wx_eP); (· array_get_dec); subst_eqs) | ((with_reducible apply wx_eT); (· array_get_dec); subst_eqs) | ((with_reducible apply wx_eO); (· array_get_dec); subst_eqs) | ((with_reducible apply wx_eI); (· array_get_dec); subst_eqs) | ((with_reducible apply wx_eFnM); (· sizeOf_list_dec); subst_eqs) | ((with_reducible apply wx_eaNil); subst_eqs) | ((with_reducible apply wx_eaCons); subst_eqs) | ((with_reducible apply con1Q_ok); subst_eqs) | ((with_reducible apply con2Q_ok); subst_eqs) | ((with_reducible apply fnmQ_ok); (· sizeOf_list_dec); (· exact rfl); subst_eqs) | ((with_reducible apply fnQ_ok); (· sizeOf_list_dec); subst_eqs) | ((with_reducible apply wf_pick pickB_ok); (· decreasing_trivial_pre_omega); intro _ _ _ _ _ _; subst_eqs) | ((with_reducible apply wf_pick pickA_ok); (· decreasing_trivial_pre_omega); intro _ _ _ _ _ _; subst_eqs) | ((with_reducible apply wx_eSetL); subst_eqs) | ((with_reducible apply setLQ_ok); (· sizeOf_list_dec); subst_eqs) | ((with_reducible apply wx_eTgt); subst_eqs) | ((with_reducible apply tgtQ_ok); (· array_get_dec); subst_eqs) | ((with_reducible apply wx_eRet); subst_eqs) | ((with_reducible apply retQ_ok); subst_eqs) | ((with_reducible apply wx_eExpr); subst_eqs) | ((with_reducible apply exprQ_ok); subst_eqs) | ((with_reducible apply wx_eBin); subst_eqs) | ((with_reducible apply bin1Q_ok); subst_eqs) | ((with_reducible apply bin2Q_ok); (· array_get_dec); subst_eqs) | ((with_reducible apply wx_eUn); subst_eqs) | ((with_reducible apply unQ_ok); (· array_get_dec); subst_eqs) | ((with_reducible apply wx_eCall); subst_eqs) | ((with_reducible apply callQ_ok); (· array_get_dec); subst_eqs) | ((with_reducible apply wx_eFn); subst_eqs) | ((with_reducible apply fneQ_ok); (· exact rfl); (· array_get_dec); subst_eqs) | ((with_reducible apply wx_eList); subst_eqs) | ((with_reducible apply elistQ_ok); subst_eqs) | ((with_reducible apply wx_eTup); subst_eqs) | ((with_reducible apply etupQ_ok); (· decreasing_trivial_pre_omega); subst_eqs) | ((with_reducible apply wx_eLst); subst_eqs) | ((with_reducible apply elstQ_ok); (· decreasing_trivial_pre_omega); subst_eqs) | ((with_reducible apply wx_eTst); subst_eqs) | ((with_reducible apply tstQ_ok); subst_eqs) | ((with_reducible apply wx_ePar); subst_eqs) | ((with_reducible apply parQ_ok); (· sizeOf_list_dec); (· sizeOf_list_dec); subst_eqs) | ((with_reducible apply wx_eStore); subst_eqs) | ((with_reducible apply storQ_ok); (· sizeOf_list_dec); subst_eqs) | ((with_reducible apply wx_eFor); subst_eqs) | ((with_reducible apply forQ_ok); subst_eqs) | ((with_reducible apply wx_eApp); subst_eqs) | ((with_reducible apply appQ_ok); (· sizeOf_list_dec); (· decreasing_trivial_pre_omega); (· sizeOf_list_dec); subst_eqs) | ((with_reducible apply wx_eRng); subst_eqs) | ((with_reducible apply rngQ_ok); (· array_get_dec); subst_eqs) | ((with_reducible apply wx_eItX); subst_eqs) | ((with_reducible apply itxQ_ok); (· array_get_dec); subst_eqs) | ((with_reducible apply wx_eLc); subst_eqs) | ((with_reducible apply wx_eIfS); subst_eqs) | ((with_reducible apply wx_eIf); subst_eqs) | ((with_reducible apply ifQ_f); (· infer_instance); subst_eqs) | ((with_reducible apply ifQ_t); (· infer_instance); subst_eqs) | ((with_reducible apply wx_eAnd); subst_eqs) | ((with_reducible apply andQ_t); (· infer_instance); subst_eqs) | ((with_reducible apply andQ_f); (· infer_instance); subst_eqs) | ((with_reducible apply wx_eOr); subst_eqs) | ((with_reducible apply orQ_f); (· infer_instance); subst_eqs) | ((with_reducible apply orQ_t); (· infer_instance); subst_eqs) | ((with_reducible apply wx_eNot); subst_eqs) | ((with_reducible apply notQ_ok); subst_eqs) | skip)
local macro_rules | `(tactic| array_mem_dec) => `(tactic| first | with_reducible apply cTru_ok' | with_reducible exact gTru_bool | with_reducible exact gTru_list | with_reducible exact gTru_tuple | with_reducible exact isi_tt | with_reducible exact isi_tw | with_reducible exact isi_ti | with_reducible exact isi_tl | with_reducible exact isi_tb | with_reducible exact isi_ts | with_reducible exact isi_tn | with_reducible exact isi_ii | with_reducible exact isi_ib | with_reducible exact isi_it | with_reducible exact isi_iw | with_reducible exact isi_il | with_reducible exact isi_is | with_reducible exact isi_in | with_reducible exact isi_bi | with_reducible exact isi_bb | with_reducible exact isi_bt | with_reducible exact isi_bw | with_reducible exact isi_bl | with_reducible exact isi_bs | with_reducible exact isi_bn | with_reducible exact gIn_ints _ _ | with_reducible exact gNotIn_ints _ _ | with_reducible exact gIn_wD _ _ | with_reducible exact gNotIn_wD _ _ | with_reducible exact gIn_f _ _ _ | with_reducible exact gNotIn_f _ _ _ | with_reducible exact gIn_fT _ _ _ | with_reducible exact gNotIn_fT _ _ _ | with_reducible exact gEq_intsL _ _ | with_reducible exact gNe_intsL _ _ | with_reducible exact gEq_nilF _ _ | with_reducible exact gNe_nilF _ _ | with_reducible exact gEq_nilW _ | with_reducible exact gNe_nilW _ | with_reducible exact gNe_nilFW _ _ | with_reducible exact gEq_fL _ _ _ _ | with_reducible exact gNe_fL _ _ _ _ | with_reducible exact gEq_fT _ _ _ _ | with_reducible exact gNe_fT _ _ _ _ | with_reducible exact gList1_wD | with_reducible exact gList1_list | with_reducible exact gList1_tuple | with_reducible apply cScal_w | with_reducible apply cScalL_w | with_reducible exact noRef_wD _ | with_reducible exact noRef_tupF _ _ | with_reducible exact noRefs_f _ _ | with_reducible exact noRefs_b _ _ | with_reducible exact noRefs_ints _ | with_reducible exact noRef_int | with_reducible exact noRef_bool)
local macro_rules | `(tactic| array_mem_dec) => `(tactic| first | with_reducible exact gIx_c0 | with_reducible exact gIx_t0 | with_reducible exact gIx_t1 | with_reducible exact gIx_t2 | with_reducible exact gEq_t2 _ _ _ _ | with_reducible exact gNe_t2 _ _ _ _ | with_reducible exact gEq_t3 _ _ _ _ _ _ | with_reducible exact gNe_t3 _ _ _ _ _ _ | with_reducible exact gEq_n _ _ | with_reducible exact gNe_n _ _ | with_reducible exact gEq_n0 _ | with_reducible exact gNe_n0 _ | ((with_reducible apply gAdd_n); decreasing_trivial_pre_omega) | ((with_reducible apply gAdd_n0); decreasing_trivial_pre_omega) | ((with_reducible apply gAdd_n1); decreasing_trivial_pre_omega) | ((with_reducible apply gAdd_1n); decreasing_trivial_pre_omega) | ((with_reducible apply gMul_n); (· decreasing_trivial_pre_omega); (· decreasing_trivial_pre_omega)) | with_reducible exact gLen_n _ | ((with_reducible apply gIx_n); decreasing_trivial_pre_omega) | with_reducible exact gSl_n1 | with_reducible exact gSl_n2 | with_reducible exact gSl_n3 | with_reducible exact items_n | with_reducible exact gTuple1_n | with_reducible exact gTuple1_f | with_reducible exact gList1_n | with_reducible exact gSum_n | with_reducible exact gSum_fL | with_reducible exact gRev_n | with_reducible exact noRef_n _ | with_reducible exact isi_tnw | with_reducible exact isi_inw | with_reducible exact isi_bnw | with_reducible exact gTru_n | with_reducible exact gIn_nW _ _ | with_reducible exact gNotIn_nW _ _ | with_reducible exact gIn_nWT _ _ | with_reducible exact gNotIn_nWT _ _ | with_reducible exact gEq_nilN _ | with_reducible exact gNe_nilN _ | with_reducible exact gEq_nilFN _ _ | with_reducible exact gNe_nilFN _ _ | with_reducible exact gEq_nWs _ _ | with_reducible exact gNe_nWs _ _ | with_reducible exact gEq_nWsT _ _ | with_reducible exact gNe_nWsT _ _ | with_reducible exact gInt1_ok | with_reducible exact gAbs_nat | with_reducible exact gMax2_nat _ _ | with_reducible exact gGcd_nat _ _)
local macro_rules | `(tactic| array_mem_dec) => `(tactic| first | with_reducible exact cItX_lit1 | with_reducible exact cItX_lit2 | with_reducible exact cItX_lit3 | with_reducible exact cItX_lit4 | ((with_reducible apply cTup_star1); (· array_get_dec); (· array_get_dec); (· decreasing_trivial_pre_omega)) | ((with_reducible apply gAdd_w1); decreasing_trivial_pre_omega) | ((with_reducible apply gAdd_1w); decreasing_trivial_pre_omega) | with_reducible exact gEq_w0 _ | with_reducible exact gNe_w0 _ | ((with_reducible apply gAdd_listM); decreasing_trivial_pre_omega) | ((with_reducible apply gAdd_tupM); decreasing_trivial_pre_omega) | with_reducible exact gEq_ws _ _ | with_reducible exact gNe_ws _ _ | with_reducible exact gEq_wsT0 _ | with_reducible exact gNe_wsT0 _ | with_reducible exact gEq_wsT _ _ | with_reducible exact gNe_wsT _ _ | with_reducible exact gIn_wD2 _ _ | with_reducible exact gNotIn_wD2 _ _ | with_reducible exact gIn_wD2T _ _ | with_reducible exact gNotIn_wD2T _ _ | with_reducible exact gRev_w | ((with_reducible apply cLc2Z_w); (· array_get_dec); (· sizeOf_list_dec); (· intro _ _; ((with_reducible apply lcZ_mk) <;> array_get_dec)); (· decreasing_trivial_pre_omega)) | ((with_reducible apply lcInY_w); (· array_get_dec); (· sizeOf_list_dec); intro _ _; with_reducible apply lcY_mk) | ((with_reducible apply lcIn_w); (· array_get_dec); (· sizeOf_list_dec); intro _ _; with_reducible apply lcB_mk))
local macro_rules | `(tactic| array_mem_dec) => `(tactic| first | with_reducible exact gSl_but | with_reducible exact gMax2X_nat _ _ | with_reducible exact gMin2X_nat _ _ | with_reducible exact gMax2X_w _ _ | with_reducible exact gMin2X_w _ _ | with_reducible exact gLt_w _ _ | with_reducible exact gLe_w _ _ | with_reducible exact gInX_s kf_w | with_reducible exact gNotInX_s kf_w | with_reducible exact gInX_s kf_i | with_reducible exact gNotInX_s kf_i | with_reducible exact gInX_s kf_n | with_reducible exact gNotInX_s kf_n | with_reducible exact gInX_k kf_w | with_reducible exact gNotInX_k kf_w | with_reducible exact gInX_k kf_i | with_reducible exact gNotInX_k kf_i | with_reducible exact gInX_k kf_n | with_reducible exact gNotInX_k kf_n | ((with_reducible apply gIxX_k kf_w); with_reducible assumption) | ((with_reducible apply gIxX_k kf_i); with_reducible assumption) | ((with_reducible apply gIxX_k kf_n); with_reducible assumption) | with_reducible exact gDictX_s kf_w | with_reducible exact gDictX_s kf_i | with_reducible exact gDictX_s kf_n | with_reducible exact gDictX_k kf_w | with_reducible exact gDictX_k kf_i | with_reducible exact gDictX_k kf_n | with_reducible exact gLen_dS | with_reducible exact gLen_dK | with_reducible exact gSortV_ds | with_reducible exact gSortV_dsI | with_reducible exact gSortV_w | with_reducible exact gSortV_wT | with_reducible exact gSortV_f | with_reducible exact gSortV_i | with_reducible exact gSortV_iT | with_reducible exact sortL_ds | with_reducible exact sortL_dsI | with_reducible exact sortL_w | with_reducible apply cSortL_ok | with_reducible apply cListL_ok | with_reducible exact gList1V_ds | with_reducible exact gList1V_wD | with_reducible exact gList1V_l | with_reducible exact gList1V_t | with_reducible exact noRefs_w _ | with_reducible exact noRef_tw _ | ((with_reducible apply gReprD_ok); with_reducible assumption) | ((with_reducible apply gReprD_ok); (with_reducible apply Or.inl); with_reducible assumption) | with_reducible exact cNewD_ok | ((with_reducible apply cDc_s kf_w); (· array_get_dec); (· sizeOf_list_dec); (· decreasing_trivial_pre_omega); intro _ _; with_reducible apply lcK_mk) | ((with_reducible apply cDc_s kf_i); (· array_get_dec); (· sizeOf_list_dec); (· decreasing_trivial_pre_omega); intro _ _; with_reducible apply lcK_mk) | ((with_reducible apply cDc_s kf_n); (· array_get_dec); (· sizeOf_list_dec); (· decreasing_trivial_pre_omega); intro _ _; with_reducible apply lcK_mk) | with_reducible apply cGetD_ok | with_reducible exact gGet2_k kf_w | with_reducible exact gGet2_k kf_i | with_reducible exact gGet2_k kf_n | ((with_reducible apply putX_s kf_w); decreasing_trivial_pre_omega) | ((with_reducible apply putX_s kf_i); decreasing_trivial_pre_omega) | ((with_reducible apply putX_s kf_n); decreasing_trivial_pre_omega) | ((with_reducible apply putX_k kf_w); decreasing_trivial_pre_omega) | ((with_reducible apply putX_k kf_i); decreasing_trivial_pre_omega) | ((with_reducible apply putX_k kf_n); decreasing_trivial_pre_omega))
local macro_rules | `(tactic| subst_eqs) => `(tactic| first | ((with_reducible apply wx_sSetD); (· array_get_dec); (· sizeOf_list_dec); subst_eqs) | ((with_reducible apply wx_sPutD); (· array_get_dec); (· array_get_dec); (· sizeOf_list_dec); (· array_get_dec); (· sizeOf_list_dec); subst_eqs) | ((with_reducible apply wx_sRetM); (· sizeOf_list_dec); (· sizeOf_list_dec); subst_eqs) | ((with_reducible apply wx_eDict); (· array_get_dec); subst_eqs))
local macro_rules | `(tactic| array_mem_dec) => `(tactic| first | ((with_reducible apply cEnum_w); (· array_get_dec)) | ((with_reducible apply cEnum_l); (· array_get_dec)) | ((with_reducible apply cEnum_ws); (· array_get_dec)) | ((with_reducible apply cEnum_wsT); (· array_get_dec)))
local macro_rules | `(tactic| subst_eqs) => `(tactic| first | ((with_reducible apply wx_eSlT); subst_eqs) | ((with_reducible apply slT1_ok); subst_eqs) | ((with_reducible apply slT2_ok); (· array_get_dec); subst_eqs) | ((with_reducible apply wx_eSlF); subst_eqs) | ((with_reducible apply slF1_ok); subst_eqs) | ((with_reducible apply slF2_ok); (· array_get_dec); subst_eqs))
local macro_rules | `(tactic| array_mem_dec) => `(tactic| first | with_reducible apply cIndex_ok | with_reducible apply cCount_ok)
abbrev pl (q p N : Nat) : List D := (List.range N).map fun k => PyData.int ((pos q p k : Nat) : Int)
abbrev S4 (q N p s t : Nat) : Prop := St q N (pos q p) s t
theorem shaped_pl {f : Nat → Nat} {n : Nat} : SeqAt.shaped (.list ((List.range n).map fun k => PyData.int ((f k : Nat) : Int))) = true := by
  have := shaped_ints ((List.range n).map fun k => ((f k : Nat) : Int))
  rw [List.map_map] at this
  exact this
theorem gIndex_at {f : Nat → Nat} {n s : Nat} (h : s < n) (hn : ∀ m, m < s → f m ≠ f s) : gIndex (.list ((List.range n).map fun k => PyData.int ((f k : Nat) : Int))) [.int ((f s : Nat) : Int)] = .ok (.int (s : Int)) := by
  have e : gIndex (.list ((List.range n).map fun k => PyData.int ((f k : Nat) : Int))) [.int ((f s : Nat) : Int)] = match posD (.int ((f s : Nat) : Int)) ((List.range n).map fun k => PyData.int ((f k : Nat) : Int)) with
    | some j => R.when (SeqAt.shaped (.int ((f s : Nat) : Int)) && SeqAt.shaped (.list ((List.range n).map fun k => PyData.int ((f k : Nat) : Int)))) (.ok (.int (j : Nat)))
    | none => .no := rfl
  rw [e, posD_at h hn]
  show R.when _ _ = _
  rw [shaped_pl]; rfl
theorem near_ok {q p N s t : Nat} (h : Pq q p) (S : S4 q N p s t) : F_nearest_steps [.int (p : Int), .int (q : Int), .int (N : Int)] = .ok (.tuple [.int (s : Int), .int ((pos q p s : Nat) : Int), .int (t : Int), .int ((q - pos q p t : Nat) : Int)]) := by
  obtain ⟨h1, h2, h3, h4⟩ := h
  have hn := S.nq
  have hn2 := S.n2
  have hs := S.sN
  have ht := S.tN
  have hs1 := S.s1
  have ht1 := S.t1
  have hlt := S.lt t
  have m1 : gMin [.list ((pl q p N).drop 1)] = .ok (.int ((pos q p s : Nat) : Int)) := by
    rw [drop1]
    exact gMin_at (List.mem_map.mpr ⟨s - 1, List.mem_range.mpr (by omega), by rw [show 1 + (s - 1) = s by omega]⟩) fun x hx => S.mn (1 + x) (by omega) (by have := List.mem_range.mp hx; omega)
  have m2 : gMaxX [.list ((pl q p N).drop 1)] = .ok (.int ((pos q p t : Nat) : Int)) := by
    rw [drop1]
    exact gMaxX_at (List.mem_map.mpr ⟨t - 1, List.mem_range.mpr (by omega), by rw [show 1 + (t - 1) = t by omega]⟩) fun x hx => S.mx (1 + x) (by have := List.mem_range.mp hx; omega)
  have i1 : gIndex (.list (pl q p N)) [.int ((pos q p s : Nat) : Int)] = .ok (.int (s : Int)) := gIndex_at hs fun m hm e => by
    have := S.toRt.inj (by omega) hs e; omega
  have i2 : gIndex (.list (pl q p N)) [.int ((pos q p t : Nat) : Int)] = .ok (.int (t : Int)) := gIndex_at ht fun m hm e => by
    have := S.toRt.inj (by omega) ht e; omega
  have g3 : gSub (.int (q : Int)) (.int ((pos q p t : Nat) : Int)) = .ok (.int ((q - pos q p t : Nat) : Int)) := gSub_nat (by omega)
  refine run_w ?_
  show Wx g_nearest_steps [some (.int (p : Int)), some (.int (q : Int)), some (.int (N : Int)), none, none, none, none] _
  unfold g_nearest_steps
  subst_eqs
  rfl
abbrev sP (q p N : Nat) : List Int := srtI ((List.range N).map fun k => ((pos q p k : Nat) : Int))
theorem sort_pl {q p N : Nat} : gSortedV [.list (pl q p N)] = .ok (.list ((sP q p N).map PyData.int)) := by
  have := gSortV_i (ns := (List.range N).map fun k => ((pos q p k : Nat) : Int))
  rw [List.map_map] at this
  exact this
theorem points_ok {q p N : Nat} (h : Pq q p) (hn : N ≤ q) : F_round_points [.int (p : Int), .int (q : Int), .int (N : Int)] = .ok (wD (sP q p N)) := by
  obtain ⟨h1, h2, h3, h4⟩ := h
  have hT := @sort_pl q p N
  have ht : gTuple1 [.list ((sP q p N).map PyData.int)] = .ok (wD (sP q p N)) := rfl
  refine run_w ?_
  show Wx g_round_points [some (.int (p : Int)), some (.int (q : Int)), some (.int (N : Int)), none] _
  unfold g_round_points
  subst_eqs
  rfl
def fr (q p N s t k : Nat) : Nat := far q N (pos q p) s t k
theorem dist_ok {q p N s t : Nat} (h : Pq q p) (S : S4 q N p s t) : F_round_distances [.int (p : Int), .int (q : Int), .int (N : Int)] = .ok (nW ((List.range N).map (fr q p N s t))) := by
  have f1 := near_ok h S
  have hn := S.nq
  have hn2 := S.n2
  have hs := S.sN
  have ht := S.tN
  have l1 := S.lt s
  have l2 := S.lt t
  have f3 : ∀ k, k < N → _ := fun k hk => S.far3 hk
  obtain ⟨h1, h2, h3, h4⟩ := h
  refine run_w ?_
  show Wx g_round_distances [some (.int (p : Int)), some (.int (q : Int)), some (.int (N : Int)), none, none, none, none, none, none] _
  unfold g_round_distances
  generalize hu : pos q p s = u at *
  generalize hw : pos q p t = w at *
  subst_eqs
  refine wx_forRange (fun k : Nat => PyData.int (k : Int)) (fun k e => ∃ o8, e = [some (.int (p : Int)), some (.int (q : Int)), some (.int (N : Int)), some (.int (s : Int)), some (.int (u : Int)), some (.int (t : Int)), some (.int ((q - w : Nat) : Int)), some (.list ((List.range k).map fun k => PyData.int ((fr q p N s t k : Nat) : Int))), o8]) ⟨_, rfl⟩ ?_ ?_
  · rintro k hk e ⟨o8, rfl⟩
    apply exW
    · array_get_dec
    unfold b1_round_distances
    have hf := f3 k hk
    have hr : (List.range (k + 1)).map (fun k => PyData.int ((fr q p N s t k : Nat) : Int)) = (List.range k).map (fun k => PyData.int ((fr q p N s t k : Nat) : Int)) ++ [.int ((fr q p N s t k : Nat) : Int)] := by rw [List.range_succ, List.map_append]; rfl
    have he : fr q p N s t k = far q N (pos q p) s t k := rfl
    rw [← he] at hf
    rw [hr]
    have hz := sizeLine_eq
    generalize fr q p N s t = G at *
    rcases hf with ⟨c1, c2, e⟩ | ⟨c1, c2, e⟩ | ⟨c1, c2, e⟩
    · rw [e]
      subst_eqs
      exact ⟨rfl, _, rfl⟩
    · rw [e]
      subst_eqs
      exact ⟨rfl, _, rfl⟩
    · rw [e]
      subst_eqs
      exact ⟨rfl, _, rfl⟩
  · rintro e ⟨o8, rfl⟩
    subst_eqs
    rfl
end Lw

set_option maxRecDepth 100000
set_option maxHeartbeats 4000000
namespace Lw
open PySem PySem.Spec PyProof.Rows L2 Dz T43
local macro_rules | `(tactic| sizeOf_list_dec) => `(tactic| first | with_reducible exact setZ | ((with_reducible apply setS); sizeOf_list_dec) | with_reducible exact getZ | ((with_reducible apply getS); sizeOf_list_dec) | with_reducible exact wipe0 | ((with_reducible apply wipeS); (· sizeOf_list_dec); (· sizeOf_list_dec)) | with_reducible exact rest0 | ((with_reducible apply restS); (· sizeOf_list_dec); (· sizeOf_list_dec); (· sizeOf_list_dec)) | with_reducible exact storeN | ((with_reducible apply storeC); (· sizeOf_list_dec); (· sizeOf_list_dec)))
local macro_rules | `(tactic| decreasing_trivial_pre_omega) => `(tactic| first | with_reducible assumption | omega | (simp only [List.length_append, List.length_map, List.length_range, List.length_take, List.length_drop, List.length_reverse, List.length_replicate, List.length_cons, List.length_nil, List.length_singleton, sizeLine_eq] at *; omega) | ((with_reducible apply_assumption (transparency := .reducible) (symm := false) (exfalso := false) only [*]) <;> first | with_reducible assumption | omega) | exact rfl)
local macro_rules | `(tactic| infer_instance) => `(tactic| first | with_reducible assumption | with_reducible rfl | ((with_reducible apply bf_or); (· infer_instance); (· infer_instance)) | ((with_reducible apply bt_and); (· infer_instance); (· infer_instance)) | ((with_reducible apply bf_not); infer_instance) | ((with_reducible apply bt_not); infer_instance) | ((with_reducible apply bf_dec); first | with_reducible assumption | omega | (intro hh; omega) | (simp only [List.length_append, List.length_map, List.length_range, List.length_take, List.length_drop, List.length_reverse, List.length_replicate, List.length_cons, List.length_nil, List.length_singleton]; omega)) | ((with_reducible apply bt_dec); first | with_reducible assumption | with_reducible rfl | ((with_reducible apply shown_eq); first | with_reducible assumption | with_reducible rfl) | decreasing_trivial_pre_omega) | ((with_reducible apply bf_ne); first | with_reducible assumption | with_reducible rfl) | ((with_reducible apply bf_and1); infer_instance) | ((with_reducible apply bf_and2); infer_instance) | ((with_reducible apply bt_or1); infer_instance) | ((with_reducible apply bt_or2); infer_instance))
local macro_rules | `(tactic| array_mem_dec) => `(tactic| first | ((with_reducible refine of_r ?_); with_reducible assumption) | ((with_reducible apply cV_ok); sizeOf_list_dec) | with_reducible exact cC_nat | with_reducible exact cC_ok | with_reducible exact aNil_ok | with_reducible apply aCons_ok | with_reducible apply cTst_ok' | with_reducible exact toB_ok | with_reducible apply cBin_ok | ((with_reducible apply cFnW); (· array_get_dec); (· exact rfl)) | with_reducible apply cCall_ok | ((with_reducible apply cIf_T); (· array_get_dec); (· infer_instance)) | ((with_reducible apply cIf_F); (· array_get_dec); (· infer_instance)) | with_reducible apply cIf_nat | with_reducible apply cAnd_w | with_reducible apply cOr_w | with_reducible apply cNot_ok | with_reducible apply cAndV_w | with_reducible apply cOrV_w | with_reducible apply cNotV_w | with_reducible apply cBl_ok | with_reducible apply cUn_ok | with_reducible apply cSl_w | with_reducible apply cPart_ok | with_reducible exact cNoPart_ok | ((with_reducible apply cTup_ok); (· array_get_dec); (· decreasing_trivial_pre_omega)) | ((with_reducible apply cLst_ok); (· array_get_dec); (· decreasing_trivial_pre_omega)) | with_reducible apply cList_ok | with_reducible apply cItX_ok | ((with_reducible apply cRng1_w); (· array_get_dec); (· decreasing_trivial_pre_omega)) | ((with_reducible apply cRng2_w); (· array_get_dec); (· array_get_dec); (· decreasing_trivial_pre_omega); (· decreasing_trivial_pre_omega)) | ((with_reducible apply cRng2_wi); (· array_get_dec); (· array_get_dec); (· decreasing_trivial_pre_omega); (· decreasing_trivial_pre_omega)) | ((with_reducible apply cLR1_w); (· array_get_dec); (· decreasing_trivial_pre_omega)) | ((with_reducible apply cLR2_w); (· array_get_dec); (· array_get_dec); (· decreasing_trivial_pre_omega); (· decreasing_trivial_pre_omega)) | ((with_reducible apply cLcYR_w); (· array_get_dec); (· sizeOf_list_dec); (· decreasing_trivial_pre_omega); intro _ _; with_reducible apply lcY_mk) | ((with_reducible apply cLcY_w); (· array_get_dec); (· sizeOf_list_dec); (· decreasing_trivial_pre_omega); intro _ _; with_reducible apply lcY_mk) | ((with_reducible apply cLcR_w); (· array_get_dec); (· sizeOf_list_dec); (· decreasing_trivial_pre_omega); intro _ _; with_reducible apply lcB_mk) | ((with_reducible apply cLc_w); (· array_get_dec); (· sizeOf_list_dec); (· decreasing_trivial_pre_omega); intro _ _; with_reducible apply lcB_mk) | with_reducible apply cChain_w | ((with_reducible refine imp_r ?_); intro hb; try simp only [decide_eq_true_eq, decide_eq_false_iff_not, Bool.and_eq_true, Bool.or_eq_false_iff, Bool.not_eq_true', Bool.not_eq_false'] at hb) | ((with_reducible apply setE_ok); sizeOf_list_dec) | ((with_reducible apply setTup_ok); (· exact rfl)) | with_reducible apply setCons_ok | with_reducible exact setNil_ok | with_reducible exact gAdd_nat _ _ | ((with_reducible apply gSub_nat); decreasing_trivial_pre_omega) | with_reducible exact gEq_nat _ _ | with_reducible exact gNe_nat _ _ | with_reducible exact gLt_nat _ _ | with_reducible exact gGt_nat _ _ | with_reducible exact gLe_nat _ _ | with_reducible exact gGe_nat _ _ | ((with_reducible apply gMod_nat); decreasing_trivial_pre_omega) | ((with_reducible apply gDiv_nat); (· decreasing_trivial_pre_omega); (· decreasing_trivial_pre_omega)) | ((with_reducible apply gMulN); decreasing_trivial_pre_omega) | ((with_reducible apply gMulN'); decreasing_trivial_pre_omega) | ((with_reducible refine of_r ?_); ((with_reducible apply_assumption (transparency := .reducible) (symm := false) (exfalso := false) only [*]) <;> decreasing_trivial_pre_omega)) | with_reducible exact gNeg_nat | with_reducible exact gAdd_il | with_reducible exact gSub_il | ((with_reducible apply gDiv_il); (· decreasing_trivial_pre_omega); (· decreasing_trivial_pre_omega)) | with_reducible exact gLt_il | with_reducible exact gLe_il | with_reducible exact gGt_il | with_reducible exact gGe_il | with_reducible exact gEq_il | with_reducible exact gNe_il | with_reducible exact gAdd_int _ _ | with_reducible exact gSub_int _ _ | with_reducible exact gEq_int _ _ | with_reducible exact gNe_int _ _ | with_reducible exact gLt_i _ _ | with_reducible exact gLe_i _ _ | with_reducible exact gGt_i _ _ | with_reducible exact gGe_i _ _ | ((with_reducible apply gMul_i1); decreasing_trivial_pre_omega) | ((with_reducible apply gMul_i2); decreasing_trivial_pre_omega) | ((with_reducible apply gMod_i); decreasing_trivial_pre_omega) | ((with_reducible apply gDiv_i); (· decreasing_trivial_pre_omega); (· decreasing_trivial_pre_omega)) | with_reducible exact gEq_wD _ _ | with_reducible exact gNe_wD _ _ | with_reducible exact gNe_bool _ _ | with_reducible exact gEq_bool _ _ | with_reducible exact gNe_str _ _ | with_reducible exact gIsB_ok | with_reducible exact gNotB_ok | ((with_reducible apply gAdd_wD); decreasing_trivial_pre_omega) | ((with_reducible apply gAdd_list); decreasing_trivial_pre_omega) | ((with_reducible apply gAdd_tup); decreasing_trivial_pre_omega) | ((with_reducible apply gMul_wD); (· decreasing_trivial_pre_omega); (· decreasing_trivial_pre_omega)) | with_reducible exact len_wD' _ | with_reducible exact gLen_map | with_reducible exact gLen_mapT | with_reducible exact gLen_list | with_reducible exact gLen_tup | with_reducible exact gTuple1_ints | with_reducible exact gTuple1_list | with_reducible exact gTuple1_tup | with_reducible exact itemsOf_wD | with_reducible exact itemsOf_list | with_reducible exact itemsOf_tuple | ((with_reducible apply gIx_wD); decreasing_trivial_pre_omega) | ((with_reducible apply gIx_map); decreasing_trivial_pre_omega) | ((with_reducible apply gIx_mapT); decreasing_trivial_pre_omega) | ((with_reducible apply gIx_list0); decreasing_trivial_pre_omega) | ((with_reducible apply gIx_tup0); decreasing_trivial_pre_omega) | with_reducible exact gSl_from | with_reducible exact gSl_to | with_reducible exact gSl_mid | with_reducible exact gSl_fromL | with_reducible exact gSl_toL | with_reducible exact gSl_fromT | with_reducible exact gSl_toT | with_reducible exact gAll_map _ _ | with_reducible exact gAny_map _ _ | with_reducible exact gMin2_nat _ _ | ((with_reducible apply gRepr_ok); with_reducible assumption))
local macro_rules | `(tactic| array_get_dec) => `(tactic| (array_mem_dec <;> array_get_dec))
local macro_rules | `(tactic| array_get_dec) => `(tactic| done)
local macro_rules | `(tactic| subst_eqs) => `(tactic| first | ((with_reducible apply wx_sSeq); subst_eqs) | ((with_reducible apply seqQ_nx); subst_eqs) | ((with_reducible apply seqQ_rt); subst_eqs) | ((with_reducible apply wx_sSet); (· array_get_dec); (· sizeOf_list_dec); subst_eqs) | ((with_reducible apply wx_sSetL); (· array_get_dec); (· sizeOf_list_dec); subst_eqs) | ((with_reducible apply wx_sTgt); (· array_get_dec); (· array_get_dec); subst_eqs) | ((with_reducible apply wx_sPar); (· array_get_dec); (· array_get_dec); (· sizeOf_list_dec); (· sizeOf_list_dec); subst_eqs) | ((with_reducible apply wx_sIf3); (· array_get_dec); first | ((with_reducible refine Or.inl (And.intro ?_ ?_)); (· infer_instance); subst_eqs) | ((with_reducible refine Or.inr (And.intro ?_ ?_)); (· infer_instance); subst_eqs)) | ((with_reducible apply wx_sNil); subst_eqs) | ((with_reducible apply wx_sPass); subst_eqs) | ((with_reducible apply wx_sCont); subst_eqs) | ((with_reducible apply wx_sBreak); subst_eqs) | ((with_reducible apply wx_sRet); (· array_get_dec); subst_eqs) | ((with_reducible apply wx_sFor); (· array_get_dec); subst_eqs) | ((with_reducible apply wx_sApp); (· array_get_dec); (· sizeOf_list_dec); (· decreasing_trivial_pre_omega); (· sizeOf_list_dec); subst_eqs) | ((with_reducible apply wx_eSet); subst_eqs) | ((with_reducible apply setQ_ok); (· sizeOf_list_dec); subst_eqs) | ((with_reducible apply wx_eP); (· array_get_dec); subst_eqs) | ((with_reducible apply wx_eT); (· array_get_dec); subst_eqs) | ((with_reducible apply wx_eO); (· array_get_dec); subst_eqs) | ((with_reducible apply wx_eI); (· array_get_dec); subst_eqs) | ((with_reducible apply wx_eFnM); (· sizeOf_list_dec); subst_eqs) | ((with_reducible apply wx_eaNil); subst_eqs) | ((with_reducible apply wx_eaCons); subst_eqs) | ((with_reducible apply con1Q_ok); subst_eqs) | ((with_reducible apply con2Q_ok); subst_eqs) | ((with_reducible apply fnmQ_ok); (· sizeOf_list_dec); (· exact rfl); subst_eqs) | ((with_reducible apply fnQ_ok); (· sizeOf_list_dec); subst_eqs) | ((with_reducible apply wf_pick pickB_ok); (· decreasing_trivial_pre_omega); intro _ _ _ _ _ _; subst_eqs) | ((with_reducible apply wf_pick pickA_ok); (· decreasing_trivial_pre_omega); intro _ _ _ _ _ _; subst_eqs) | ((with_reducible apply wx_eSetL); subst_eqs) | ((with_reducible apply setLQ_ok); (· sizeOf_list_dec); subst_eqs) | ((with_reducible apply wx_eTgt); subst_eqs) | ((with_reducible apply tgtQ_ok); (· array_get_dec); subst_eqs) | ((with_reducible apply wx_eRet); subst_eqs) | ((with_reducible apply retQ_ok); subst_eqs) | ((with_reducible apply wx_eExpr); subst_eqs) | ((with_reducible apply exprQ_ok); subst_eqs) | ((with_reducible apply wx_eBin); subst_eqs) | ((with_reducible apply bin1Q_ok); subst_eqs) | ((with_reducible apply bin2Q_ok); (· array_get_dec); subst_eqs) | ((with_reducible apply wx_eUn); subst_eqs) | ((with_reducible apply unQ_ok); (· array_get_dec); subst_eqs) | ((with_reducible apply wx_eCall); subst_eqs) | ((with_reducible apply callQ_ok); (· array_get_dec); subst_eqs) | ((with_reducible apply wx_eFn); subst_eqs) | ((with_reducible apply fneQ_ok); (· exact rfl); (· array_get_dec); subst_eqs) | ((with_reducible apply wx_eList); subst_eqs) | ((with_reducible apply elistQ_ok); subst_eqs) | ((with_reducible apply wx_eTup); subst_eqs) | ((with_reducible apply etupQ_ok); (· decreasing_trivial_pre_omega); subst_eqs) | ((with_reducible apply wx_eLst); subst_eqs) | ((with_reducible apply elstQ_ok); (· decreasing_trivial_pre_omega); subst_eqs) | ((with_reducible apply wx_eTst); subst_eqs) | ((with_reducible apply tstQ_ok); subst_eqs) | ((with_reducible apply wx_ePar); subst_eqs) | ((with_reducible apply parQ_ok); (· sizeOf_list_dec); (· sizeOf_list_dec); subst_eqs) | ((with_reducible apply wx_eStore); subst_eqs) | ((with_reducible apply storQ_ok); (· sizeOf_list_dec); subst_eqs) | ((with_reducible apply wx_eFor); subst_eqs) | ((with_reducible apply forQ_ok); subst_eqs) | ((with_reducible apply wx_eApp); subst_eqs) | ((with_reducible apply appQ_ok); (· sizeOf_list_dec); (· decreasing_trivial_pre_omega); (· sizeOf_list_dec); subst_eqs) | ((with_reducible apply wx_eRng); subst_eqs) | ((with_reducible apply rngQ_ok); (· array_get_dec); subst_eqs) | ((with_reducible apply wx_eItX); subst_eqs) | ((with_reducible apply itxQ_ok); (· array_get_dec); subst_eqs) | ((with_reducible apply wx_eLc); subst_eqs) | ((with_reducible apply wx_eIfS); subst_eqs) | ((with_reducible apply wx_eIf); subst_eqs) | ((with_reducible apply ifQ_f); (· infer_instance); subst_eqs) | ((with_reducible apply ifQ_t); (· infer_instance); subst_eqs) | ((with_reducible apply wx_eAnd); subst_eqs) | ((with_reducible apply andQ_t); (· infer_instance); subst_eqs) | ((with_reducible apply andQ_f); (· infer_instance); subst_eqs) | ((with_reducible apply wx_eOr); subst_eqs) | ((with_reducible apply orQ_f); (· infer_instance); subst_eqs) | ((with_reducible apply orQ_t); (· infer_instance); subst_eqs) | ((with_reducible apply wx_eNot); subst_eqs) | ((with_reducible apply notQ_ok); subst_eqs) | skip)
local macro_rules | `(tactic| array_mem_dec) => `(tactic| first | with_reducible apply cTru_ok' | with_reducible exact gTru_bool | with_reducible exact gTru_list | with_reducible exact gTru_tuple | with_reducible exact isi_tt | with_reducible exact isi_tw | with_reducible exact isi_ti | with_reducible exact isi_tl | with_reducible exact isi_tb | with_reducible exact isi_ts | with_reducible exact isi_tn | with_reducible exact isi_ii | with_reducible exact isi_ib | with_reducible exact isi_it | with_reducible exact isi_iw | with_reducible exact isi_il | with_reducible exact isi_is | with_reducible exact isi_in | with_reducible exact isi_bi | with_reducible exact isi_bb | with_reducible exact isi_bt | with_reducible exact isi_bw | with_reducible exact isi_bl | with_reducible exact isi_bs | with_reducible exact isi_bn | with_reducible exact gIn_ints _ _ | with_reducible exact gNotIn_ints _ _ | with_reducible exact gIn_wD _ _ | with_reducible exact gNotIn_wD _ _ | with_reducible exact gIn_f _ _ _ | with_reducible exact gNotIn_f _ _ _ | with_reducible exact gIn_fT _ _ _ | with_reducible exact gNotIn_fT _ _ _ | with_reducible exact gEq_intsL _ _ | with_reducible exact gNe_intsL _ _ | with_reducible exact gEq_nilF _ _ | with_reducible exact gNe_nilF _ _ | with_reducible exact gEq_nilW _ | with_reducible exact gNe_nilW _ | with_reducible exact gNe_nilFW _ _ | with_reducible exact gEq_fL _ _ _ _ | with_reducible exact gNe_fL _ _ _ _ | with_reducible exact gEq_fT _ _ _ _ | with_reducible exact gNe_fT _ _ _ _ | with_reducible exact gList1_wD | with_reducible exact gList1_list | with_reducible exact gList1_tuple | with_reducible apply cScal_w | with_reducible apply cScalL_w | with_reducible exact noRef_wD _ | with_reducible exact noRef_tupF _ _ | with_reducible exact noRefs_f _ _ | with_reducible exact noRefs_b _ _ | with_reducible exact noRefs_ints _ | with_reducible exact noRef_int | with_reducible exact noRef_bool)
local macro_rules | `(tactic| array_mem_dec) => `(tactic| first | with_reducible exact gIx_c0 | with_reducible exact gIx_t0 | with_reducible exact gIx_t1 | with_reducible exact gIx_t2 | with_reducible exact gEq_t2 _ _ _ _ | with_reducible exact gNe_t2 _ _ _ _ | with_reducible exact gEq_t3 _ _ _ _ _ _ | with_reducible exact gNe_t3 _ _ _ _ _ _ | with_reducible exact gEq_n _ _ | with_reducible exact gNe_n _ _ | with_reducible exact gEq_n0 _ | with_reducible exact gNe_n0 _ | ((with_reducible apply gAdd_n); decreasing_trivial_pre_omega) | ((with_reducible apply gAdd_n0); decreasing_trivial_pre_omega) | ((with_reducible apply gAdd_n1); decreasing_trivial_pre_omega) | ((with_reducible apply gAdd_1n); decreasing_trivial_pre_omega) | ((with_reducible apply gMul_n); (· decreasing_trivial_pre_omega); (· decreasing_trivial_pre_omega)) | with_reducible exact gLen_n _ | ((with_reducible apply gIx_n); decreasing_trivial_pre_omega) | with_reducible exact gSl_n1 | with_reducible exact gSl_n2 | with_reducible exact gSl_n3 | with_reducible exact items_n | with_reducible exact gTuple1_n | with_reducible exact gTuple1_f | with_reducible exact gList1_n | with_reducible exact gSum_n | with_reducible exact gSum_fL | with_reducible exact gRev_n | with_reducible exact noRef_n _ | with_reducible exact isi_tnw | with_reducible exact isi_inw | with_reducible exact isi_bnw | with_reducible exact gTru_n | with_reducible exact gIn_nW _ _ | with_reducible exact gNotIn_nW _ _ | with_reducible exact gIn_nWT _ _ | with_reducible exact gNotIn_nWT _ _ | with_reducible exact gEq_nilN _ | with_reducible exact gNe_nilN _ | with_reducible exact gEq_nilFN _ _ | with_reducible exact gNe_nilFN _ _ | with_reducible exact gEq_nWs _ _ | with_reducible exact gNe_nWs _ _ | with_reducible exact gEq_nWsT _ _ | with_reducible exact gNe_nWsT _ _ | with_reducible exact gInt1_ok | with_reducible exact gAbs_nat | with_reducible exact gMax2_nat _ _ | with_reducible exact gGcd_nat _ _)
local macro_rules | `(tactic| array_mem_dec) => `(tactic| first | with_reducible exact cItX_lit1 | with_reducible exact cItX_lit2 | with_reducible exact cItX_lit3 | with_reducible exact cItX_lit4 | ((with_reducible apply cTup_star1); (· array_get_dec); (· array_get_dec); (· decreasing_trivial_pre_omega)) | ((with_reducible apply gAdd_w1); decreasing_trivial_pre_omega) | ((with_reducible apply gAdd_1w); decreasing_trivial_pre_omega) | with_reducible exact gEq_w0 _ | with_reducible exact gNe_w0 _ | ((with_reducible apply gAdd_listM); decreasing_trivial_pre_omega) | ((with_reducible apply gAdd_tupM); decreasing_trivial_pre_omega) | with_reducible exact gEq_ws _ _ | with_reducible exact gNe_ws _ _ | with_reducible exact gEq_wsT0 _ | with_reducible exact gNe_wsT0 _ | with_reducible exact gEq_wsT _ _ | with_reducible exact gNe_wsT _ _ | with_reducible exact gIn_wD2 _ _ | with_reducible exact gNotIn_wD2 _ _ | with_reducible exact gIn_wD2T _ _ | with_reducible exact gNotIn_wD2T _ _ | with_reducible exact gRev_w | ((with_reducible apply cLc2Z_w); (· array_get_dec); (· sizeOf_list_dec); (· intro _ _; ((with_reducible apply lcZ_mk) <;> array_get_dec)); (· decreasing_trivial_pre_omega)) | ((with_reducible apply lcInY_w); (· array_get_dec); (· sizeOf_list_dec); intro _ _; with_reducible apply lcY_mk) | ((with_reducible apply lcIn_w); (· array_get_dec); (· sizeOf_list_dec); intro _ _; with_reducible apply lcB_mk))
local macro_rules | `(tactic| array_mem_dec) => `(tactic| first | with_reducible exact gSl_but | with_reducible exact gMax2X_nat _ _ | with_reducible exact gMin2X_nat _ _ | with_reducible exact gMax2X_w _ _ | with_reducible exact gMin2X_w _ _ | with_reducible exact gLt_w _ _ | with_reducible exact gLe_w _ _ | with_reducible exact gInX_s kf_w | with_reducible exact gNotInX_s kf_w | with_reducible exact gInX_s kf_i | with_reducible exact gNotInX_s kf_i | with_reducible exact gInX_s kf_n | with_reducible exact gNotInX_s kf_n | with_reducible exact gInX_k kf_w | with_reducible exact gNotInX_k kf_w | with_reducible exact gInX_k kf_i | with_reducible exact gNotInX_k kf_i | with_reducible exact gInX_k kf_n | with_reducible exact gNotInX_k kf_n | ((with_reducible apply gIxX_k kf_w); with_reducible assumption) | ((with_reducible apply gIxX_k kf_i); with_reducible assumption) | ((with_reducible apply gIxX_k kf_n); with_reducible assumption) | with_reducible exact gDictX_s kf_w | with_reducible exact gDictX_s kf_i | with_reducible exact gDictX_s kf_n | with_reducible exact gDictX_k kf_w | with_reducible exact gDictX_k kf_i | with_reducible exact gDictX_k kf_n | with_reducible exact gLen_dS | with_reducible exact gLen_dK | with_reducible exact gSortV_ds | with_reducible exact gSortV_dsI | with_reducible exact gSortV_w | with_reducible exact gSortV_wT | with_reducible exact gSortV_f | with_reducible exact gSortV_i | with_reducible exact gSortV_iT | with_reducible exact sortL_ds | with_reducible exact sortL_dsI | with_reducible exact sortL_w | with_reducible apply cSortL_ok | with_reducible apply cListL_ok | with_reducible exact gList1V_ds | with_reducible exact gList1V_wD | with_reducible exact gList1V_l | with_reducible exact gList1V_t | with_reducible exact noRefs_w _ | with_reducible exact noRef_tw _ | ((with_reducible apply gReprD_ok); with_reducible assumption) | ((with_reducible apply gReprD_ok); (with_reducible apply Or.inl); with_reducible assumption) | with_reducible exact cNewD_ok | ((with_reducible apply cDc_s kf_w); (· array_get_dec); (· sizeOf_list_dec); (· decreasing_trivial_pre_omega); intro _ _; with_reducible apply lcK_mk) | ((with_reducible apply cDc_s kf_i); (· array_get_dec); (· sizeOf_list_dec); (· decreasing_trivial_pre_omega); intro _ _; with_reducible apply lcK_mk) | ((with_reducible apply cDc_s kf_n); (· array_get_dec); (· sizeOf_list_dec); (· decreasing_trivial_pre_omega); intro _ _; with_reducible apply lcK_mk) | with_reducible apply cGetD_ok | with_reducible exact gGet2_k kf_w | with_reducible exact gGet2_k kf_i | with_reducible exact gGet2_k kf_n | ((with_reducible apply putX_s kf_w); decreasing_trivial_pre_omega) | ((with_reducible apply putX_s kf_i); decreasing_trivial_pre_omega) | ((with_reducible apply putX_s kf_n); decreasing_trivial_pre_omega) | ((with_reducible apply putX_k kf_w); decreasing_trivial_pre_omega) | ((with_reducible apply putX_k kf_i); decreasing_trivial_pre_omega) | ((with_reducible apply putX_k kf_n); decreasing_trivial_pre_omega))
local macro_rules | `(tactic| subst_eqs) => `(tactic| first | ((with_reducible apply wx_sSetD); (· array_get_dec); (· sizeOf_list_dec); subst_eqs) | ((with_reducible apply wx_sPutD); (· array_get_dec); (· array_get_dec); (· sizeOf_list_dec); (· array_get_dec); (· sizeOf_list_dec); subst_eqs) | ((with_reducible apply wx_sRetM); (· sizeOf_list_dec); (· sizeOf_list_dec); subst_eqs) | ((with_reducible apply wx_eDict); (· array_get_dec); subst_eqs))
local macro_rules | `(tactic| array_mem_dec) => `(tactic| first | ((with_reducible apply cEnum_w); (· array_get_dec)) | ((with_reducible apply cEnum_l); (· array_get_dec)) | ((with_reducible apply cEnum_ws); (· array_get_dec)) | ((with_reducible apply cEnum_wsT); (· array_get_dec)))
local macro_rules | `(tactic| subst_eqs) => `(tactic| first | ((with_reducible apply wx_eSlT); subst_eqs) | ((with_reducible apply slT1_ok); subst_eqs) | ((with_reducible apply slT2_ok); (· array_get_dec); subst_eqs) | ((with_reducible apply wx_eSlF); subst_eqs) | ((with_reducible apply slF1_ok); subst_eqs) | ((with_reducible apply slF2_ok); (· array_get_dec); subst_eqs))
local macro_rules | `(tactic| array_mem_dec) => `(tactic| first | with_reducible apply cIndex_ok | with_reducible apply cCount_ok)
theorem notin {q p N x : Nat} : gInS true (.int (x : Int)) (.list (pl q p N)) = .ok (.bool (!decide (x ∈ (List.range N).map (pos q p)))) := by
  have e : pl q p N = ((List.range N).map (pos q p)).map fun n : Nat => PyData.int (n : Int) := by rw [List.map_map]; rfl
  have h := elemD_f (fun n : Nat => PyData.int (n : Int)) eqv_nat x ((List.range N).map (pos q p))
  rw [← e] at h
  show R.when _ _ = _
  rw [shaped_pl, h]; rfl
theorem hit_mem {q p N k f : Nat} (hq : 0 < q) (hf : f ≤ q) : (pos q p k + f) % q ∈ (List.range N).map (pos q p) ↔ Hit q N (pos q p) k f := by
  have l1 : pos q p k < q := Nat.mod_lt _ hq
  have hmod : (pos q p k + f) % q = pos q p k + f ∨ (pos q p k + f) % q + q = pos q p k + f := by
    by_cases c : pos q p k + f < q
    · left; exact Nat.mod_eq_of_lt c
    · right; rw [Nat.mod_eq_sub_mod (by omega), Nat.mod_eq_of_lt (by omega)]; omega
  have l2 : (pos q p k + f) % q < q := Nat.mod_lt _ hq
  constructor
  · intro h
    obtain ⟨j, hj, e⟩ := List.mem_map.mp h
    exact ⟨j, List.mem_range.mp hj, by omega⟩
  · rintro ⟨j, hj, e⟩
    have l3 : pos q p j < q := Nat.mod_lt _ hq
    exact List.mem_map.mpr ⟨j, List.mem_range.mpr hj, by omega⟩
theorem place_ok {q p N s t k : Nat} (h : Pq q p) (S : S4 q N p s t) (hk : k < N) (S0 o2 o10 o11 o12 o13 o9 : Option D) (ds : List D) (hds : ds.length ≤ 100) : Wx b2_law [none, S0, o2, some (.int (q : Int)), some (.int (p : Int)), some (.int (N : Int)), some (.list (pl q p N)), some (.list ds), some (.int ((pos q p k : Nat) : Int)), o9, o10, o11, o12, o13] (fun fl e => fl = .nx ∧ e = [none, S0, o2, some (.int (q : Int)), some (.int (p : Int)), some (.int (N : Int)), some (.list (pl q p N)), some (.list (ds ++ [.int ((fr q p N s t k : Nat) : Int)])), some (.int ((pos q p k : Nat) : Int)), some (.int ((fr q p N s t k : Nat) : Int)), o10, o11, o12, o13]) := by
  have hq : 0 < q := by have := h.lt; omega
  have hle := h.le
  have hp := S.far_pos hk
  have ht : gInS true (.int (((pos q p k + fr q p N s t k) % q : Nat) : Int)) (.list (pl q p N)) = .ok (.bool false) := by
    rw [notin, decide_eq_true (show (pos q p k + fr q p N s t k) % q ∈ (List.range N).map (pos q p) from (hit_mem hq hp.2).mpr (S.hit hk))]; rfl
  have hm : ∀ f, 0 < f → f < fr q p N s t k → gInS true (.int (((pos q p k + f) % q : Nat) : Int)) (.list (pl q p N)) = .ok (.bool true) := fun f h1 h2 => by
    rw [notin, decide_eq_false fun c => S.miss hk h1 h2 ((hit_mem hq (by have : f < far q N (pos q p) s t k := h2; omega)).mp c)]; rfl
  change 0 < fr q p N s t k ∧ fr q p N s t k ≤ q at hp
  have hsz := sizeLine_eq
  have hb : pos q p k < q := Nat.mod_lt _ hq
  generalize fr q p N s t k = G at *
  generalize pl q p N = P at *
  generalize pos q p k = a at *
  unfold b2_law
  subst_eqs
  refine wx_whileV (α := Nat) (fun f => [none, S0, o2, some (.int (q : Int)), some (.int (p : Int)), some (.int (N : Int)), some (.list P), some (.list ds), some (.int (a : Int)), some (.int (f : Int)), o10, o11, o12, o13]) (fun f => G - f) (fun f => 0 < f ∧ f ≤ G) (a := 1) rfl ⟨by omega, by omega⟩ (by unfold fuel; omega) ?_
  rintro f ⟨f1, f2⟩
  by_cases c : f = G
  · subst c
    right
    refine ⟨?_, ?_⟩
    · array_get_dec
    · subst_eqs
      exact ⟨rfl, rfl⟩
  · left
    have hx := hm f f1 (by omega)
    refine ⟨?_, ?_⟩
    · array_get_dec
    · unfold b1_law
      subst_eqs
      exact ⟨rfl, f + 1, rfl, ⟨by omega, by omega⟩, by omega⟩
theorem sh_pts {q p N : Nat} (h : Pq q p) (hn : N ≤ q) : canShow (wD (sP q p N)) = true := by
  have hq : 0 < q := by have := h.lt; omega
  have hle := h.le
  refine sh_word (Lt.nat fun z hz => ?_) ?_
  · obtain ⟨k, _, rfl⟩ := List.mem_map.mp (mem_srtI.mp hz)
    have : pos q p k < q := Nat.mod_lt _ hq
    omega
  · rw [len_srtI, List.length_map, List.length_range]; omega
theorem sh_dist {q p N s t : Nat} (h : Pq q p) (S : S4 q N p s t) : canShow (nW ((List.range N).map (fr q p N s t))) = true := by
  have hle := h.le
  have hn := S.nq
  refine sh_n (fun z hz => ?_) ?_
  · obtain ⟨k, hk, rfl⟩ := List.mem_map.mp hz
    have : fr q p N s t k ≤ q := (S.far_pos (List.mem_range.mp hk)).2
    omega
  · rw [List.length_map, List.length_range]; omega
theorem sum_dist {q p N s t : Nat} (S : S4 q N p s t) : ((List.range N).map (fr q p N s t)).sum = q := S.total
theorem parts_ok {q p N s t : Nat} (h : Pq q p) (S : S4 q N p s t) : gMin [.list ((pl q p N).drop 1)] = .ok (.int ((pos q p s : Nat) : Int)) ∧ gMaxX [.list ((pl q p N).drop 1)] = .ok (.int ((pos q p t : Nat) : Int)) ∧ gIndex (.list (pl q p N)) [.int ((pos q p s : Nat) : Int)] = .ok (.int (s : Int)) ∧ gIndex (.list (pl q p N)) [.int ((pos q p t : Nat) : Int)] = .ok (.int (t : Int)) ∧ Dz.gSub (.int (q : Int)) (.int ((pos q p t : Nat) : Int)) = .ok (.int ((q - pos q p t : Nat) : Int)) := by
  have hn := S.nq
  have hn2 := S.n2
  have hs := S.sN
  have ht := S.tN
  have hs1 := S.s1
  have ht1 := S.t1
  have hlt := S.lt t
  refine ⟨?_, ?_, ?_, ?_, ?_⟩
  · rw [drop1]
    exact gMin_at (List.mem_map.mpr ⟨s - 1, List.mem_range.mpr (by omega), by rw [show 1 + (s - 1) = s by omega]⟩) fun x hx => S.mn (1 + x) (by omega) (by have := List.mem_range.mp hx; omega)
  · rw [drop1]
    exact gMaxX_at (List.mem_map.mpr ⟨t - 1, List.mem_range.mpr (by omega), by rw [show 1 + (t - 1) = t by omega]⟩) fun x hx => S.mx (1 + x) (by have := List.mem_range.mp hx; omega)
  · exact gIndex_at hs fun m hm e => by
      have := S.toRt.inj (by omega) hs e; omega
  · exact gIndex_at ht fun m hm e => by
      have := S.toRt.inj (by omega) ht e; omega
  · exact gSub_nat (by omega)
theorem sh_due {q p N s t : Nat} (h : Pq q p) (S : S4 q N p s t) : canShow (.tuple [.int (s : Int), .int ((pos q p s : Nat) : Int), .int (t : Int), .int ((q - pos q p t : Nat) : Int)]) = true := by
  have hle := h.le
  have hs := S.sN
  have ht := S.tN
  have hn := S.nq
  have l1 : pos q p s < q := S.lt s
  refine sh_n (w := [s, pos q p s, t, q - pos q p t]) (fun z hz => ?_) (by simp)
  simp only [List.mem_cons, List.not_mem_nil, or_false] at hz
  rcases hz with rfl | rfl | rfl | rfl <;> omega
theorem lap_ok {cs : List Int} {l x t : Int} {k : Nat} (hk : k < 5) (o3 o4 o5 o6 o7 o8 o9 o10 o11 o12 o13 : Option D) : Wx b3_law [none, some (srcD cs l x t), some (.int (k : Int)), o3, o4, o5, o6, o7, o8, o9, o10, o11, o12, o13] (fun fl e => fl = .nx ∧ ∃ cs l x t o2 o3 o4 o5 o6 o7 o8 o9 o10 o11 o12 o13, e = [none, some (srcD cs l x t), o2, o3, o4, o5, o6, o7, o8, o9, o10, o11, o12, o13]) := by
  have htb : gIx (.list [.int ((6 : Nat) : Int), .int ((15 : Nat) : Int), .int ((30 : Nat) : Int), .int ((60 : Nat) : Int), .int ((60 : Nat) : Int)]) (.int (k : Int)) = .ok (.int (([6, 15, 30, 60, 60].getD k 0 : Nat) : Int)) := by
    have : k = 0 ∨ k = 1 ∨ k = 2 ∨ k = 3 ∨ k = 4 := by omega
    rcases this with rfl | rfl | rfl | rfl | rfl <;> rfl
  have hm : 3 ≤ [6, 15, 30, 60, 60].getD k 0 ∧ [6, 15, 30, 60, 60].getD k 0 ≤ 60 := by
    have : k = 0 ∨ k = 1 ∨ k = 2 ∨ k = 3 ∨ k = 4 := by omega
    rcases this with rfl | rfl | rfl | rfl | rfl <;> decide
  unfold b3_law
  refine wx_seqP (fun e => ∃ (cs : List Int) (l x t : Int) (q p : Nat), Pq q p ∧ e = [none, some (srcD cs l x t), some (.int (k : Int)), some (.int (q : Int)), some (.int (p : Int)), o5, o6, o7, o8, o9, o10, o11, o12, o13]) ?_ ?_
  · subst_eqs
    refine law_slope hm.1 hm.2 fun q p cs' l' x' t' hpq => ?_
    subst_eqs
    exact ⟨rfl, _, _, _, _, q, p, hpq, rfl⟩
  clear htb hm
  rintro e ⟨cs1, l1, x1, t1, q, p, h, rfl⟩
  obtain ⟨h1, h2, h3, h4⟩ := id h
  refine wx_seqP (fun e => ∃ (cs : List Int) (l x t : Int) (N : Nat), 2 ≤ N ∧ N ≤ q ∧ e = [none, some (srcD cs l x t), some (.int (k : Int)), some (.int (q : Int)), some (.int (p : Int)), some (.int (N : Int)), o6, o7, o8, o9, o10, o11, o12, o13]) ?_ ?_
  · subst_eqs
    exact ⟨rfl, _, _, _, _, _, by omega, by omega, rfl⟩
  rintro e ⟨cs2, l2, x2, t2, N, n2, nq, rfl⟩
  obtain ⟨s, t, S⟩ := (rt_of (cop (q := q) (by omega) h4) n2 nq).ex
  refine wx_seqP (fun e => e = [none, some (srcD cs2 l2 x2 t2), some (.int (k : Int)), some (.int (q : Int)), some (.int (p : Int)), some (.int (N : Int)), some (.list (pl q p N)), o7, o8, o9, o10, o11, o12, o13]) ?_ ?_
  · subst_eqs
    exact ⟨rfl, rfl⟩
  rintro e rfl
  have f1 := points_ok h nq
  have f2 := @sort_pl q p N
  have f3 := near_ok h S
  have f4 := dist_ok h S
  have s1 := sh_pts h nq
  have s2 := sh_dist h S
  have f5 := sum_dist S
  obtain ⟨m1, m2, i1, i2, g3⟩ := parts_ok h S
  have s3 := sh_due h S
  have hmany := S.many
  have ht1 : gTuple1 [.list ((sP q p N).map PyData.int)] = .ok (wD (sP q p N)) := rfl
  have ht2 : gTuple1 [.list ((List.range N).map fun k => PyData.int ((fr q p N s t k : Nat) : Int))] = .ok (nW ((List.range N).map (fr q p N s t))) := by
    unfold nW wD iN; rw [List.map_map, List.map_map]; rfl
  have hsum : gSumX [.list ((List.range N).map fun k => PyData.int ((fr q p N s t k : Nat) : Int))] = .ok (.int (q : Int)) := by
    rw [gSum_fL]; rw [f5]
  have hpl := fun (j : Nat) (hj : j < N) => place_ok h S hj
  have hsz := sizeLine_eq
  generalize hW : wD (sP q p N) = W at *
  generalize hV : nW ((List.range N).map (fr q p N s t)) = V at *
  refine wx_seqP (fun e => e = [none, some (srcD cs2 l2 x2 t2), some (.int (k : Int)), some (.int (q : Int)), some (.int (p : Int)), some (.int (N : Int)), some (.list (pl q p N)), o7, o8, o9, o10, o11, o12, o13]) ?_ ?_
  · generalize (sP q p N).map PyData.int = T at *
    generalize pl q p N = P at *
    subst_eqs
    exact ⟨rfl, rfl⟩
  rintro e rfl
  refine wx_seqP (fun e => e = [none, some (srcD cs2 l2 x2 t2), some (.int (k : Int)), some (.int (q : Int)), some (.int (p : Int)), some (.int (N : Int)), some (.list (pl q p N)), some (.list []), o8, o9, o10, o11, o12, o13]) ?_ ?_
  · subst_eqs
    exact ⟨rfl, rfl⟩
  rintro e rfl
  refine wx_seqP (fun e => ∃ o8 o9, e = [none, some (srcD cs2 l2 x2 t2), some (.int (k : Int)), some (.int (q : Int)), some (.int (p : Int)), some (.int (N : Int)), some (.list (pl q p N)), some (.list ((List.range N).map fun k => PyData.int ((fr q p N s t k : Nat) : Int))), o8, o9, o10, o11, o12, o13]) ?_ ?_
  · subst_eqs
    refine wx_forRange (fun k : Nat => PyData.int ((pos q p k : Nat) : Int)) (fun j e => ∃ o8 o9, e = [none, some (srcD cs2 l2 x2 t2), some (.int (k : Int)), some (.int (q : Int)), some (.int (p : Int)), some (.int (N : Int)), some (.list (pl q p N)), some (.list ((List.range j).map fun k => PyData.int ((fr q p N s t k : Nat) : Int))), o8, o9, o10, o11, o12, o13]) ⟨_, _, rfl⟩ ?_ ?_
    · rintro j hj e ⟨o8, o9, rfl⟩
      apply exW
      · array_get_dec
      refine (hpl j hj _ _ _ _ _ _ _ _ (by rw [List.length_map, List.length_range]; omega)).mono fun fl e he => ?_
      obtain ⟨rfl, rfl⟩ := he
      have hr : (List.range (j + 1)).map (fun k => PyData.int ((fr q p N s t k : Nat) : Int)) = (List.range j).map (fun k => PyData.int ((fr q p N s t k : Nat) : Int)) ++ [.int ((fr q p N s t j : Nat) : Int)] := by rw [List.range_succ, List.map_append]; rfl
      rw [hr]
      exact ⟨rfl, _, _, rfl⟩
    · rintro e ⟨o8, o9, rfl⟩
      exact ⟨rfl, _, _, rfl⟩
  rintro e ⟨r8, r9, rfl⟩
  refine wx_seqP (fun e => e = [none, some (srcD cs2 l2 x2 t2), some (.int (k : Int)), some (.int (q : Int)), some (.int (p : Int)), some (.int (N : Int)), some (.list (pl q p N)), some (.list ((List.range N).map fun k => PyData.int ((fr q p N s t k : Nat) : Int))), r8, r9, o10, o11, o12, o13]) ?_ ?_
  · generalize pl q p N = P at *
    generalize ((List.range N).map fun k => PyData.int ((fr q p N s t k : Nat) : Int)) = U at *
    subst_eqs
    exact ⟨rfl, rfl⟩
  rintro e rfl
  generalize ((List.range N).map fun k => PyData.int ((fr q p N s t k : Nat) : Int)) = U at *
  generalize pl q p N = P at *
  generalize pos q p s = a at *
  generalize q - pos q p t = b at *
  generalize pos q p t = c at *
  subst_eqs
  exact ⟨rfl, _, _, _, _, _, _, _, _, _, _, _, _, _, _, _, _, rfl⟩
theorem ex1 : F_round_distances [.int ((3 : Nat) : Int), .int ((8 : Nat) : Int), .int ((5 : Nat) : Int)] = .ok (nW [1, 1, 2, 2, 2]) := by
  have h : Pq 8 3 := ⟨by decide, by decide, by decide, by decide⟩
  have S : S4 8 5 3 3 2 := ⟨rt_of (cop (p := 3) (q := 8) (by decide) (by decide)) (by decide) (by decide), by decide, by decide, by decide, by decide, by
    intro m h1 h2
    have : m = 1 ∨ m = 2 ∨ m = 3 ∨ m = 4 := by omega
    rcases this with rfl | rfl | rfl | rfl <;> decide, by
    intro m h2
    have : m = 0 ∨ m = 1 ∨ m = 2 ∨ m = 3 ∨ m = 4 := by omega
    rcases this with rfl | rfl | rfl | rfl | rfl <;> decide⟩
  rw [dist_ok h S]
  rw [show (List.range 5).map (fr 8 3 5 3 2) = [1, 1, 2, 2, 2] by decide +kernel]
theorem law_true : LawTrue 1 14 g_law := law_w fun cs l x t => by
  show Wx g_law [none, some (srcD cs l x t), none, none, none, none, none, none, none, none, none, none, none, none] _
  unfold g_law t4_law t5_law
  subst_eqs
  refine wx_forInv (fun e => ∃ cs l x t o2 o3 o4 o5 o6 o7 o8 o9 o10 o11 o12 o13, e = [none, some (srcD cs l x t), o2, o3, o4, o5, o6, o7, o8, o9, o10, o11, o12, o13]) ⟨cs, l, x, t, none, none, none, none, none, none, none, none, none, none, none, none, rfl⟩ ?_ ?_
  · rintro d hd e ⟨cs, l, x, t, o2, o3, o4, o5, o6, o7, o8, o9, o10, o11, o12, o13, rfl⟩
    obtain ⟨k, hk, rfl⟩ := List.mem_map.mp hd
    have hk := List.mem_range.mp hk
    apply exW
    · array_get_dec
    refine (lap_ok hk _ _ _ _ _ _ _ _ _ _ _).mono ?_
    rintro fl e2 ⟨rfl, h⟩
    exact ⟨.inl rfl, h⟩
  rintro e' ⟨cs, l, x, t, o2, o3, o4, o5, o6, o7, o8, o9, o10, o11, o12, o13, rfl⟩
  have x1 : F_round_distances [.int ((3 : Nat) : Int), .int ((8 : Nat) : Int), .int ((5 : Nat) : Int)] = .ok (.tuple [.int 1, .int 1, .int 2, .int 2, .int 2]) := ex1
  exact wx_sRet (cBin_ok (cFn3_ok rfl rfl rfl x1) (show _ = R.ok (PyData.tuple [.int 1, .int 1, .int 2, .int 2, .int 2]) from rfl) rfl) rfl
end Lw

set_option maxRecDepth 100000
set_option maxHeartbeats 0
namespace Lw
open PySem PySem.Spec PyProof.Rows L2 Dz
def dOf (x : Str) (i : Nat) : He.DefD := ⟨(x, none), x, x, defArgs (top i), defBody (top i), defScope (top i), [], []⟩
def fn : List He.DefD := [dOf "round_points" 1, dOf "nearest_steps" 2, dOf "round_distances" 3, dOf "_law_source" 5, dOf "_law_pick" 6, dOf "_law_of" 7, dOf "_law_slope" 8, dOf "_law_near" 9, dOf "law" 10]
def fa : List He.Fa := [.glo "round_points", .glo "nearest_steps", .glo "round_distances", .glo "_law_source", .glo "_law_pick", .glo "_law_of", .glo "_law_slope", .glo "_law_near", .glo "law", .free "abs", .free "bool", .free "int", .free "isinstance", .free "len", .free "list", .free "max", .free "min", .free "range", .free "repr", .free "sorted", .free "sum", .free "tuple"]
abbrev rwR : PySem.W.OpenRow := PySem.W.OpenLaw.row PySem.Challenge.rw_lettersagain_k43_points_on_a_round
abbrev hk : PySem.W.Hook := He.hookD 4 fa fn
def ob (s : PySem.W.SharedT) : He.AlD := He.obsDG 4 fa fn (HandSHeadRun.getT s)
theorem ob_eq (s : PySem.W.SharedT) : ob s = hk.obs s.abs := He.obsDG_eq (HandSHeadRun.getT_eq s)
theorem top_run (w : World) : HandSHeadRun.RunEq rwR (PySem.W.view rwR.prog [10]) hk ob 4000 ((["round_points", "nearest_steps", "round_distances", "_law_source", "_law_pick", "_law_of", "_law_slope", "_law_near"] : List Str)) w := by
  intro os
  kernel_rfl
theorem law_ok {P : Program} {w : World} {K : PySem.W.Frag} {h base : Heap} {mg : Str → Option Value} {f : Addr} {fd : FuncData} (X : K.In h) (G : h.Ns mainGlobals mg) (c : He.SaysD fa fn K) (F : FunD K "law" "law" (defArgs (top 10)) (defBody (top 10)) (defScope (top 10)) [] [] f fd) : FnG P w K mg base CX0 30 f fd ["script"] (spLaw K) := by
  have f_round_points : FunAt K mg "round_points" (top 1) := by
    obtain ⟨fd, F⟩ := c.def_ 0 (d := dOf "round_points" 1) rfl
    exact ⟨_, fd, F, He.glo_ok X G (c.fact 0 (f := .glo "round_points") rfl)⟩
  have f_nearest_steps : FunAt K mg "nearest_steps" (top 2) := by
    obtain ⟨fd, F⟩ := c.def_ 1 (d := dOf "nearest_steps" 2) rfl
    exact ⟨_, fd, F, He.glo_ok X G (c.fact 1 (f := .glo "nearest_steps") rfl)⟩
  have f_round_distances : FunAt K mg "round_distances" (top 3) := by
    obtain ⟨fd, F⟩ := c.def_ 2 (d := dOf "round_distances" 3) rfl
    exact ⟨_, fd, F, He.glo_ok X G (c.fact 2 (f := .glo "round_distances") rfl)⟩
  have f__law_source : FunAt K mg "_law_source" (top 5) := by
    obtain ⟨fd, F⟩ := c.def_ 3 (d := dOf "_law_source" 5) rfl
    exact ⟨_, fd, F, He.glo_ok X G (c.fact 3 (f := .glo "_law_source") rfl)⟩
  have f__law_pick : FunAt K mg "_law_pick" (top 6) := by
    obtain ⟨fd, F⟩ := c.def_ 4 (d := dOf "_law_pick" 6) rfl
    exact ⟨_, fd, F, He.glo_ok X G (c.fact 4 (f := .glo "_law_pick") rfl)⟩
  have f__law_of : FunAt K mg "_law_of" (top 7) := by
    obtain ⟨fd, F⟩ := c.def_ 5 (d := dOf "_law_of" 7) rfl
    exact ⟨_, fd, F, He.glo_ok X G (c.fact 5 (f := .glo "_law_of") rfl)⟩
  have f__law_slope : FunAt K mg "_law_slope" (top 8) := by
    obtain ⟨fd, F⟩ := c.def_ 6 (d := dOf "_law_slope" 8) rfl
    exact ⟨_, fd, F, He.glo_ok X G (c.fact 6 (f := .glo "_law_slope") rfl)⟩
  have f__law_near : FunAt K mg "_law_near" (top 9) := by
    obtain ⟨fd, F⟩ := c.def_ 7 (d := dOf "_law_near" 9) rfl
    exact ⟨_, fd, F, He.glo_ok X G (c.fact 7 (f := .glo "_law_near") rfl)⟩
  have m_abs : mg "abs" = none := He.free_ok X G (c.fact 9 (f := .free "abs") rfl)
  have m_bool : mg "bool" = none := He.free_ok X G (c.fact 10 (f := .free "bool") rfl)
  have m_int : mg "int" = none := He.free_ok X G (c.fact 11 (f := .free "int") rfl)
  have m_isinstance : mg "isinstance" = none := He.free_ok X G (c.fact 12 (f := .free "isinstance") rfl)
  have m_len : mg "len" = none := He.free_ok X G (c.fact 13 (f := .free "len") rfl)
  have m_list : mg "list" = none := He.free_ok X G (c.fact 14 (f := .free "list") rfl)
  have m_max : mg "max" = none := He.free_ok X G (c.fact 15 (f := .free "max") rfl)
  have m_min : mg "min" = none := He.free_ok X G (c.fact 16 (f := .free "min") rfl)
  have m_range : mg "range" = none := He.free_ok X G (c.fact 17 (f := .free "range") rfl)
  have m_repr : mg "repr" = none := He.free_ok X G (c.fact 18 (f := .free "repr") rfl)
  have m_sorted : mg "sorted" = none := He.free_ok X G (c.fact 19 (f := .free "sorted") rfl)
  have m_sum : mg "sum" = none := He.free_ok X G (c.fact 20 (f := .free "sum") rfl)
  have m_tuple : mg "tuple" = none := He.free_ok X G (c.fact 21 (f := .free "tuple") rfl)
  have h_round_points := ok_round_points (P := P) (w := w) (base := base) f_round_points m_range m_sorted m_tuple
  have h_nearest_steps := ok_nearest_steps (P := P) (w := w) (base := base) f_nearest_steps m_max m_min m_range
  have h__law_source := ok__law_source (P := P) (w := w) (base := base) f__law_source m_abs m_int
  have h__law_pick := ok__law_pick (P := P) (w := w) (base := base) f__law_pick m_int m_len m_max
  have h_round_distances := ok_round_distances (P := P) (w := w) (base := base) f_round_distances h_nearest_steps m_range m_tuple
  have h__law_of := ok__law_of (P := P) (w := w) (base := base) f__law_of h__law_pick m_len
  have h__law_slope := ok__law_slope (P := P) (w := w) (base := base) f__law_slope h__law_of h__law_pick m_int m_range
  exact (ok_law F h__law_pick h__law_slope h__law_source h_nearest_steps h_round_distances h_round_points m_int m_max m_min m_range m_repr m_sorted m_sum m_tuple law_true).mono (by decide)
theorem facts {P : Program} {w : World} {K : PySem.W.Frag} {h : Heap} {mg : Str → Option Value} {f : Addr} (X : K.In h) (G : h.Ns mainGlobals mg) (hfa : mg ("law" : Str) = some (.ref f)) (c : He.SaysD fa fn K) :
    ∃ fd : FuncData, (∀ (s : Shared) (v : Value), BindsTo s fd ⟨[v], []⟩ [("script", v)]) ∧ ∀ base : Heap, FnG P w K mg base CX0 30 f fd ["script"] (spLaw K) := by
  obtain ⟨fd, F⟩ := c.def_ 8 (d := dOf "law" 10) rfl
  have e := hfa.symm.trans (He.glo_ok X G (c.fact 8 (f := .glo "law") rfl))
  cases e
  have b := FunD.bindsA (ps := ["script"]) F fun _ _ _ _ _ _ us hl => match us, hl with | [_], _ => rfl
  exact ⟨fd, fun s v => b s [v] rfl, fun base => law_ok X G c F⟩
end Lw
open PySem PySem.W PySem.Calls PyProof.Rows
theorem PySem.Challenge.cw_lettersagain_k43_points_on_a_round_holds : PySem.Challenge.rw_lettersagain_k43_points_on_a_round.Holds := by
  w_on; o_law
  refine HandSHeadRun.head_any (r := OpenLaw.row PySem.Challenge.rw_lettersagain_k43_points_on_a_round) (q := view (OpenLaw.row PySem.Challenge.rw_lettersagain_k43_points_on_a_round).prog [10]) (H := Lw.hk) (ob := Lw.ob) (M := 4000) (loose := ((["round_points", "nearest_steps", "round_distances", "_law_source", "_law_pick", "_law_of", "_law_slope", "_law_near"] : List Str))) (d := HandSHeadRun.topDef (OpenLaw.row PySem.Challenge.rw_lettersagain_k43_points_on_a_round).prog 10) (kwd := []) Lw.ob_eq
    (by kernel_rfl) (fun s => by kernel_rfl) Lw.top_run (by kernel_rfl) (by kernel_rfl) (by kernel_rfl) (by rfl) (by first | assumption | decide +kernel) (by decide +kernel) ⟨rfl, rfl, rfl, rfl, rfl, by decide +kernel⟩ ?hw ?hc
  case hw => w_witness2
  case hc =>
    refine Dz.walkG (l := PySem.Challenge.rw_lettersagain_k43_points_on_a_round) (n := 63) (k := 30) (x := "script") rfl (by decide) (by kernel_rfl) ⟨rfl, by decide, by decide⟩ ?F
    intro w mg fa h Y G hmg0
    obtain ⟨K, KX, c⟩ := Y
    have hmg : mg ("law" : PySem.Str) = some (.ref fa) := by
      have e : (HandSHeadRun.topDef (OpenLaw.row PySem.Challenge.rw_lettersagain_k43_points_on_a_round).prog 10).name = ("law" : PySem.Str) := by kernel_rfl
      rw [← e]
      exact hmg0
    obtain ⟨fd, hb, hF⟩ := Lw.facts (P := (PySem.Challenge.rw_lettersagain_k43_points_on_a_round).prog) (w := w) KX G hmg c
    exact ⟨K, fd, Dz.spLaw K, KX, hb, fun H a ns hl hS => ⟨a, ns, rfl, hS, hl, fun _ => rfl⟩, hF⟩
