import PyProof.Rows.All
import Wide.All
import OpenK.AllK
import Wide.FinOn
import HandS.ForMost
import HandS.ForExc
import HandS.WideBits
import HandS.EndBits
import HandS.Defaults
import HandS.FStrTup
import HandS.IsInst
import HandS.More
import HandS.Style
import HandS.Steps
import HandS.MakeKwOnly
import HandS.SortInts
import HandS.Small
import HandS.FStr
import HandS.Codes
import HandS.ExcInit
import HandS.ExcIs
import HandS.ExcField
import KE.KExcIs
import KE.KLam
import HandS.Lambda
import KE.KStateDown
import HandS.Head0
import HandS.Head1
import HandS.Head2
import HandS.HeadHook1
import HandS.HeadHook2
import HandS.Deep
import KE.DataFind
import PySem.Challenge.RW_forkthrift_k10_calls_by_names
set_option Elab.async false
set_option linter.all false
set_option maxRecDepth 100000
set_option maxHeartbeats 4000000
namespace G
/-- a step of a walk that asks nothing -/
class Red (g : Prop) (n : outParam Prop) : Prop where
  r : n → g
open PySem PySem.Spec PyProof.Rows L2

/-! the call layer once more, with the guards known -/
structure RoomG (k : Nat) (A : Around) : Prop where
  r : Room k A
  g : A.guards = some []
theorem RoomG.mono {j k : Nat} {A : Around} (z : RoomG k A) (h : j ≤ k) : RoomG j A :=
  ⟨z.r.mono h, z.g⟩
theorem RoomG.deeper {k : Nat} {A : Around} (z : RoomG (k + 1) A) (env : Env) :
    RoomG k (A.deeper env) := ⟨z.r.deeper env, z.g⟩
theorem make_guards {A : Around} {C : Addr} {us : List Value} {kw : List (Str × Value)} :
    (A.under (.builtin "type.__call__" ⟨.ref C :: us, kw⟩)).guards = A.guards := by
  first
    | rfl
    | (simp only [Around.under]
       rw [pushGuards_eq]
       have e : Code.guards (.builtin "type.__call__" ⟨.ref C :: us, kw⟩) = [] := by
         simp [Code.guards, Code.isGuard, guardIds]
       rw [e]
       cases A.guards <;> rfl)
theorem RoomG.make {k : Nat} {A : Around} (z : RoomG (k + 1) A) (C : Addr) (us : List Value)
    (kw : List (Str × Value)) : RoomG k (A.under (.builtin "type.__call__" ⟨.ref C :: us, kw⟩)) :=
  ⟨z.r.make C us kw, make_guards.trans z.g⟩

structure FnG (P : Program) (w : World) (K : PySem.W.Frag) (mg : Str → Option Value) (base : Heap)
    (k : Nat) (f : Addr) (fd : FuncData) (ps : List Str) (sp : Sp) : Prop where
  len : ∀ vs H Q E, sp vs H Q E → vs.length = ps.length
  run : ∀ (A : Around) (outer : List Env) (s : Shared) (H : Hp) (args : Args) (us : List Value)
    (vs : List V) (Q : VK) (E : XK), RoomG k A → Env0 P w K mg base A outer s H →
    BindsTo s fd args (ps.zip us) → Vals vs us → sp vs H Q E →
    codeAny (model P w) A (.call (.ref f) args) (CR (L2.CX P w) outer P w H s Q E) s
section
variable {P : Program} {w : World} {K : PySem.W.Frag} {mg : Str → Option Value} {base : Heap}
theorem FnG.mono {j k : Nat} {f : Addr} {fd : FuncData} {ps : List Str} {sp : Sp}
    (F : FnG P w K mg base j f fd ps sp) (h : j ≤ k) : FnG P w K mg base k f fd ps sp :=
  ⟨F.len, fun A o s H args us vs Q E z => F.run A o s H args us vs Q E (z.mono h)⟩
theorem FnG.of {k : Nat} {f : Addr} {fd : FuncData} {ps : List Str} {sp : Sp}
    (F : FnOk P w K mg base (L2.CX P w) k f fd ps sp) : FnG P w K mg base k f fd ps sp :=
  ⟨F.len, fun A o s H args us vs Q E z => F.run A o s H args us vs Q E z.r⟩

/-- a def by its body -/
theorem FnG.body {k : Nat} {f : Addr} {name qual : Str} {params : Arguments} {body : List Stmt}
    {sc : Scope} {dV kV doc pm cdv ct oc : Value} {an od : Option Addr} {osl : Array (Option Value)}
    {N ps : List Str} {sp : Sp}
    (lk : K.lookup f = some ⟨oc, od, .func (PySem.W.fnOf name qual params body sc dV kV doc pm an cdv ct), osl⟩)
    (hcd : PySem.W.codeIn K cdv qual = true) (S : FnScope N ps sc)
    (len : ∀ vs H Q E, sp vs H Q E → vs.length = ps.length)
    (hb : ∀ (A : Around) (outer : List Env) (s : Shared) (H : Hp) (vs : List V) (Q : VK) (E : XK),
      RoomG k (A.deeper (envOfC qual sc s.heap.objs.size f cdv)) → sp vs H Q E →
      ∃ t, PSs (cxOf (L2.CX P w) P w K mg base N qual sc f cdv A outer s H E) body t ∧
        t { nx := fun _ H' => Q .non H', rt := Q } (start N vs) H) :
    FnG P w K mg base (k + 1) f
      (PySem.W.fnOf name qual params body sc dV kV doc pm an cdv ct) ps sp := by
  refine ⟨len, ?_⟩
  intro A outer s H args us vs Q E z e0 bd rv hsp
  have n0 := len _ _ _ _ hsp
  have kin : K.In s.heap :=
    e0.mod.kin.keeps (fun b o e => (e0.bs b o e).1)
  have lim : s.heap.NoLimit :=
    e0.mod.nolimit.keeps (fun b o e => (e0.bs b o e).1)
  have kinds : ∀ y ∈ ps.zip us, sc.names.lookup y.1 = some .local ∨
      (sc.names.lookup y.1 = some .cell ∧
        ((cellsFrom (s.heap.objs.size + 1) sc.names []).lookup y.1).isSome = true) := by
    intro y hy
    obtain ⟨m, v⟩ := y
    cases S.par m (List.of_mem_zip hy).1 with
    | inl q => exact Or.inl q
    | inr q => exact Or.inr ⟨q, PySem.W.cellsFrom_some _ _ _ (Or.inl q)⟩
  refine codeAny_call_function z.r.depth (kin _ _ lk) rfl S.co S.gen rfl
    (PySem.W.codeRec_of kin hcd) (bd _ _ _ _ ?_)
  refine wpAny_newFunctionEnv_cells S.kind kinds ?_
  intro env he s1 x
  subst he
  refine ⟨lim.keeps x.toInCall.keep, ?_⟩
  refine codeAny_func ?_
  obtain ⟨t, ht, hq⟩ := hb A outer s H vs Q E (z.deeper _) hsp
  have I := inv_start (CX := L2.CX P w) (K := K) (mg := mg) (base := base) (E := E)
    S z.r.hd e0 n0 rv x
  refine wpAny_mono (ht.run [] s1 (start N vs) H _ I hq) ?_ (fun e s' hs => hs)
  intro fl s' hs
  have fin : ∀ {τ : L2.St} {G : Hp} {v : V} {u : Value},
      Inv (cxOf (L2.CX P w) P w K mg base N qual sc f cdv A outer s H E) [] τ G s' →
      RelV v u → Q v G → CE outer P w H s Q u s' := by
    intro τ G v u J r q
    exact ⟨v, G, J.os, J.bare, J.base, J.hok, r, q⟩
  match fl, hs with
  | .ret u, ⟨v, τ, G, J, r, q⟩ => exact fin J r q
  | .next, ⟨τ, G, J, q⟩ => exact fin (v := .non) (u := Value.none) J rfl q
  | .brk, ⟨_, _, _, q⟩ => exact False.elim q
  | .cont, ⟨_, _, _, q⟩ => exact False.elim q
end
end G
namespace G
open PySem PySem.Spec PyProof.Rows L2
section
variable {X : Cx} {k n : Nat} {f C : Addr} {fd : FuncData} {ps ks : List Str} {sp : Sp}
variable {dvs : List V} {ds : List Value} {E : XK} {x m : Str} {p pos apos : Pos} {e o : Expr}
variable {es : List Expr} {ta : TE} {t tk : TA} {pins : List (Addr × Obj)} {σ : L2.St} {H : Hp}
variable {s s' : Shared} {Q : VK}
abbrev Fg (X : Cx) (k : Nat) (f : Addr) (fd : FuncData) (ps : List Str) (sp : Sp) : Prop :=
  FnG X.prog X.w X.K X.mg X.base k f fd ps sp
abbrev Ps (X : Cx) (E : XK) : Prop := Passes (L2.CX X.prog X.w) X E

def Got (X : Cx) (R : Value → Shared → Prop) : Result → Shared → Prop
  | .ok (.ret u), s' => R u s'
  | .ok _, _ => False
  | .error e, s' => X.xe e s'
theorem ended (I : Inv X pins σ H s) (hx : Ps X E) {R : Value → Shared → Prop}
    (hR : ∀ u s', CE X.stack X.prog X.w H s Q u s' → R u s') {r : Result}
    (q : CR (L2.CX X.prog X.w) X.stack X.prog X.w H s Q E r s') : Got X R r s' := by
  match r, q with
  | .error e, q => exact hx pins σ H s e s' I q
  | .ok (.ret u), q => exact hR u s' q
  | .ok .next, q => exact False.elim q
  | .ok .brk, q => exact False.elim q
  | .ok .cont, q => exact False.elim q

theorem runG {args : Args} {us : List Value} {vs : List V} (F : Fg X k f fd ps sp)
    (z : RoomG k X.A) (hb : BindsTo s fd args (ps.zip us)) (hx : Ps X E) (I : Inv X pins σ H s)
    (rv : Vals vs us) (h : sp vs H Q E) :
    codeAny (model X.prog X.w) X.A (.call (.ref f) args) (Got X (EP X pins σ Q)) s := by
  refine codeAny_mono (F.run X.A X.stack s H args us vs Q E z I.env0 hb rv h) ?_
  intro r s' q
  exact ended I hx (fun u s' c => I.after c) q

theorem run1 {us : List Value} {vs : List V} (F : Fg X k f fd ps sp) (z : RoomG k X.A)
    (hb : Binds X.K fd ps ds) (hd : Vals dvs ds) (hx : Ps X E) (I : Inv X pins σ H s)
    (rv : Vals vs us) (h : sp (vs ++ dvs) H Q E) :
    wpAny (model X.prog X.w) X.A (call (.ref f) us) (EP X pins σ Q) X.xe s := by
  have r2 : Vals (vs ++ dvs) (us ++ ds) := rv.append hd
  have hl : (us ++ ds).length = ps.length := by
    rw [← r2.length]
    exact F.len _ _ _ _ h
  refine wpAny_call (codeAny_mono (runG F z (hb s us I.kIn hl) hx I r2 h) ?_)
  intro r s' q
  match r, q with
  | .error e, q => exact q
  | .ok (.ret u), q => exact q
  | .ok .next, q => exact q
  | .ok .brk, q => exact q
  | .ok .cont, q => exact q

theorem c1 (F : Fg X k f fd ps sp) (z : RoomG k X.A) (hg : Gl X x) (hm : X.mg x = some (.ref f))
    (hk : PySem.W.keepIn X.K (.ref f) = true) (hb : Binds X.K fd ps ds) (hd : Vals dvs ds)
    (hx : Ps X E) (ha : PA X (e :: es) t)
    (hdb : (x == ("__debug__" : Str)) = false := by decide)
    (he : starEach (e :: es) X.env = (false, eval e X.env) :: starEach es X.env := by rfl)
    (hpl : (backTo pos (starEach es X.env)).any (·.1) = false := by rfl) :
    PE X (.Call (.Name x p) (e :: es) [] pos) (tCall sp dvs E t) := by
  constructor
  intro pins s σ H Q I h
  refine wpAny_Call_Name_kw (ld_glob I hg hm ?_ hdb)
  refine PySem.W.callWith_K (h₀ := X.base) I.ok.mod.kin hk ?_ he hpl
  refine thn (ha.run pos pins s σ H _ I h) ?_
  intro us s1 y
  obtain ⟨vs, H1, I1, r, q⟩ := y
  exact ⟨I1.kIn, run1 F z hb hd hx I1 r q⟩

theorem c0 (F : Fg X k f fd ps sp) (z : RoomG k X.A) (hg : Gl X x) (hm : X.mg x = some (.ref f))
    (hk : PySem.W.keepIn X.K (.ref f) = true) (hb : Binds X.K fd ps ds) (hd : Vals dvs ds)
    (hx : Ps X E) (hdb : (x == ("__debug__" : Str)) = false := by decide) :
    PE X (.Call (.Name x p) [] [] pos) (tCall sp dvs E tNil) := by
  constructor
  intro pins s σ H Q I h
  refine wpAny_Call_Name_kw (ld_glob I hg hm ?_ hdb)
  exact PySem.W.callWith_K0 I.kIn hk (run1 (us := []) F z hb hd hx I .nil h)

/-- o.m(..) -/
theorem cm {pl : Sem Bool} (he : PE X o ta) (c : Cls X.K C) (hm : Meth X.K C m f)
    (F : Fg X k f fd ps sp) (z : RoomG k X.A) (hb : Binds X.K fd ps ds) (hd : Vals dvs ds)
    (hx : Ps X E) (ha : PA X (e :: es) t)
    (hst : starEach (e :: es) X.env = (false, eval e X.env) :: starEach es X.env := by rfl)
    (hpl : (backTo pos (starEach es X.env)).any (·.1) = false := by rfl)
    (ht : eval (.Call (.Attribute o m apos) (e :: es) [] pos) X.env = (do
      let y ← eval o X.env
      standAt apos.atName
      let (g, a) ← holding [y] (getMethod y m pl)
      callWith pos g a (backTo pos (starEach (e :: es) X.env))
        (backToKw pos (keywordEach [] X.env))) := by rfl) :
    PE X (.Call (.Attribute o m apos) (e :: es) [] pos) (tMeth C m sp dvs E ta t) := by
  constructor
  intro pins s σ H Q I h
  refine PySem.W.methodCall_KW (pl := pl) (thn (he.run pins s σ H _ I h) ?_) ht
  intro u s1 y
  obtain ⟨v, H1, I1, rx, a, dx, fs, ex, ea, l, q⟩ := y
  subst ex
  obtain rfl : u = Value.ref a := rx
  refine getmeth_ok I1 ea c hm l ?_
  refine PySem.W.callWith_K (first := [.ref a]) (h₀ := X.base) I.ok.mod.kin hm.kp ?_ hst hpl
  refine thn (ha.run pos pins s1 σ H1 _ I1 q) ?_
  intro us s2 y
  obtain ⟨vs, H2, I2, r, q2⟩ := y
  exact ⟨I2.kIn, run1 (us := .ref a :: us) (vs := .ref a :: vs) F z hb hd hx I2 (.cons rfl r) q2⟩
/-- o.m() -/
theorem cm0 {pl : Sem Bool} (he : PE X o ta) (c : Cls X.K C) (hm : Meth X.K C m f)
    (F : Fg X k f fd ps sp) (z : RoomG k X.A) (hb : Binds X.K fd ps ds) (hd : Vals dvs ds)
    (hx : Ps X E)
    (ht : eval (.Call (.Attribute o m apos) [] [] pos) X.env = (do
      let y ← eval o X.env
      standAt apos.atName
      let (g, a) ← holding [y] (getMethod y m pl)
      callWith pos g a (backTo pos (starEach [] X.env))
        (backToKw pos (keywordEach [] X.env))) := by rfl) :
    PE X (.Call (.Attribute o m apos) [] [] pos) (tMeth C m sp dvs E ta tNil) := by
  constructor
  intro pins s σ H Q I h
  refine PySem.W.methodCall_KW (pl := pl) (thn (he.run pins s σ H _ I h) ?_) ht
  intro u s1 y
  obtain ⟨v, H1, I1, rx, a, dx, fs, ex, ea, l, q⟩ := y
  subst ex
  obtain rfl : u = Value.ref a := rx
  refine getmeth_ok I1 ea c hm l ?_
  refine PySem.W.callWith_K0 (first := [.ref a]) I1.kIn hm.kp ?_
  exact run1 (us := [.ref a]) (vs := [.ref a]) F z hb hd hx I1 (.cons rfl .nil) q
end
end G
namespace G
open PySem PySem.Spec PyProof.Rows L2

/-- the heap at the law's entry: the script alone is tracked, or nothing -/
theorem lawG {P : Program} {w : World} {K : PySem.W.Frag} {mg mb : Str → Option Value} {k : Nat}
    {fa a : Addr} {fd : FuncData} {x : Str} {sp : Sp} {s0 : Shared} {vs : List Value}
    {ns : List Int} (kin : K.In s0.heap) (hns : s0.heap.Ns mainGlobals mg)
    (hb : s0.heap.Ns builtinsNs mb) (hbb : ∀ y : Str, y ≠ "__name__" → mb y = bootBuiltins y)
    (lim : s0.heap.NoLimit) (hg : s0.gens = #[])
    (ha : s0.heap.get? a = some { cls := .type "list", data := .seq vs.toArray })
    (hi : IntsAre vs ns) (hl : ns.length ≤ sizeLine) (z : RoomG k callerA)
    (F : ∀ base : Heap, K.In base → base.Ns mainGlobals mg → FnG P w K mg base k fa fd [x] sp)
    (bd : ∀ (s : Shared) (u : Value), BindsTo s fd ⟨[u], []⟩ [(x, u)])
    (hsp : ∀ H : Hp, Only H → SqL K H a (ns.map V.int) →
      sp [.ref a] H (fun v _ => v = .bl true) fun _ _ _ => False) :
    codeAny (model P w) callerA (.call (.ref fa) ⟨[.ref a], []⟩)
      (fun r s' => r = .ok (.ret (.bool true)) ∧ OldK s0.heap s'.heap ∧ s'.os = s0.os ∧
        AllBare s'.gens) s0 := by
  have rv := vals_ints hi
  have lv := hi.length
  have core : ∀ H : Hp, Only H → SqL K H a (ns.map V.int) → HOk P w H s0.heap →
      (∀ b, H b ≠ none → b = a) → (H a ≠ none → K.lookup a = none) →
      codeAny (model P w) callerA (.call (.ref fa) ⟨[.ref a], []⟩)
        (fun r s' => r = .ok (.ret (.bool true)) ∧ OldK s0.heap s'.heap ∧ s'.os = s0.os ∧
          AllBare s'.gens) s0 := by
    intro H only sq hok only_a notK
    have at_a : ∀ {b : Addr}, H b ≠ none → b = a := fun {b} q => only_a b q
    have seqs : ∀ {b : Addr} {o : Obj} {es : Array DictEntry} {ep : Nat},
        s0.heap.get? b = some o → o.data = .dict es ep → H b = none := by
      intro b o es ep e d
      cases q : H b with
      | none => rfl
      | some u =>
        obtain rfl := at_a (b := b) (by rw [q]; exact fun y => nomatch y)
        rw [ha] at e
        cases e
        have d' : Data.seq vs.toArray _ = Data.dict es ep := d
        cases d'
    have nsb : ∀ {b : Addr} {g : Str → Option Value}, s0.heap.Ns b g →
        (hidT s0.heap H).Ns b g := by
      intro b g y
      obtain ⟨o, es, ep, e, d, r⟩ := y
      exact ⟨o, es, ep, hidT_get e (seqs e d), d, r⟩
    have kb : K.In (hidT s0.heap H) := by
      intro b o e
      refine hidT_get (kin b o e) ?_
      cases q : H b with
      | none => rfl
      | some u =>
        obtain rfl := at_a (b := b) (by rw [q]; exact fun y => nomatch y)
        rw [notK (by rw [q]; exact fun y => nomatch y)] at e
        cases e
    have md : Mod K mg (hidT s0.heap H) := by
      obtain ⟨mc, l1, l2⟩ := lim
      exact ⟨kb, nsb hns, ⟨mb, nsb hb, hbb⟩, ⟨mc, nsb l1, l2⟩⟩
    have e0 : Env0 P w K mg (hidT s0.heap H) callerA [] s0 H :=
      ⟨rfl, md, fun b o e => of_hidT e, Nat.le_of_eq (hidT_size _ _), trivial,
        fun b q => absurd (show b ∈ ([] : List Addr) from q) List.not_mem_nil, hok, .of_eq hg⟩
    have run := (F _ kb (nsb hns)).run callerA [] s0 H ⟨[.ref a], []⟩ [.ref a] [.ref a] _ _
      z e0 (bd s0 (.ref a)) (.cons rfl .nil) (hsp H only sq)
    refine codeAny_mono run ?_
    intro r s' h
    match r, h with
    | .error e, h =>
      obtain ⟨_, _, _, _, _, _, _, _, _, _, _, _, y⟩ := h
      exact y.elim
    | .ok .next, h => exact False.elim h
    | .ok .brk, h => exact False.elim h
    | .ok .cont, h => exact False.elim h
    | .ok (.ret u), h =>
      obtain ⟨v, H', os, bare, un, hok', r', q⟩ := h
      have q' : v = .bl true := q
      subst q'
      obtain rfl : u = Value.bool true := r'
      refine ⟨rfl, OldK.of_keep ?_, os, bare⟩
      intro b o e
      cases q : H b with
      | none =>
        exact un.keep b o e q (fun y => absurd (show b ∈ ([] : List Addr) from y) List.not_mem_nil)
          List.not_mem_nil
      | some u =>
        rcases only b with y | ⟨ob, xs, y⟩
        · rw [q] at y
          cases y
        · obtain ⟨e1, _⟩ := hok b _ y
          obtain ⟨e2, _⟩ := hok' b _ (un.frzs b ob _ y)
          rw [e] at e1
          cases e1
          exact e2
  cases hk : K.lookup a with
  | some o =>
    have e := kin a o hk
    rw [ha] at e
    cases e
    refine core (fun _ => none) (fun _ => Or.inl rfl) (Or.inr ?_) ?_ (fun b y => absurd rfl y)
      (fun y => absurd rfl y)
    · refine ⟨_, vs.toArray, _, hk, rfl, rfl, rfl, ?_, ?_⟩
      · rw [List.size_toArray, lv]
        exact hl
      · simpa using rv
    · intro b u y
      have y' : (none : Option HO) = some u := y
      cases y'
  | none =>
    refine core (fun b => if b = a then
      some (.frz { cls := .type "list", data := .seq vs.toArray } (.lst (ns.map V.int)))
      else none) ?_ (Or.inl (Or.inr ⟨_, if_pos rfl⟩)) ?_ ?_ (fun _ => hk)
    · intro b
      by_cases q : b = a
      · exact Or.inr ⟨_, _, if_pos q⟩
      · exact Or.inl (if_neg q)
    · intro b u y
      by_cases q : b = a
      · have y' := (if_pos q).symm.trans y
        cases y'
        subst q
        refine ⟨ha, ?_, vs, _, rv, ha⟩
        rw [List.length_map]
        exact hl
      · have y' := (if_neg q).symm.trans y
        cases y'
    · intro b y
      by_cases q : b = a
      · exact q
      · exact absurd (if_neg q) y

/-- the end of a law row, the script's bits told -/
theorem walkG {l : PySem.W.OpenLaw} {n k : Nat} {q : Program} {loose : List Str}
    {XP : (Str → Option Value) → Heap → Prop} {YP : World → Heap → Prop} {d : DefRec}
    {K : Params → PySem.W.Frag} {sp : PySem.W.Frag → Sp} {x : Str} (hn : l.most = some n)
    (hn2 : n ≤ sizeLine) (hdf : d.params.defaults = []) (hr : Room k callerA)
    (hY : ∀ (w : World) (h : Heap), YP w h → (K w.params).In h)
    (F : ∀ (w : World) (mg : Str → Option Value) (fa : Addr) (h : Heap), (K w.params).In h →
      h.Ns mainGlobals mg → mg d.name = some (.ref fa) →
      ∃ fd : FuncData, (∀ (s : Shared) (u : Value), BindsTo s fd ⟨[u], []⟩ [(x, u)]) ∧
        ∀ base : Heap, (K w.params).In base → base.Ns mainGlobals mg →
          FnG l.prog w (K w.params) mg base k fa fd [x] (sp (K w.params)))
    (hsp : ∀ (K : PySem.W.Frag) (H : Hp) (a : Addr) (ns : List Int), ns.length ≤ n →
      (∀ z ∈ ns, Builtin.Int.intBits z ≤ 1048576) → Only H → SqL K H a (ns.map V.int) →
      sp K [.ref a] H (fun v _ => v = .bl true) fun _ _ _ => False) :
    PySem.W.WalkO q loose XP YP l.row.toRowW d [] (fun f vs => PySem.call f vs) := by
  refine Att.attach_callB hn hdf ?_
  intro w s0 s1 mg mb fa o pm cd doc a vs ns T Y ho hd hcd hmg hobj hints hlen hbits hg
  have kin := hY w _ Y
  obtain ⟨fd, hb, hF⟩ := F w mg fa _ kin T.T.g hmg
  exact lawG kin T.T.g T.T.b T.T.builtins T.T.nolimit hg hobj hints (Nat.le_trans hlen hn2)
    ⟨hr, rfl⟩ hF hb (fun H hO hS => hsp _ H a ns hlen hbits hO hS)
end G
namespace G
open PySem PySem.Spec PyProof.Rows L2

/-! ### repr of data -/

mutual
def cw : PyData → Nat
  | .none => 4
  | .bool _ => 5
  | .int _ => 1930
  | .str x => 10 * x.length + 4
  | .list xs => cws xs + 2
  | .tuple xs => cws xs + 2
  | .dict _ => 0
def cws : List PyData → Nat
  | [] => 0
  | x :: xs => cw x + 2 + cws xs
end
mutual
/-- it may be shown: ints of few bits, texts of plain signs, no dict -/
def shw : PyData → Bool
  | .none => true
  | .bool _ => true
  | .int i => decide (i.natAbs.log2 < 1920)
  | .str x => x.cps.toList.all fun c => decide (c < 16 ^ 8)
  | .list xs => shws xs
  | .tuple xs => shws xs
  | .dict _ => false
def shws : List PyData → Bool
  | [] => true
  | x :: xs => shw x && shws xs
end
theorem list_text (ts : List Str) : (listText ts).length ≤ piled ts + 2 := by
  unfold listText
  rw [strLen_append]
  have e1 : (("[" : Str)).length = 1 := by decide +kernel
  have e2 : (("]" : Str)).length = 1 := by decide +kernel
  cases ts with
  | nil =>
    show (("[" : Str)).length + (("]" : Str)).length ≤ _
    omega
  | cons t r =>
    have q := textFrom_length_pos r 1 (("[" : Str) ++ (if 0 > 0 then ", " else "" : String) ++ t) (by decide)
    have e3 : ((if 0 > 0 then ", " else "" : String) : Str).length = 0 := by decide +kernel
    have q2 : (textFrom 0 "[" (t :: r)).length = (("[" : Str) ++ (if 0 > 0 then ", " else "" : String) ++ t).length + piled r := q
    rw [q2, strLen_append, strLen_append, piled_cons]
    omega
mutual
theorem shown_len : ∀ d : PyData, shw d = true → d.shown.length ≤ cw d
  | .none, _ => by simp only [PyData.shown, cw]; decide +kernel
  | .bool b, _ => by cases b <;> (simp only [PyData.shown, cw]; decide +kernel)
  | .int i, h => by
    simp only [shw, decide_eq_true_eq] at h
    simp only [PyData.shown, cw]
    have q := int_text_length_le (a := i) (k := 1920) (by decide) h
    rw [PySem.ofString_length]
    omega
  | .str x, h => by
    simp only [shw, List.all_eq_true, decide_eq_true_eq] at h
    simp only [PyData.shown, cw]
    have q := StrLaws.reprText_len x h
    omega
  | .list xs, h => by
    simp only [shw] at h
    simp only [PyData.shown, cw]
    exact Nat.le_trans (list_text _) (Nat.add_le_add_right (shown_lens xs h) 2)
  | .tuple xs, h => by
    simp only [shw] at h
    simp only [PyData.shown, cw]
    exact Nat.le_trans (fmt_text _) (Nat.add_le_add_right (shown_lens xs h) 2)
  | .dict _, h => by simp only [shw] at h; cases h
theorem shown_lens : ∀ ds : List PyData, shws ds = true → piled (PyData.shownAll ds) ≤ cws ds
  | [], _ => Nat.zero_le _
  | d :: ds, h => by
    simp only [shws, Bool.and_eq_true] at h
    simp only [PyData.shownAll, cws, piled_cons]
    have q1 := shown_len d h.1
    have q2 := shown_lens ds h.2
    omega
end
mutual
theorem shw_showable : ∀ d : PyData, shw d = true → d.showable = true ∧ d.hasDict = false
  | .none, _ => ⟨rfl, rfl⟩
  | .bool _, _ => ⟨rfl, rfl⟩
  | .int i, h => ⟨by simpa only [shw, PyData.showable] using h, rfl⟩
  | .str x, _ => ⟨rfl, rfl⟩
  | .list xs, h => by
    simp only [shw] at h
    simpa only [PyData.showable, PyData.hasDict] using shws_showable xs h
  | .tuple xs, h => by
    simp only [shw] at h
    simpa only [PyData.showable, PyData.hasDict] using shws_showable xs h
  | .dict _, h => by simp only [shw] at h; cases h
theorem shws_showable : ∀ ds : List PyData, shws ds = true →
    PyData.showableAll ds = true ∧ PyData.hasDictAll ds = false
  | [], _ => ⟨rfl, rfl⟩
  | d :: ds, h => by
    simp only [shws, Bool.and_eq_true] at h
    obtain ⟨a, b⟩ := shw_showable d h.1
    obtain ⟨e, f⟩ := shws_showable ds h.2
    simp only [PyData.showableAll, PyData.hasDictAll, a, b, e, f]
    exact ⟨rfl, rfl⟩
end
/-- repr(x), x data -/
def rRepr (K : PySem.W.Frag) : List V → Hp → VK → Prop := fun xs H Q =>
  ∃ x d, xs = [x] ∧ Dp K H x d ∧ shw d = true ∧ d.depth ≤ 60 ∧ cw d ≤ sizeLine ∧ Q (.str d.shown) H
theorem call_repr {X : Cx} (hg : X.A.guards = some []) (hu : X.A.units + 64 < cLine) :
    CallR X (.builtin "repr") (rRepr X.K) := by
  intro pins s σ H vs us Q I rv h
  obtain ⟨x, d, rfl, hd, hs, hdp, hz, q⟩ := h
  obtain ⟨hs1, hs2⟩ := shw_showable d hs
  have hz2 := Nat.le_trans (shown_len d hs) hz
  cases rv with
  | cons r rn =>
    cases rn
    obtain ⟨as, hr⟩ := Dp.reads I d _ _ hd r
    cases hr with
    | none => exact PySem.P.repr_of_none ⟨.str _, H, I.tok _, ⟨_, rfl⟩, q⟩
    | bool b => exact PySem.P.repr_of_bool ⟨.str _, H, I.tok _, ⟨_, rfl⟩, q⟩
    | int i t =>
      refine PySem.P.repr_of_int ?_ ⟨.str _, H, I.tok _, ⟨_, rfl⟩, q⟩
      first | exact hs | simpa only [shw, decide_eq_true_eq] using hs
    | str y t => exact PySem.P.repr_of_str ⟨.str _, H, I.tok _, ⟨_, rfl⟩, q⟩ hz2
    | list h1 h2 h3 h4 =>
      refine repr_of_reads' (Reads.list h1 h2 h3 h4) hs1 (fun y => by rw [hs2] at y; cases y) hg
        (by omega) (fun _ _ e => e) (fun h' u tk hk => ?_) hz2
      exact ⟨.str _, H, I.kept hk, ⟨_, rfl⟩, q⟩
    | tuple h1 h2 h3 h4 =>
      refine repr_of_reads' (Reads.tuple h1 h2 h3 h4) hs1 (fun y => by rw [hs2] at y; cases y) hg
        (by omega) (fun _ _ e => e) (fun h' u tk hk => ?_) hz2
      exact ⟨.str _, H, I.kept hk, ⟨_, rfl⟩, q⟩
    | dict h1 h2 h3 h4 h5 => simp only [PyData.hasDict] at hs2; cases hs2
end G
namespace G
open PySem PySem.Spec PyProof.Rows L2

/-! ### heaps: what is kept -/
/-- x is not yet tracked -/
structure Fr (H : Hp) (x : Addr) : Prop where
  e : H x = none
theorem fr_ne {H : Hp} {a b : Addr} {o : HO} (h : H a = some o) (f : Fr H b) : a ≠ b := ne_of_none h f.e
/-- what nothing changes -/
def Fix : HO → Prop
  | .tup _ => True
  | .frz _ _ => True
  | _ => False
/-- all that H tracks is as it was, but perhaps what stands at ws -/
structure Kp (ws : List Addr) (H H' : Hp) : Prop where
  at_ : ∀ a u, H a = some u → a ∉ ws → H' a = some u
  fix : ∀ a u, H a = some u → Fix u → H' a = some u
  dom : ∀ a u, H a = some u → ∃ v, H' a = some v
section
variable {ws us : List Addr} {H H1 H2 : Hp} {p : Addr} {o u : HO}
theorem Kp.refl : Kp ws H H := ⟨fun _ _ h _ => h, fun _ _ h _ => h, fun _ u h => ⟨u, h⟩⟩
theorem Kp.trans (a : Kp ws H H1) (b : Kp ws H1 H2) : Kp ws H H2 :=
  ⟨fun c u h n => b.at_ c u (a.at_ c u h n) n, fun c u h f => b.fix c u (a.fix c u h f) f,
    fun c u h => let ⟨v, e⟩ := a.dom c u h; b.dom c v e⟩
theorem Kp.mono (a : Kp ws H H1) (h : ∀ b ∈ ws, b ∈ us) : Kp us H H1 :=
  ⟨fun c u e n => a.at_ c u e fun q => n (h c q), a.fix, a.dom⟩
theorem Kp.wide (a : Kp [] H H1) : Kp ws H H1 := a.mono fun b h => (nomatch h)
theorem Kp.free (a : Kp ws H H1) (f : Fr H1 p) : Fr H p := by
  have h := f.e
  constructor
  cases q : H p with
  | none => rfl
  | some u =>
    obtain ⟨v, e⟩ := a.dom p u q
    rw [h] at e
    cases e
theorem Kp.new (f : Fr H p) : Kp ws H (upd H p o) := by
  have h := f.e
  have k : ∀ a u, H a = some u → upd H p o a = some u := fun a u e => by
    rw [upd_ne (ne_of_none e h)]
    exact e
  exact ⟨fun a u e _ => k a u e, fun a u e _ => k a u e, fun a u e => ⟨u, k a u e⟩⟩
/-- what H does not know may be written -/
theorem Kp.upd (a : Kp ws H H1) (f : Fr H p) : Kp ws H (upd H1 p o) := by
  have h := f.e
  have k : ∀ b u, H b = some u → L2.upd H1 p o b = H1 b := fun b u e => upd_ne (ne_of_none e h)
  exact ⟨fun b u e n => (k b u e).trans (a.at_ b u e n), fun b u e f => (k b u e).trans (a.fix b u e f),
    fun b u e => let ⟨v, q⟩ := a.dom b u e; ⟨v, (k b u e).trans q⟩⟩
theorem Kp.mut (h : H p = some u) (nf : ¬ Fix u) (hp : p ∈ ws) : Kp ws H (L2.upd H p o) := by
  refine ⟨fun a v e n => ?_, fun a v e f => ?_, fun a v e => ?_⟩
  · rw [upd_ne (fun (q : a = p) => n (by rw [q]; exact hp))]
    exact e
  · have q : a ≠ p := by
      intro q
      subst q
      rw [h] at e
      cases e
      exact nf f
    rw [upd_ne q]
    exact e
  · by_cases q : a = p
    · exact ⟨o, by rw [q, upd_same]⟩
    · exact ⟨v, by rw [upd_ne q]; exact e⟩
theorem Kp.upm {ys : List V} (a : Kp ws H H1) (h : H1 p = some (.lst ys)) (hp : p ∈ ws) :
    Kp ws H (L2.upd H1 p o) := a.trans (Kp.mut h (fun z => z) hp)
/-- what H does not know need not be named -/
theorem Kp.drop (a : Kp (p :: ws) H H1) (f : Fr H p) : Kp ws H H1 :=
  have h := f.e
  ⟨fun b u e n => a.at_ b u e (fun q => (List.mem_cons.mp q).elim (fun z => by
    rw [z, h] at e
    cases e) n), a.fix, a.dom⟩
theorem Kp.dropAll (a : Kp us H H1) (h : ∀ b ∈ us, b ∈ ws ∨ Fr H b) : Kp ws H H1 :=
  ⟨fun b u e n => a.at_ b u e (fun q => (h b q).elim n (fun z => by
    rw [z.e] at e
    cases e)), a.fix, a.dom⟩
theorem Kp.seqL {K : PySem.W.Frag} {l : Addr} {xs : List V} (a : Kp ws H H1) (n : l ∉ ws)
    (h : SqL K H l xs) : SqL K H1 l xs := by
  rcases h with (h | ⟨o, h⟩) | h
  · exact .inl (.inl (a.at_ _ _ h n))
  · exact .inl (.inr ⟨o, a.fix _ _ h trivial⟩)
  · exact .inr h
theorem Kp.seqT {K : PySem.W.Frag} {l : Addr} {xs : List V} (a : Kp ws H H1)
    (h : SqT K H l xs) : SqT K H1 l xs := by
  rcases h with (h | ⟨o, h⟩) | h
  · exact .inl (.inl (a.fix _ _ h trivial))
  · exact .inl (.inr ⟨o, a.fix _ _ h trivial⟩)
  · exact .inr h
end
mutual
/-- data that nothing changes: no list, no dict -/
def imm : PyData → Bool
  | .none => true
  | .bool _ => true
  | .int _ => true
  | .str _ => true
  | .tuple xs => imms xs
  | .list _ => false
  | .dict _ => false
def imms : List PyData → Bool
  | [] => true
  | x :: xs => imm x && imms xs
end
section
variable {K : PySem.W.Frag} {ws : List Addr} {H H1 : Hp}
mutual
theorem dp_imm (k : Kp ws H H1) : ∀ (d : PyData) (v : V), imm d = true → Dp K H v d → Dp K H1 v d
  | .none, _, _, h => by cases h; exact .non
  | .bool b, _, _, h => by cases h; exact .bl b
  | .int i, _, _, h => by cases h; exact .int i
  | .str x, _, _, h => by cases h; exact .str x
  | .tuple ds, _, hi, h => by
    cases h with
    | tup hs ha => exact .tup (k.seqT hs) (dpa_imm k ds _ (by simpa only [G.imm] using hi) ha)
  | .list _, _, hi, _ => by simp only [G.imm] at hi; cases hi
  | .dict _, _, hi, _ => by simp only [G.imm] at hi; cases hi
theorem dpa_imm (k : Kp ws H H1) : ∀ (ds : List PyData) (vs : List V), imms ds = true →
    DpAll K H vs ds → DpAll K H1 vs ds
  | [], _, _, h => by cases h; exact .nil
  | d :: ds, _, hi, h => by
    simp only [imms, Bool.and_eq_true] at hi
    cases h with
    | cons h1 h2 => exact .cons (dp_imm k d _ hi.1 h1) (dpa_imm k ds _ hi.2 h2)
end
theorem dpa_len : ∀ {ds : List PyData} {vs : List V}, DpAll K H vs ds → vs.length = ds.length
  | [], _, h => by cases h; rfl
  | _ :: ds, _, h => by
    cases h with
    | cons _ h2 => rw [List.length_cons, List.length_cons, dpa_len h2]
theorem dpa_app : ∀ {ds es : List PyData} {vs ys : List V}, DpAll K H vs ds → DpAll K H ys es →
    DpAll K H (vs ++ ys) (ds ++ es)
  | [], _, _, _, h, g => by cases h; exact g
  | _ :: _, _, _, _, h, g => by
    cases h with
    | cons h1 h2 => exact .cons h1 (dpa_app h2 g)
theorem dpa_get : ∀ {ds : List PyData} {vs : List V} {i : Nat} {d : PyData}, DpAll K H vs ds →
    ds[i]? = some d → ∃ v, vs[i]? = some v ∧ Dp K H v d
  | [], _, _, _, _, e => by simp at e
  | _ :: _, _, 0, _, h, e => by
    cases h with
    | cons h1 h2 =>
      simp at e
      subst e
      exact ⟨_, rfl, h1⟩
  | _ :: _, _, i + 1, _, h, e => by
    cases h with
    | cons h1 h2 =>
      obtain ⟨v, q, r⟩ := dpa_get (i := i) h2 (by simpa using e)
      exact ⟨v, by simpa using q, r⟩
theorem dpa_getV : ∀ {ds : List PyData} {vs : List V} {i : Nat} {v : V}, DpAll K H vs ds →
    vs[i]? = some v → ∃ d, ds[i]? = some d ∧ Dp K H v d
  | [], _, _, _, h, e => by cases h; simp at e
  | _ :: _, _, 0, _, h, e => by
    cases h with
    | cons h1 h2 =>
      simp at e
      subst e
      exact ⟨_, rfl, h1⟩
  | _ :: _, _, i + 1, _, h, e => by
    cases h with
    | cons h1 h2 =>
      obtain ⟨d, q, r⟩ := dpa_getV (i := i) h2 (by simpa using e)
      exact ⟨d, by simpa using q, r⟩
theorem dpa_set : ∀ {ds : List PyData} {vs : List V} {i : Nat} {v : V} {d : PyData},
    DpAll K H vs ds → Dp K H v d → DpAll K H (vs.set i v) (ds.set i d)
  | [], _, _, _, _, h, _ => by cases h; exact .nil
  | _ :: _, _, 0, _, _, h, g => by
    cases h with
    | cons h1 h2 => exact .cons g h2
  | _ :: _, _, i + 1, _, _, h, g => by
    cases h with
    | cons h1 h2 => exact .cons h1 (dpa_set h2 g)
theorem dpa_take : ∀ {ds : List PyData} {vs : List V} (i : Nat),
    DpAll K H vs ds → DpAll K H (vs.take i) (ds.take i)
  | [], _, _, h => by cases h; simp; exact .nil
  | _ :: _, _, 0, h => by simp; exact .nil
  | _ :: _, _, i + 1, h => by
    cases h with
    | cons h1 h2 => exact .cons h1 (dpa_take i h2)
theorem dpa_drop : ∀ {ds : List PyData} {vs : List V} (i : Nat),
    DpAll K H vs ds → DpAll K H (vs.drop i) (ds.drop i)
  | [], _, _, h => by cases h; simp; exact .nil
  | _ :: _, _, 0, h => by simpa using h
  | _ :: _, _, i + 1, h => by
    cases h with
    | cons h1 h2 => exact dpa_drop i h2
theorem dpa_one {v : V} {d : PyData} (h : Dp K H v d) : DpAll K H [v] [d] := .cons h .nil
/-- a tuple of two ints -/
abbrev d2 (p : Int × Int) : PyData := .tuple [.int p.1, .int p.2]
theorem dp_pair {v : V} {p : Int × Int} (h : Dp K H v (d2 p)) :
    ∃ a, v = .ref a ∧ SqT K H a [.int p.1, .int p.2] := by
  cases h with
  | tup hs ha =>
    cases ha with
    | cons h1 h2 =>
      cases h2 with
      | cons h3 h4 =>
        cases h4
        cases h1
        cases h3
        exact ⟨_, rfl, hs⟩
theorem dp_mk2 {a : Addr} {m n : Int} (h : SqT K H a [.int m, .int n]) :
    Dp K H (.ref a) (d2 (m, n)) := .tup h (.cons (.int m) (.cons (.int n) .nil))
theorem imms_d2 : ∀ l : List (Int × Int), imms (l.map d2) = true
  | [] => rfl
  | _ :: l => by
    simp only [List.map_cons, imms, G.imm, imms_d2 l]
    rfl
/-- a list of our own, of data that nothing changes -/
def LD (K : PySem.W.Frag) (H : Hp) (l : Addr) (ds : List PyData) : Prop :=
  ∃ vs, H l = some (.lst vs) ∧ DpAll K H vs ds
theorem LD.dp {l : Addr} {ds : List PyData} (h : LD K H l ds) : Dp K H (.ref l) (.list ds) := by
  obtain ⟨vs, e, q⟩ := h
  exact .lst (SqL.of e) q
theorem LD.kp {l : Addr} {ds : List PyData} (h : LD K H l ds) (k : Kp ws H H1) (hi : imms ds = true)
    (n : l ∉ ws) : LD K H1 l ds := by
  obtain ⟨vs, e, q⟩ := h
  exact ⟨vs, k.at_ _ _ e n, dpa_imm k _ _ hi q⟩
theorem LD.some {l : Addr} {ds : List PyData} (h : LD K H l ds) : H l ≠ none := by
  obtain ⟨vs, e, q⟩ := h
  rw [e]
  exact fun y => nomatch y
end
end G
namespace G
open PySem PySem.Spec PyProof.Rows L2

/-! ### one rule for several kinds of values -/
theorem orR {X : Cx} {f : Value → Value → Sem Value} {r r' : R2} (h : OpR X f r) (h' : OpR X f r') :
    OpR X f (fun x y H Q => r x y H Q ∨ r' x y H Q) := by
  intro pins s σ H x y v u Q I rx ry q
  cases q with
  | inl q => exact h pins s σ H x y v u Q I rx ry q
  | inr q => exact h' pins s σ H x y v u Q I rx ry q
theorem orC {X : Cx} {f : Value} {r r' : List V → Hp → VK → Prop} (h : CallR X f r)
    (h' : CallR X f r') : CallR X f (fun xs H Q => r xs H Q ∨ r' xs H Q) := by
  intro pins s σ H xs us Q I rx q
  cases q with
  | inl q => exact h pins s σ H xs us Q I rx q
  | inr q => exact h' pins s σ H xs us Q I rx q
def uAdd (K : PySem.W.Frag) : R2 := fun x y H Q => rI0 (fun i j => .int (i + j)) x y H Q ∨
  (∃ i j, x = .str i ∧ y = .str j ∧ i.length + j.length ≤ sizeLine ∧ Q (.str (i ++ j)) H) ∨
  rCat x y H Q ∨ rCatT K x y H Q
def uMul : R2 := fun x y H Q => rI CMul (fun i j => .int (i * j)) x y H Q ∨
  rI CMulW (fun i j => .int (i * j)) x y H Q ∨ rRep x y H Q
def uEq (K : PySem.W.Frag) : R2 := fun x y H Q => rEq x y H Q ∨ rEqD K x y H Q
def uNe (K : PySem.W.Frag) : R2 := fun x y H Q => rNe x y H Q ∨ rNeD K x y H Q
def uIx (K : PySem.W.Frag) : R2 := fun x y H Q => rIxL K x y H Q ∨ rIxT K x y H Q ∨ rIxS x y H Q
def uLen (K : PySem.W.Frag) : List V → Hp → VK → Prop := fun xs H Q =>
  (∃ p ys, xs = [.ref p] ∧ (SqL K H p ys ∨ SqT K H p ys) ∧ Q (.int ys.length) H) ∨
  (∃ z, xs = [.str z] ∧ z.length ≤ sizeLine ∧ Q (.int z.length) H)
section
variable {X : Cx}
theorem o_add : OpR X (binaryOp .Add) (uAdd X.K) := orR op_add (orR op_add_str (orR op_cat op_catT))
theorem o_mul : OpR X (binaryOp .Mult) uMul := orR op_mul (orR op_mulW op_rep)
theorem o_eq (hu : X.A.units + 64 < cLine) : OpR X (compareOp .Eq) (uEq X.K) := orR op_eq (op_eqD hu)
theorem o_ne (hu : X.A.units + 64 < cLine) : OpR X (compareOp .NotEq) (uNe X.K) := orR op_ne (op_neD hu)
theorem o_ix : IxR X (uIx X.K) := ix_list.or (ix_tup.or ix_str)
theorem c_len : CallR X (.builtin "len") (uLen X.K) := orC call_len_seq call_len_str
end

/-! ### readings from the front -/
section
variable {K : PySem.W.Frag} {σ : L2.St} {H : Hp} {Q : VK} {D : Ends} {t1 t2 : TS} {te ta tb tc : TE}
variable {i j : Nat} {v x y : V} {c u : TT} {tr : TA} {n m : Int} {b : Bool} {p : Addr}
variable {QB : Bool → Hp → Prop} {QA : List V → Hp → Prop} {xs : List V}
theorem i_seq (h : t1 { D with nx := t2 D } σ H) : tSeq t1 t2 D σ H := h
instance red_i_seq  : Red (tSeq t1 t2 D σ H) (t1 { D with nx := t2 D } σ H) := ⟨i_seq⟩
theorem i_next (h : D.nx σ H) : tNext D σ H := h
instance red_i_next  : Red (tNext D σ H) (D.nx σ H) := ⟨i_next⟩
theorem i_set (h : te σ H fun x H1 => D.nx (σ.set i (some x)) H1) : tAsg te (gName i) D σ H := h
instance red_i_set  : Red (tAsg te (gName i) D σ H) (te σ H fun x H1 => D.nx (σ.set i (some x)) H1) := ⟨i_set⟩
theorem i_asg {g : TG} (h : te σ H fun x H1 => g x σ H1 D.nx) : tAsg te g D σ H := h
instance (priority := 900) red_i_asg {g : TG} : Red (tAsg te g D σ H) (te σ H fun x H1 => g x σ H1 D.nx) := ⟨i_asg⟩
theorem i_drop (h : te σ H fun _ H1 => D.nx σ H1) : tDrop te D σ H := h
instance red_i_drop  : Red (tDrop te D σ H) (te σ H fun _ H1 => D.nx σ H1) := ⟨i_drop⟩
theorem i_ret (h : te σ H D.rt) : tRet te D σ H := h
instance red_i_ret  : Red (tRet te D σ H) (te σ H D.rt) := ⟨i_ret⟩
theorem i_retN (h : D.rt .non H) : tRetN D σ H := h
instance red_i_retN  : Red (tRetN D σ H) (D.rt .non H) := ⟨i_retN⟩
theorem i_brk (h : D.bk σ H) : tBreak D σ H := h
instance red_i_brk  : Red (tBreak D σ H) (D.bk σ H) := ⟨i_brk⟩
theorem i_cont (h : D.ct σ H) : tCont D σ H := h
instance red_i_cont  : Red (tCont D σ H) (D.ct σ H) := ⟨i_cont⟩
theorem i_ifS (h : c σ H fun b H1 => if b = true then t1 D σ H1 else t2 D σ H1) : tIfS c t1 t2 D σ H := h
instance red_i_ifS  : Red (tIfS c t1 t2 D σ H) (c σ H fun b H1 => if b = true then t1 D σ H1 else t2 D σ H1) := ⟨i_ifS⟩
theorem i_aug {ti : TIp} (e : σ[i]? = some (some x))
    (h : te σ H fun y H1 => ti x y H1 fun z H2 => D.nx (σ.set i (some z)) H2) : tAug i te ti D σ H := ⟨x, e, h⟩
theorem i_ipI {f : Int → Int → Int} (h : Q (.int (f n m)) H) : ipI f (.int n) (.int m) H Q := ⟨n, m, rfl, rfl, h⟩
instance red_i_ipI {f : Int → Int → Int} : Red (ipI f (.int n) (.int m) H Q) (Q (.int (f n m)) H) := ⟨i_ipI⟩
theorem i_par {i j : Nat} {tt : TA}
    (h : tt σ H fun vs H1 => ∃ v w, vs = [v, w] ∧ D.nx ((σ.set i (some v)).set j (some w)) H1) :
    tPar i j tt D σ H := h
instance red_i_par {i j : Nat} {tt : TA} : Red (tPar i j tt D σ H) (tt σ H fun vs H1 => ∃ v w, vs = [v, w] ∧ D.nx ((σ.set i (some v)).set j (some w)) H1) := ⟨i_par⟩
theorem i_two {P : V → V → Prop} (h : P x y) : ∃ v w, [x, y] = [v, w] ∧ P v w := ⟨x, y, rfl, h⟩

instance red_i_two {P : V → V → Prop} : Red (∃ v w, [x, y] = [v, w] ∧ P v w) (P x y) := ⟨i_two⟩
theorem i_var (e : σ[i]? = some (some v)) (h : Q v H) : tVar i σ H Q := ⟨v, e, h⟩
theorem i_c (h : Q v H) : tC v σ H Q := h
instance red_i_c  : Red (tC v σ H Q) (Q v H) := ⟨i_c⟩
theorem i_op {r : R2} (h : ta σ H fun x H1 => tb σ H1 fun y H2 => r x y H2 Q) : tOp r ta tb σ H Q := h
instance red_i_op {r : R2} : Red (tOp r ta tb σ H Q) (ta σ H fun x H1 => tb σ H1 fun y H2 => r x y H2 Q) := ⟨i_op⟩
theorem i_un {r : V → Hp → VK → Prop} (h : ta σ H fun x H1 => r x H1 Q) : tUn r ta σ H Q := h
instance red_i_un {r : V → Hp → VK → Prop} : Red (tUn r ta σ H Q) (ta σ H fun x H1 => r x H1 Q) := ⟨i_un⟩
theorem i_I0 {g : Int → Int → V} (h : Q (g n m) H) : rI0 g (.int n) (.int m) H Q := ⟨n, m, rfl, rfl, h⟩
instance red_i_I0 {g : Int → Int → V} : Red (rI0 g (.int n) (.int m) H Q) (Q (g n m) H) := ⟨i_I0⟩
theorem i_I {g : Int → Int → V} {C : Int → Int → Prop} (hc : C n m) (h : Q (g n m) H) :
    rI C g (.int n) (.int m) H Q := ⟨n, m, rfl, rfl, hc, h⟩
theorem i_U {g : Int → V} (h : Q (g n) H) : rU g (.int n) H Q := ⟨n, rfl, h⟩
instance red_i_U {g : Int → V} : Red (rU g (.int n) H Q) (Q (g n) H) := ⟨i_U⟩
theorem i_addI (h : Q (.int (n + m)) H) : uAdd K (.int n) (.int m) H Q := .inl ⟨n, m, rfl, rfl, h⟩
instance red_i_addI  : Red (uAdd K (.int n) (.int m) H Q) (Q (.int (n + m)) H) := ⟨i_addI⟩
theorem i_addS {z w : Str} (hz : z.length + w.length ≤ sizeLine) (h : Q (.str (z ++ w)) H) :
    uAdd K (.str z) (.str w) H Q := .inr (.inl ⟨z, w, rfl, rfl, hz, h⟩)
theorem i_mulI (hc : CMul n m) (h : Q (.int (n * m)) H) : uMul (.int n) (.int m) H Q :=
  .inl ⟨n, m, rfl, rfl, hc, h⟩
theorem i_mulW (hc : CMulW n m) (h : Q (.int (n * m)) H) : uMul (.int n) (.int m) H Q :=
  .inr (.inl ⟨n, m, rfl, rfl, hc, h⟩)
theorem i_eqI (h : Q (.bl (decide (n = m))) H) : uEq K (.int n) (.int m) H Q := by
  refine .inl ⟨rfl, ?_⟩
  have e : decide (V.int n = V.int m) = decide (n = m) := by
    rw [Bool.eq_iff_iff]
    simp
  rw [e]
  exact h
instance red_i_eqI  : Red (uEq K (.int n) (.int m) H Q) (Q (.bl (decide (n = m))) H) := ⟨i_eqI⟩
theorem i_neI (h : Q (.bl (!decide (n = m))) H) : uNe K (.int n) (.int m) H Q := by
  refine .inl ⟨rfl, ?_⟩
  have e : decide (V.int n = V.int m) = decide (n = m) := by
    rw [Bool.eq_iff_iff]
    simp
  rw [e]
  exact h
instance red_i_neI  : Red (uNe K (.int n) (.int m) H Q) (Q (.bl (!decide (n = m))) H) := ⟨i_neI⟩
theorem i_eqS {z w : Str} (h : Q (.bl (decide (z = w))) H) : uEq K (.str z) (.str w) H Q := by
  refine .inl ⟨rfl, ?_⟩
  have e : decide (V.str z = V.str w) = decide (z = w) := by
    rw [Bool.eq_iff_iff]
    simp
  rw [e]
  exact h
instance red_i_eqS {z w : Str} : Red (uEq K (.str z) (.str w) H Q) (Q (.bl (decide (z = w))) H) := ⟨i_eqS⟩
theorem i_neS {z w : Str} (h : Q (.bl (!decide (z = w))) H) : uNe K (.str z) (.str w) H Q := by
  refine .inl ⟨rfl, ?_⟩
  have e : decide (V.str z = V.str w) = decide (z = w) := by
    rw [Bool.eq_iff_iff]
    simp
  rw [e]
  exact h
instance red_i_neS {z w : Str} : Red (uNe K (.str z) (.str w) H Q) (Q (.bl (!decide (z = w))) H) := ⟨i_neS⟩
theorem i_eqD {d e : PyData} (hd : Dp K H x d) (he : Dp K H y e) (sd : SeqAt.shaped d = true)
    (se : SeqAt.shaped e = true) (h : Q (.bl (PyData.eqv d e)) H) : uEq K x y H Q :=
  .inr ⟨d, e, hd, he, sd, se, h⟩
theorem i_neD {d e : PyData} (hd : Dp K H x d) (he : Dp K H y e) (sd : SeqAt.shaped d = true)
    (se : SeqAt.shaped e = true) (h : Q (.bl (!PyData.eqv d e)) H) : uNe K x y H Q :=
  .inr ⟨d, e, hd, he, sd, se, h⟩
theorem i_ixL (hs : SqL K H p xs) (ha : atI xs n = some v) (h : Q v H) :
    uIx K (.ref p) (.int n) H Q := .inl ⟨p, xs, n, v, rfl, rfl, hs, ha, h⟩
theorem i_ixT (hs : SqT K H p xs) (ha : atI xs n = some v) (h : Q v H) :
    uIx K (.ref p) (.int n) H Q := .inr (.inl ⟨p, xs, n, v, rfl, rfl, hs, ha, h⟩)
theorem i_lenL (hs : SqL K H p xs) (h : Q (.int xs.length) H) : uLen K [.ref p] H Q :=
  .inl ⟨p, xs, rfl, .inl hs, h⟩
theorem i_lenT (hs : SqT K H p xs) (h : Q (.int xs.length) H) : uLen K [.ref p] H Q :=
  .inl ⟨p, xs, rfl, .inr hs, h⟩
theorem i_lenS {z : Str} (hz : z.length ≤ sizeLine) (h : Q (.int z.length) H) : uLen K [.str z] H Q :=
  .inr ⟨z, rfl, hz, h⟩

theorem i_test (h : te σ H fun x H1 => ∃ k, x = .bl k ∧ QB k H1) : tTest te σ H QB := h
instance red_i_test  : Red (tTest te σ H QB) (te σ H fun x H1 => ∃ k, x = .bl k ∧ QB k H1) := ⟨i_test⟩
theorem i_B (h : te σ H fun x H1 => ∃ k, x = .bl k ∧ QB k H1) : tB te σ H QB := h
instance red_i_B  : Red (tB te σ H QB) (te σ H fun x H1 => ∃ k, x = .bl k ∧ QB k H1) := ⟨i_B⟩
theorem i_bl {P : Bool → Prop} (h : P b) : ∃ k, V.bl b = .bl k ∧ P k := ⟨b, rfl, h⟩
instance red_i_bl {P : Bool → Prop} : Red (∃ k, V.bl b = .bl k ∧ P k) (P b) := ⟨i_bl⟩
theorem i_and (h : c σ H fun b H1 => if b = true then u σ H1 QB else QB false H1) : tAnd c u σ H QB := h
instance red_i_and  : Red (tAnd c u σ H QB) (c σ H fun b H1 => if b = true then u σ H1 QB else QB false H1) := ⟨i_and⟩
theorem i_or (h : c σ H fun b H1 => if b = true then QB true H1 else u σ H1 QB) : tOr c u σ H QB := h
instance red_i_or  : Red (tOr c u σ H QB) (c σ H fun b H1 => if b = true then QB true H1 else u σ H1 QB) := ⟨i_or⟩
theorem i_not (h : c σ H fun b H1 => QB (!b) H1) : tNot c σ H QB := h
instance red_i_not  : Red (tNot c σ H QB) (c σ H fun b H1 => QB (!b) H1) := ⟨i_not⟩
theorem i_andV (h : ta σ H fun x H1 => ∃ k, x = .bl k ∧ if k = true then tb σ H1 Q else Q (.bl false) H1) :
    tAndV ta tb σ H Q := h
instance red_i_andV  : Red (tAndV ta tb σ H Q) (ta σ H fun x H1 => ∃ k, x = .bl k ∧ if k = true then tb σ H1 Q else Q (.bl false) H1) := ⟨i_andV⟩
theorem i_orV (h : ta σ H fun x H1 => ∃ k, x = .bl k ∧ if k = true then Q (.bl true) H1 else tb σ H1 Q) :
    tOrV ta tb σ H Q := h
instance red_i_orV  : Red (tOrV ta tb σ H Q) (ta σ H fun x H1 => ∃ k, x = .bl k ∧ if k = true then Q (.bl true) H1 else tb σ H1 Q) := ⟨i_orV⟩
theorem i_notV (h : ta σ H fun x H1 => ∃ k, x = .bl k ∧ Q (.bl (!k)) H1) : tNotV ta σ H Q := h
instance red_i_notV  : Red (tNotV ta σ H Q) (ta σ H fun x H1 => ∃ k, x = .bl k ∧ Q (.bl (!k)) H1) := ⟨i_notV⟩
theorem i_ifE (h : c σ H fun b H1 => if b = true then ta σ H1 Q else tb σ H1 Q) : tIf c ta tb σ H Q := h
instance red_i_ifE  : Red (tIf c ta tb σ H Q) (c σ H fun b H1 => if b = true then ta σ H1 Q else tb σ H1 Q) := ⟨i_ifE⟩
theorem i_chain {r r' : R2} (h : ta σ H fun x H1 => tb σ H1 fun y H2 => r x y H2 fun z H3 =>
    ∃ k, z = .bl k ∧ if k = true then tc σ H3 fun w H4 => r' y w H4 Q else Q (.bl false) H3) :
    tChain r r' ta tb tc σ H Q := h
instance red_i_chain {r r' : R2} : Red (tChain r r' ta tb tc σ H Q) (ta σ H fun x H1 => tb σ H1 fun y H2 => r x y H2 fun z H3 =>
    ∃ k, z = .bl k ∧ if k = true then tc σ H3 fun w H4 => r' y w H4 Q else Q (.bl false) H3) := ⟨i_chain⟩
theorem i_nil (h : QA [] H) : tNil σ H QA := h
instance red_i_nil  : Red (tNil σ H QA) (QA [] H) := ⟨i_nil⟩
theorem i_cons (h : te σ H fun x H1 => tr σ H1 fun xs H2 => QA (x :: xs) H2) : tCons te tr σ H QA := h
instance red_i_cons  : Red (tCons te tr σ H QA) (te σ H fun x H1 => tr σ H1 fun xs H2 => QA (x :: xs) H2) := ⟨i_cons⟩
/-- for any new place -/
def New (H : Hp) (P : Addr → Prop) : Prop := ∀ p, H p = none → P p
theorem i_new {P : Addr → Prop} (h : ∀ p, Fr H p → P p) : New H P := fun p e => h p ⟨e⟩
theorem i_tup (h : tr σ H fun xs H1 => xs.length ≤ sizeLine ∧ New H1 fun p => Q (.ref p) (upd H1 p (.tup xs))) :
    tTup tr σ H Q := h
instance red_i_tup  : Red (tTup tr σ H Q) (tr σ H fun xs H1 => xs.length ≤ sizeLine ∧ New H1 fun p => Q (.ref p) (upd H1 p (.tup xs))) := ⟨i_tup⟩
theorem i_lst (h : tr σ H fun xs H1 => xs.length ≤ sizeLine ∧ New H1 fun p => Q (.ref p) (upd H1 p (.lst xs))) :
    tLst tr σ H Q := h
instance red_i_lst  : Red (tLst tr σ H Q) (tr σ H fun xs H1 => xs.length ≤ sizeLine ∧ New H1 fun p => Q (.ref p) (upd H1 p (.lst xs))) := ⟨i_lst⟩
theorem i_few {P : Prop} {n : Nat} (hn : n ≤ 1000) (h : P) : n ≤ sizeLine ∧ P :=
  ⟨Nat.le_trans hn (by decide), h⟩
theorem i_CB {r : List V → Hp → VK → Prop} (h : tr σ H fun vs H1 => r vs H1 Q) : tCB r tr σ H Q := h
instance red_i_CB {r : List V → Hp → VK → Prop} : Red (tCB r tr σ H Q) (tr σ H fun vs H1 => r vs H1 Q) := ⟨i_CB⟩
theorem i_call {sp : Sp} {dvs : List V} {E : XK} (h : tr σ H fun vs H1 => sp (vs ++ dvs) H1 Q E) :
    tCall sp dvs E tr σ H Q := h
instance (priority := 900) red_i_call {sp : Sp} {dvs : List V} {E : XK} : Red (tCall sp dvs E tr σ H Q) (tr σ H fun vs H1 => sp (vs ++ dvs) H1 Q E) := ⟨i_call⟩
theorem i_BM {T : String} {r : V → List V → Hp → VK → Prop}
    (h : te σ H fun x H1 => tyV K T x H1 ∧ tr σ H1 fun xs H2 => r x xs H2 Q) : tBM K T r te tr σ H Q := h
instance red_i_BM {T : String} {r : V → List V → Hp → VK → Prop} : Red (tBM K T r te tr σ H Q) (te σ H fun x H1 => tyV K T x H1 ∧ tr σ H1 fun xs H2 => r x xs H2 Q) := ⟨i_BM⟩
theorem i_BM0 {T : String} {r : V → List V → Hp → VK → Prop}
    (h : te σ H fun x H1 => tyV K T x H1 ∧ r x [] H1 Q) : tBM0 K T r te σ H Q := h
instance red_i_BM0 {T : String} {r : V → List V → Hp → VK → Prop} : Red (tBM0 K T r te σ H Q) (te σ H fun x H1 => tyV K T x H1 ∧ r x [] H1 Q) := ⟨i_BM0⟩
theorem i_tyL {P : Prop} (hs : SqL K H p xs) (h : P) : tyV K "list" (.ref p) H ∧ P :=
  ⟨.inl ⟨rfl, xs, hs⟩, h⟩
theorem i_app (hs : H p = some (.lst xs)) (hz : xs.length < sizeLine)
    (h : Q .non (upd H p (.lst (xs ++ [y])))) : rAppend (.ref p) [y] H Q := ⟨p, xs, y, rfl, rfl, hs, hz, h⟩
theorem i_repr {d : PyData} (hd : Dp K H x d) (hs : shw d = true) (hdp : d.depth ≤ 60)
    (hz : cw d ≤ sizeLine) (h : Q (.str d.shown) H) : rRepr K [x] H Q := ⟨x, d, rfl, hd, hs, hdp, hz, h⟩
theorem i_setL {S : Hp → Prop} {k : Nat} (hs : H p = some (.lst xs)) (hj : ixN xs.length n = some k)
    (h : S (upd H p (.lst (xs.set k v)))) : rSetL (.ref p) (.int n) v H S := ⟨p, xs, n, k, rfl, rfl, hs, hj, h⟩
theorem i_iList {R : It → Hp → Prop} (h : te σ H fun x H1 => ∃ a, x = .ref a ∧ (∃ xs, SqL K H1 a xs) ∧ R (Itl K a) H1) :
    iList K te σ H R := h
theorem i_For {wi : TI} {g : TG} (h : wi σ H fun J H1 => ∃ W : Nat → Nat → L2.St → Hp → Prop, (∃ m, W 0 m σ H1) ∧ ∀ i m σ H, W i m σ H →
    (J.stop i H ∧ D.nx σ H) ∨ (J.go i H ∧ ∃ Nx : L2.St → Hp → Prop, (∀ σ' H', Nx σ' H' → ∃ m', m' < m ∧ W (i + 1) m' σ' H') ∧
      ∀ x H', J.yld i H x H' → g x σ H' fun σ2 H2 => t1 { D with nx := Nx, ct := Nx, bk := D.nx } σ2 H2)) :
    tFor wi g t1 D σ H := h
theorem i_iteT {A B : Prop} (h : A) : if true = true then A else B := iteT h
instance red_i_iteT {A B : Prop} : Red (if true = true then A else B) (A) := ⟨i_iteT⟩
theorem i_iteF {A B : Prop} (h : B) : if false = true then A else B := iteF h
instance red_i_iteF {A B : Prop} : Red (if false = true then A else B) (B) := ⟨i_iteF⟩
theorem i_ntT {A B : Prop} (h : B) : if (!true) = true then A else B := iteF h
instance red_i_ntT {A B : Prop} : Red (if (!true) = true then A else B) (B) := ⟨i_ntT⟩
theorem i_ntF {A B : Prop} (h : A) : if (!false) = true then A else B := iteT h
instance red_i_ntF {A B : Prop} : Red (if (!false) = true then A else B) (A) := ⟨i_ntF⟩
theorem i_dec {p A B : Prop} [Decidable p] (h1 : p → A) (h2 : ¬ p → B) :
    if decide p = true then A else B := by
  by_cases h : p
  · rw [decide_eq_true h]
    exact iteT (h1 h)
  · rw [decide_eq_false h]
    exact iteF (h2 h)
theorem i_decN {p A B : Prop} [Decidable p] (h1 : ¬ p → A) (h2 : p → B) :
    if (!decide p) = true then A else B := by
  by_cases h : p
  · rw [decide_eq_true h]
    exact iteF (h2 h)
  · rw [decide_eq_false h]
    exact iteT (h1 h)
theorem i_boo {b : Bool} {A B : Prop} (h1 : b = true → A) (h2 : b = false → B) :
    if b = true then A else B := by
  cases b
  · exact iteF (h2 rfl)
  · exact iteT (h1 rfl)
end
section
variable {P : Program} {w : World} {K : PySem.W.Frag} {mg : Str → Option Value} {base : Heap}
/-- a def of the text, by its body -/
theorem okG {x qual : Str} {st : Stmt} {f : Addr} {fd : FuncData} {N ps : List Str} {k : Nat} {sp : Sp}
    (F : L2.Fun K x qual st f fd) (S : FnScope N ps (defScope st))
    (len : ∀ vs H Q E, sp vs H Q E → vs.length = ps.length)
    (hb : ∀ (cdv : Value) (A : Around) (outer : List Env) (s : Shared) (H : Hp) (vs : List V)
      (Q : VK) (E : XK), RoomG k (A.deeper (envOfC qual (defScope st) s.heap.objs.size f cdv)) →
      sp vs H Q E →
      ∃ t, PSs (cxOf (L2.CX P w) P w K mg base N qual (defScope st) f cdv A outer s H E) (defBody st) t ∧
        t { nx := fun _ H' => Q .non H', rt := Q } (start N vs) H) :
    FnG P w K mg base (k + 1) f fd ps sp := by
  obtain ⟨oc, od, kV, doc, pm, an, cdv, ct, osl, rfl, lk, hcd⟩ := F.ex
  exact FnG.body lk hcd S len fun A outer s H vs Q E z h => hb cdv A outer s H vs Q E z h
end
end G
namespace G
open PySem PySem.Spec PyProof.Rows L2
section
variable {K : PySem.W.Frag} {σ : L2.St} {H : Hp} {Q : VK} {D : Ends} {tb : TS} {te : TE} {g : TG}
variable {a p q l : Addr} {xs vs : List V} {v x y : V} {ds : List PyData} {S : L2.St → Hp → Prop}
theorem st_1 {N : List Str} {a : V} : L2.start N [a] = some a :: List.replicate (N.length - 1) none := rfl
theorem st_2 {N : List Str} {a b : V} : L2.start N [a, b] = some a :: some b :: List.replicate (N.length - 2) none := rfl
theorem st_3 {N : List Str} {a b c : V} :
    L2.start N [a, b, c] = some a :: some b :: some c :: List.replicate (N.length - 3) none := rfl
theorem st_4 {N : List Str} {a b c d : V} : L2.start N [a, b, c, d] =
    some a :: some b :: some c :: some d :: List.replicate (N.length - 4) none := rfl
theorem st_5 {N : List Str} {a b c d e : V} : L2.start N [a, b, c, d, e] =
    some a :: some b :: some c :: some d :: some e :: List.replicate (N.length - 5) none := rfl
theorem st_6 {N : List Str} {a b c d e f : V} : L2.start N [a, b, c, d, e, f] =
    some a :: some b :: some c :: some d :: some e :: some f :: List.replicate (N.length - 6) none := rfl
theorem i_gTup {n : Nat} {t : TGs} (hs : SqT K H p xs) (hl : xs.length = n) (h : t xs σ H S) :
    gTup K n t (.ref p) σ H S := ⟨p, xs, rfl, hs, hl, h⟩
theorem i_gCons {t : TG} {u : TGs} (h : t v σ H fun σ' H' => u xs σ' H' S) :
    gCons t u (v :: xs) σ H S := ⟨v, xs, rfl, h⟩
instance red_i_gCons {t : TG} {u : TGs} : Red (gCons t u (v :: xs) σ H S) (t v σ H fun σ' H' => u xs σ' H' S) := ⟨i_gCons⟩
theorem i_gNil (h : S σ H) : gNil [] σ H S := ⟨rfl, h⟩
instance red_i_gNil  : Red (gNil [] σ H S) (S σ H) := ⟨i_gNil⟩
theorem i_gName {i : Nat} (h : S (σ.set i (some v)) H) : gName i v σ H S := h
instance red_i_gName {i : Nat} : Red (gName i v σ H S) (S (σ.set i (some v)) H) := ⟨i_gName⟩
theorem i_gSub {to ti : TE} {t : TSet} (h : to σ H fun o H1 => ti σ H1 fun i H2 => t o i v H2 fun H3 => S σ H3) :
    gSub to ti t v σ H S := h
instance red_i_gSub {to ti : TE} {t : TSet} : Red (gSub to ti t v σ H S) (to σ H fun o H1 => ti σ H1 fun i H2 => t o i v H2 fun H3 => S σ H3) := ⟨i_gSub⟩
/-- a for over x, a list -/
def ForL (K : PySem.W.Frag) (x : V) (g : TG) (tb : TS) (D : Ends) (σ : L2.St) (H : Hp) : Prop :=
  ∃ a, x = .ref a ∧ (∃ ys, SqL K H a ys) ∧ ∃ W : Nat → Nat → L2.St → Hp → Prop,
    (∃ m, W 0 m σ H) ∧ ∀ i m σ H, W i m σ H → ((Itl K a).stop i H ∧ D.nx σ H) ∨
      ((Itl K a).go i H ∧ ∃ Nx : L2.St → Hp → Prop,
        (∀ σ' H', Nx σ' H' → ∃ m', m' < m ∧ W (i + 1) m' σ' H') ∧
        ∀ x H', (Itl K a).yld i H x H' → g x σ H' fun σ2 H2 =>
          tb { D with nx := Nx, ct := Nx, bk := D.nx } σ2 H2)
theorem i_forL (h : te σ H fun x H1 => ForL K x g tb D σ H1) : tFor (iList K te) g tb D σ H := h
instance red_i_forL  : Red (tFor (iList K te) g tb D σ H) (te σ H fun x H1 => ForL K x g tb D σ H1) := ⟨i_forL⟩
theorem i_each (hs : SqL K H a xs) (Pv : Nat → L2.St → Hp → Prop) (h0 : Pv 0 σ H)
    (hl : ∀ i σ H, i ≤ xs.length → Pv i σ H → SqL K H a xs)
    (st : ∀ i x σ H, xs[i]? = some x → Pv i σ H → g x σ H fun σ2 H2 =>
      tb { D with nx := Pv (i + 1), ct := Pv (i + 1), bk := D.nx } σ2 H2)
    (hd : ∀ σ H, Pv xs.length σ H → D.nx σ H) : ForL K (.ref a) g tb D σ H :=
  ⟨a, rfl, ⟨_, hs⟩, for_list Pv h0 hl st hd⟩
/-- a for over range(n) -/
def ForR (vs : List V) (g : TG) (tb : TS) (D : Ends) (σ : L2.St) (H : Hp) : Prop :=
  ∃ j : Int, vs = [.int j] ∧ -(2 ^ 62) ≤ j ∧ j < 2 ^ 62 ∧
    ∃ W : Nat → Nat → L2.St → Hp → Prop, (∃ m, W 0 m σ H) ∧ ∀ i m σ H, W i m σ H →
      ((Itr 0 j.toNat).stop i H ∧ D.nx σ H) ∨ ((Itr 0 j.toNat).go i H ∧ ∃ Nx : L2.St → Hp → Prop,
        (∀ σ' H', Nx σ' H' → ∃ m', m' < m ∧ W (i + 1) m' σ' H') ∧
        ∀ x H', (Itr 0 j.toNat).yld i H x H' → g x σ H' fun σ2 H2 =>
          tb { D with nx := Nx, ct := Nx, bk := D.nx } σ2 H2)
theorem i_forR {ta : TA} (h : ta σ H fun vs H1 => ForR vs g tb D σ H1) : tFor (iRng1 ta) g tb D σ H := h
instance red_i_forR {ta : TA} : Red (tFor (iRng1 ta) g tb D σ H) (ta σ H fun vs H1 => ForR vs g tb D σ H1) := ⟨i_forR⟩
theorem i_turns {n : Int} (b1 : 0 ≤ n) (b2 : n < 2 ^ 62) (Pv : Nat → L2.St → Hp → Prop) (h0 : Pv 0 σ H)
    (st : ∀ (i : Nat) σ H, (i : Int) < n → Pv i σ H → g (.int i) σ H fun σ2 H2 =>
      tb { D with nx := Pv (i + 1), ct := Pv (i + 1), bk := D.nx } σ2 H2)
    (hd : ∀ σ H, Pv n.toNat σ H → D.nx σ H) : ForR [.int n] g tb D σ H := by
  refine ⟨n, rfl, by omega, b2, for_range Pv h0 (fun i σ H hi q => ?_) hd⟩
  have e : V.int (0 + (i : Int)) = V.int i := by rw [Int.zero_add]
  rw [e]
  exact st i σ H (by omega) q

theorem canLay_pairs : ∀ l : List (Int × Int), PyData.canLayAll0 (l.map d2) = true
  | [] => rfl
  | p :: l => by
    simp only [List.map_cons, PyData.canLayAll0, PyData.canLay0, canLay_pairs l]
    rfl
theorem depth_pairs : ∀ l : List (Int × Int), PyData.depthAll (l.map d2) ≤ 1
  | [] => Nat.zero_le _
  | p :: l => by
    simp only [List.map_cons, PyData.depthAll, PyData.depth]
    have q := depth_pairs l
    omega
theorem shaped_of {d : PyData} (h : d.canLay0 = true) (hd : d.depth ≤ 64) : SeqAt.shaped d = true := by
  unfold SeqAt.shaped
  rw [h, decide_eq_true hd]
  rfl
theorem shaped_pairs (l : List (Int × Int)) : SeqAt.shaped (.list (l.map d2)) = true := by
  refine shaped_of ?_ ?_
  · simp only [PyData.canLay0]
    exact canLay_pairs l
  · simp only [PyData.depth]
    have q := depth_pairs l
    omega
theorem shaped_nil : SeqAt.shaped (.list []) = true := by decide +kernel
theorem eqv_nil (ds : List PyData) : PyData.eqv (.list ds) (.list []) = ds.isEmpty := by
  cases ds <;> simp [PyData.eqv, PyData.eqvAll]
/-- xs == [], xs != [] -/
theorem eq_nil (ld : LD K H l ds) (hi : imms ds = true) (hs : SeqAt.shaped (.list ds) = true)
    (hq : Fr H q) (h : Q (.bl ds.isEmpty) (upd H q (.lst []))) :
    uEq K (.ref l) (.ref q) (upd H q (.lst [])) Q := by
  refine i_eqD (LD.dp (ld.kp (Kp.new hq) hi List.not_mem_nil)) (.lst (SqL.of upd_same) .nil) hs
    shaped_nil ?_
  rw [eqv_nil]
  exact h
theorem ne_nil (ld : LD K H l ds) (hi : imms ds = true) (hs : SeqAt.shaped (.list ds) = true)
    (hq : Fr H q) (h : Q (.bl (!ds.isEmpty)) (upd H q (.lst []))) :
    uNe K (.ref l) (.ref q) (upd H q (.lst [])) Q := by
  refine i_neD (LD.dp (ld.kp (Kp.new hq) hi List.not_mem_nil)) (.lst (SqL.of upd_same) .nil) hs
    shaped_nil ?_
  rw [eqv_nil]
  exact h
theorem dpa_last {d : PyData} : ∀ {ds : List PyData} {vs : List V}, DpAll K H vs (ds ++ [d]) →
    ∃ us x, vs = us ++ [x] ∧ DpAll K H us ds ∧ Dp K H x d
  | [], _, h => by
    cases h with
    | cons h1 h2 =>
      cases h2
      exact ⟨[], _, rfl, .nil, h1⟩
  | _ :: ds, _, h => by
    cases h with
    | cons h1 h2 =>
      obtain ⟨us, x, e, q1, q2⟩ := dpa_last h2
      exact ⟨_ :: us, x, by rw [e]; rfl, .cons h1 q1, q2⟩
theorem list_last {α : Type} {l : List α} (h : l ≠ []) : ∃ f q, l = f ++ [q] :=
  ⟨l.dropLast, l.getLast h, (List.dropLast_concat_getLast h).symm⟩
theorem ix_last (n : Nat) : ixN (n + 1) (-1) = some n := by
  unfold ixN
  rw [if_neg (by decide), if_pos (by omega)]
  congr 1
  omega
theorem set_last {α : Type} (l : List α) (a b : α) : (l ++ [a]).set l.length b = l ++ [b] := by
  rw [List.set_append_right _ _ (Nat.le_refl _)]
  simp
theorem upd_nn {o : HO} {u : Option HO} {b : Addr} (h : b ≠ a) (k : H b = u) : upd H a o b = u :=
  (upd_ne h).trans k
/-- what is not tracked then was not tracked before -/
def Old (H H' : Hp) : Prop := ∀ a, H' a = none → H a = none
theorem Old.refl : Old H H := fun _ h => h
theorem old_upd {H1 : Hp} {o : HO} (h : Old H H1) : Old H (upd H1 p o) := fun x e => by
  refine h x ?_
  by_cases z : x = p
  · rw [z, upd_same] at e
    cases e
  · rw [upd_ne z] at e
    exact e
theorem old_kp {H1 H2 : Hp} {ws : List Addr} (k : Kp ws H1 H2) (h : Old H H1) : Old H H2 :=
  fun x e => h x (k.free ⟨e⟩).e
theorem fr_of {H1 : Hp} {x : Addr} (h : Fr H1 x) (o : Old H H1) : Fr H x := ⟨o x h.e⟩
theorem small_sz {n : Nat} (h : n ≤ 1000000) : n < sizeLine := Nat.lt_of_le_of_lt h (by decide)
theorem sqT_new {o : HO} (h : SqT K H a xs) (hq : Fr H q) : SqT K (upd H q o) a xs :=
  (Kp.new (ws := []) hq).seqT h
theorem sqT_lst {o : HO} {ys : List V} (h : SqT K H a xs) (hq : H q = some (.lst ys)) :
    SqT K (upd H q o) a xs :=
  (Kp.mut (ws := [q]) hq (fun z => z) (List.mem_singleton.mpr rfl)).seqT h
theorem i_boN {b : Bool} {A B : Prop} (h1 : b = false → A) (h2 : b = true → B) :
    if (!b) = true then A else B := by
  cases b
  · exact iteT (h1 rfl)
  · exact iteF (h2 rfl)
theorem map_get {α β : Type} {l : List α} {f : α → β} {i : Nat} {d : β} (h : (l.map f)[i]? = some d) :
    ∃ p, l[i]? = some p ∧ d = f p := by
  rw [List.getElem?_map] at h
  cases e : l[i]? with
  | none => rw [e] at h; cases h
  | some p => rw [e] at h; cases h; exact ⟨p, rfl, rfl⟩
end
end G
namespace G
open PySem PySem.Spec PyProof.Rows L2
section
variable {K : PySem.W.Frag} {σ : L2.St} {H : Hp} {Q : VK} {n m : Int} {a p : Addr} {xs : List V} {v : V}
def rAbs : List V → Hp → VK → Prop := fun xs H Q => ∃ i, xs = [.int i] ∧ Q (.int (if i < 0 then -i else i)) H
def rMax2 : List V → Hp → VK → Prop := fun xs H Q => ∃ i j, xs = [.int i, .int j] ∧ Q (.int (if j > i then j else i)) H
def rMin2 : List V → Hp → VK → Prop := fun xs H Q => ∃ i j, xs = [.int i, .int j] ∧ Q (.int (if j < i then j else i)) H
def rDm : List V → Hp → VK → Prop := fun xs H Q => ∃ i j, xs = [.int i, .int j] ∧ CDivP i j ∧
  ∀ p, H p = none → Q (.ref p) (upd H p (.tup [.int (i / j), .int (i % j)]))
def rListOf (K : PySem.W.Frag) : List V → Hp → VK → Prop := fun xs H Q => ∃ p ys, xs = [.ref p] ∧
  (SqL K H p ys ∨ SqT K H p ys) ∧ ∀ l, H l = none → Q (.ref l) (upd H l (.lst ys))
def rPow : R2 := rI CPow fun i j => .int (i ^ j.toNat)
def uMod : R2 := rI (fun _ j => 0 < j) fun i j => .int (i % j)
def uDiv : R2 := rI CDivW fun i j => .int (i / j)
theorem c_abs {X : Cx} : CallR X (.builtin "abs") rAbs := call_abs
theorem c_max2 {X : Cx} (hc : X.calm = true) : CallR X (.builtin "max") rMax2 := call_max2 hc
theorem c_min2 {X : Cx} (hc : X.calm = true) : CallR X (.builtin "min") rMin2 := call_min2 hc
theorem c_dm {X : Cx} : CallR X (.builtin "divmod") rDm := call_divmodW
theorem c_list {X : Cx} : CallR X (.type "list") (rListOf X.K) := call_list_of
theorem o_pow {X : Cx} : OpR X (binaryOp .Pow) rPow := op_pow
theorem o_mod {X : Cx} : OpR X (binaryOp .Mod) uMod := op_mod
theorem o_div {X : Cx} : OpR X (binaryOp .FloorDiv) uDiv := op_fdivW
theorem i_abs (h : Q (.int (n.natAbs : Int)) H) : rAbs [.int n] H Q := by
  refine ⟨n, rfl, ?_⟩
  have e : (if n < 0 then -n else n) = (n.natAbs : Int) := by split <;> omega
  rw [e]
  exact h
instance red_i_abs  : Red (rAbs [.int n] H Q) (Q (.int (n.natAbs : Int)) H) := ⟨i_abs⟩
theorem i_max2 (h : Q (.int (max n m)) H) : rMax2 [.int n, .int m] H Q := by
  refine ⟨n, m, rfl, ?_⟩
  have e : (if m > n then m else n) = max n m := by
    rw [Int.max_def]
    split <;> split <;> omega
  rw [e]
  exact h
instance red_i_max2  : Red (rMax2 [.int n, .int m] H Q) (Q (.int (max n m)) H) := ⟨i_max2⟩
theorem i_min2 (h : Q (.int (min n m)) H) : rMin2 [.int n, .int m] H Q := by
  refine ⟨n, m, rfl, ?_⟩
  have e : (if m < n then m else n) = min n m := by
    rw [Int.min_def]
    split <;> split <;> omega
  rw [e]
  exact h
instance red_i_min2  : Red (rMin2 [.int n, .int m] H Q) (Q (.int (min n m)) H) := ⟨i_min2⟩
theorem i_mod (hc : 0 < m) (h : Q (.int (n % m)) H) : uMod (.int n) (.int m) H Q := ⟨n, m, rfl, rfl, hc, h⟩
theorem i_listL (hs : SqL K H p xs) (h : New H fun l => Q (.ref l) (upd H l (.lst xs))) :
    rListOf K [.ref p] H Q := ⟨p, xs, rfl, .inl hs, h⟩
theorem i_listT (hs : SqT K H p xs) (h : New H fun l => Q (.ref l) (upd H l (.lst xs))) :
    rListOf K [.ref p] H Q := ⟨p, xs, rfl, .inr hs, h⟩
theorem pow_go {k : Int} (e : (10 : Int) ^ m.toNat = k) (hm : 0 ≤ m ∧ m ≤ 1000000) (h : Q (.int k) H) :
    rPow (.int 10) (.int m) H Q :=
  ⟨10, m, rfl, rfl, ⟨hm.1, hm.2, by decide⟩, by
    show Q (.int (10 ^ m.toNat)) H
    rw [e]
    exact h⟩
theorem i_pw6 (h : Q (.int 1000000) H) : rPow (.int 10) (.int 6) H Q :=
  pow_go rfl (by decide) h
instance red_i_pw6  : Red (rPow (.int 10) (.int 6) H Q) (Q (.int 1000000) H) := ⟨i_pw6⟩
theorem i_pw16 (h : Q (.int 10000000000000000) H) : rPow (.int 10) (.int 16) H Q :=
  pow_go rfl (by decide) h
instance red_i_pw16  : Red (rPow (.int 10) (.int 16) H Q) (Q (.int 10000000000000000) H) := ⟨i_pw16⟩
theorem i_pw18 (h : Q (.int 1000000000000000000) H) :
    rPow (.int 10) (.int 18) H Q := pow_go rfl (by decide) h
instance red_i_pw18  : Red (rPow (.int 10) (.int 18) H Q) (Q (.int 1000000000000000000) H) := ⟨i_pw18⟩
theorem i_pw58 (h : Q (.int 10000000000000000000000000000000000000000000000000000000000) H) :
    rPow (.int 10) (.int 58) H Q := pow_go rfl (by decide) h
instance red_i_pw58  : Red (rPow (.int 10) (.int 58) H Q) (Q (.int 10000000000000000000000000000000000000000000000000000000000) H) := ⟨i_pw58⟩
theorem i_pw59 (h : Q (.int 100000000000000000000000000000000000000000000000000000000000) H) :
    rPow (.int 10) (.int 59) H Q := pow_go rfl (by decide) h
instance red_i_pw59  : Red (rPow (.int 10) (.int 59) H Q) (Q (.int 100000000000000000000000000000000000000000000000000000000000) H) := ⟨i_pw59⟩
theorem i_pw60 (h : Q (.int 1000000000000000000000000000000000000000000000000000000000000) H) :
    rPow (.int 10) (.int 60) H Q := pow_go rfl (by decide) h
instance red_i_pw60  : Red (rPow (.int 10) (.int 60) H Q) (Q (.int 1000000000000000000000000000000000000000000000000000000000000) H) := ⟨i_pw60⟩
theorem i_pw61 (h : Q (.int 10000000000000000000000000000000000000000000000000000000000000) H) :
    rPow (.int 10) (.int 61) H Q := pow_go rfl (by decide) h
instance red_i_pw61  : Red (rPow (.int 10) (.int 61) H Q) (Q (.int 10000000000000000000000000000000000000000000000000000000000000) H) := ⟨i_pw61⟩
theorem log_small {j : Int} (h0 : 0 < j) (h : j ≤ 10000000000000000000000000000000000000000000000000000000000000000000000) :
    j.natAbs.log2 < 9000 := by
  have h1 : j.natAbs < 2 ^ 9000 := by
    have h2 : j.natAbs ≤ 10 ^ 70 := by
      have e : ((10 ^ 70 : Nat) : Int) = 10000000000000000000000000000000000000000000000000000000000000000000000 := by rfl
      omega
    exact Nat.lt_of_le_of_lt h2 (by decide +kernel)
  exact (Nat.log2_lt (by omega)).mpr h1
theorem divp_small {i j : Int} (h0 : 0 < j) (h : j.natAbs.log2 < 9000) : CDivP i j := by
  refine ⟨h0, ?_⟩
  have nz : ¬ (j == 0) = true := by
    simpa using (show j ≠ 0 by omega)
  unfold Builtin.divisionGoesByPylong
  simp only [nz]
  have e : ¬ (j.natAbs.log2 / 30 + 1 > 300) := by omega
  first
    | (simp only [e, decide_false, Bool.false_and]; done)
    | (simp [e]; done)
    | (simp; omega)
theorem i_dm (h0 : 0 < m)
    (h1 : m ≤ 10000000000000000000000000000000000000000000000000000000000000000000000)
    (h : New H fun q => Q (.ref q) (upd H q (.tup [.int (n / m), .int (n % m)]))) :
    rDm [.int n, .int m] H Q := ⟨n, m, rfl, divp_small h0 (log_small h0 h1), h⟩
theorem i_div (h0 : 0 < m)
    (h1 : m ≤ 10000000000000000000000000000000000000000000000000000000000000000000000)
    (h : Q (.int (n / m)) H) : uDiv (.int n) (.int m) H Q := ⟨n, m, rfl, rfl, ⟨h0, log_small h0 h1⟩, h⟩
/-- a pot: two numbers from which draws come -/
def PotAt (H : Hp) (p : Addr) : Prop :=
  ∃ x y : Int, H p = some (.lst [.int x, .int y]) ∧ 0 ≤ x ∧ 0 ≤ y ∧ y < 8589934592
theorem PotAt.kp {ws : List Addr} {H1 : Hp} (h : PotAt H p) (k : Kp ws H H1) (hp : p ∉ ws) : PotAt H1 p := by
  obtain ⟨x, y, e, r⟩ := h
  exact ⟨x, y, k.at_ _ _ e hp, r⟩
end
end G
namespace G
open PySem PySem.Spec PyProof.Rows L2
def dty : PyData → String
  | .none => "NoneType"
  | .bool _ => "bool"
  | .int _ => "int"
  | .str _ => "str"
  | .list _ => "list"
  | .tuple _ => "tuple"
  | .dict _ => "dict"
section
variable {K : PySem.W.Frag} {σ : L2.St} {H : Hp} {Q : VK} {n m : Int} {a p : Addr} {xs : List V} {v : V} {d : PyData}
theorem dp_ty (h : Dp K H v d) : TyX K H v (.type (dty d)) := by
  cases h with
  | non => exact .base .non
  | bl b => exact .base (.bl b)
  | int i => exact .base (.int i)
  | str x => exact .base (.str x)
  | lst hs ha =>
    rcases hs with (h | ⟨o, h⟩) | ⟨o, its, k, e, c, r⟩
    · exact .base (.lst h)
    · exact .base (.frz h)
    · exact .kList e c
  | tup hs ha =>
    rcases hs with (h | ⟨o, h⟩) | ⟨o, its, k, e, c, r⟩
    · exact .base (.tup h)
    · exact .fTuple h
    · exact .kTuple e c
theorem i_isD {T : String} {b : Bool} (hd : Dp K H v d) (e : kitB (dty d) T = some b) (h : Q (.bl b) H) :
    rIsi K [v, .ty T] H Q := ⟨v, .ty T, _, _, b, rfl, .ty T, dp_ty hd, kit_ty e, h⟩
theorem i_revL {te : TE} (h : te σ H fun x H1 => ∃ a xs, x = .ref a ∧ SqL K H1 a xs ∧
    New H1 fun p => Q (.ref p) (upd H1 p (.lst xs.reverse))) : tRevL K te σ H Q := h
instance red_i_revL {te : TE} : Red (tRevL K te σ H Q) (te σ H fun x H1 => ∃ a xs, x = .ref a ∧ SqL K H1 a xs ∧
    New H1 fun p => Q (.ref p) (upd H1 p (.lst xs.reverse))) := ⟨i_revL⟩
theorem i_revd {P : Addr → List V → Prop} (hs : SqL K H a xs) (h : P a xs) :
    ∃ b ys, V.ref a = .ref b ∧ SqL K H b ys ∧ P b ys := ⟨a, xs, rfl, hs, h⟩
def rIns : V → List V → Hp → VK → Prop := fun x vs H Q => ∃ (l : Addr) (xs : List V) (i : Int) (y : V),
  x = .ref l ∧ vs = [.int i, y] ∧ H l = some (.lst xs) ∧ xs.length < sizeLine ∧ 0 ≤ i ∧ i < 2 ^ 63 ∧
  Q .non (upd H l (.lst (xs.take i.toNat ++ [y] ++ xs.drop i.toNat)))
theorem m_insert {X : Cx} : MtR X "list.insert" rIns := mt_insert
theorem i_ins0 {y : V} (hs : H p = some (.lst xs)) (hz : xs.length < sizeLine)
    (h : Q .non (upd H p (.lst (y :: xs)))) : rIns (.ref p) [.int 0, y] H Q :=
  ⟨p, xs, 0, y, rfl, rfl, hs, hz, by decide, by decide, h⟩
theorem i_call0 {sp : Sp} {E : XK} {tr : TA} (h : tr σ H fun vs H1 => sp vs H1 Q E) :
    tCall sp [] E tr σ H Q := by
  unfold tCall
  simp only [List.append_nil]
  exact h
instance red_i_call0 {sp : Sp} {E : XK} {tr : TA} : Red (tCall sp [] E tr σ H Q) (tr σ H fun vs H1 => sp vs H1 Q E) := ⟨i_call0⟩
def rAllB (K : PySem.W.Frag) : List V → Hp → VK → Prop := rAll K
theorem i_all {bs : List Bool} (hs : SqL K H p (bs.map V.bl)) (h : Q (.bl (bs.all id)) H) :
    rAll K [.ref p] H Q := ⟨p, bs, rfl, hs, h⟩
theorem i_any {bs : List Bool} (hs : SqL K H p (bs.map V.bl)) (h : Q (.bl (bs.any id)) H) :
    rAny K [.ref p] H Q := ⟨p, bs, rfl, hs, h⟩
theorem i_sum {ns : List Int} (hs : SqL K H p (ns.map V.int)) (h : Q (.int ns.sum) H) :
    rSum K [.ref p] H Q := ⟨p, ns, rfl, hs, h⟩
/-- an item by an index that is not written -/
theorem at_in {l : List V} {r : Int} (h0 : 0 ≤ r) (h1 : r < l.length) : ∃ v, atI l r = some v ∧ v ∈ l := by
  obtain ⟨k, rfl⟩ : ∃ k : Nat, r = k := ⟨r.toNat, by omega⟩
  have hl : k < l.length := by omega
  exact ⟨l[k], atI_nat (by simp), List.getElem_mem hl⟩
end
section
variable {K : PySem.W.Frag} {σ : L2.St} {H H1 : Hp} {Q : VK} {a p l : Addr} {xs : List V} {g : TG} {tt : TT} {te : TE} {vs : List Nat} {QB : Bool → Hp → Prop}
/-- a comprehension over x, a list -/
def LcL (K : PySem.W.Frag) (x : V) (g : TG) (tt : TT) (te : TE) (vs : List Nat) (σ : L2.St) (H1 : Hp) (Q : VK) : Prop :=
  ∃ a, x = .ref a ∧ (∃ xs, SqL K H1 a xs) ∧ ∀ D, H1 D = none →
    ∃ W : Nat → Nat → Hp → Prop, (∃ m, W 0 m (upd H1 D (.lst []))) ∧ ∀ i m H, W i m H →
      ((Itl K a).stop i H ∧ Q (.ref D) H) ∨ ((Itl K a).go i H ∧ ∃ Nx : Hp → Prop,
        (∀ H', Nx H' → ∃ m', m' < m ∧ W (i + 1) m' H') ∧
        ∀ x H', (Itl K a).yld i H x H' → g x (wipe σ vs) H' fun σ2 H2 => wipe σ2 vs = wipe σ vs ∧ tt σ2 H2 fun b H3 =>
          if b = true then te σ2 H3 fun y H4 => ∃ acc, H4 D = some (.lst acc) ∧ acc.length < sizeLine ∧
            Nx (upd H4 D (.lst (acc ++ [y]))) else Nx H3)
theorem i_lcL {te' : TE} (h : te' σ H fun x H1 => LcL K x g tt te vs σ H1 Q) :
    tLc (iList K te') g tt te vs σ H Q := h
instance red_i_lcL {te' : TE} : Red (tLc (iList K te') g tt te vs σ H Q) (te' σ H fun x H1 => LcL K x g tt te vs σ H1 Q) := ⟨i_lcL⟩
theorem i_elts (hs : SqL K H a xs) (Pv : Addr → Nat → Hp → Prop)
    (h0 : ∀ D, Fr H D → Pv D 0 (upd H D (.lst [])))
    (hl : ∀ D i H', Fr H D → i ≤ xs.length → Pv D i H' → SqL K H' a xs)
    (st : ∀ D i x H', Fr H D → xs[i]? = some x → Pv D i H' → g x (wipe σ vs) H' fun σ2 H2 =>
      wipe σ2 vs = wipe σ vs ∧ tt σ2 H2 fun b H3 => if b = true then te σ2 H3 fun y H4 =>
        ∃ acc, H4 D = some (.lst acc) ∧ acc.length < sizeLine ∧ Pv D (i + 1) (upd H4 D (.lst (acc ++ [y])))
        else Pv D (i + 1) H3)
    (hd : ∀ D H', Fr H D → Pv D xs.length H' → Q (.ref D) H') : LcL K (.ref a) g tt te vs σ H Q := by
  refine ⟨a, rfl, ⟨_, hs⟩, fun D hD => ?_⟩
  exact lc_list (K := K) (a := a) (xs := xs) (Pv D) (h0 D ⟨hD⟩) (fun i H' => hl D i H' ⟨hD⟩)
    (fun i x H' => st D i x H' ⟨hD⟩) (fun H' => hd D H' ⟨hD⟩)
def LcR (ws : List V) (g : TG) (tt : TT) (te : TE) (vs : List Nat) (σ : L2.St) (H1 : Hp) (Q : VK) : Prop :=
  ∃ j : Int, ws = [.int j] ∧ -(2 ^ 62) ≤ j ∧ j < 2 ^ 62 ∧ ∀ D, H1 D = none →
    ∃ W : Nat → Nat → Hp → Prop, (∃ m, W 0 m (upd H1 D (.lst []))) ∧ ∀ i m H, W i m H →
      ((Itr 0 j.toNat).stop i H ∧ Q (.ref D) H) ∨ ((Itr 0 j.toNat).go i H ∧ ∃ Nx : Hp → Prop,
        (∀ H', Nx H' → ∃ m', m' < m ∧ W (i + 1) m' H') ∧
        ∀ x H', (Itr 0 j.toNat).yld i H x H' → g x (wipe σ vs) H' fun σ2 H2 => wipe σ2 vs = wipe σ vs ∧ tt σ2 H2 fun b H3 =>
          if b = true then te σ2 H3 fun y H4 => ∃ acc, H4 D = some (.lst acc) ∧ acc.length < sizeLine ∧
            Nx (upd H4 D (.lst (acc ++ [y]))) else Nx H3)
theorem i_lcR {ta : TA} (h : ta σ H fun ws H1 => LcR ws g tt te vs σ H1 Q) :
    tLc (iRng1 ta) g tt te vs σ H Q := h
instance red_i_lcR {ta : TA} : Red (tLc (iRng1 ta) g tt te vs σ H Q) (ta σ H fun ws H1 => LcR ws g tt te vs σ H1 Q) := ⟨i_lcR⟩
theorem i_reps {n : Int} (b1 : 0 ≤ n) (b2 : n < 2 ^ 62) (Pv : Addr → Nat → Hp → Prop)
    (h0 : ∀ D, Fr H D → Pv D 0 (upd H D (.lst [])))
    (st : ∀ D (i : Nat) H', Fr H D → (i : Int) < n → Pv D i H' → g (.int i) (wipe σ vs) H' fun σ2 H2 =>
      wipe σ2 vs = wipe σ vs ∧ tt σ2 H2 fun b H3 => if b = true then te σ2 H3 fun y H4 =>
        ∃ acc, H4 D = some (.lst acc) ∧ acc.length < sizeLine ∧ Pv D (i + 1) (upd H4 D (.lst (acc ++ [y])))
        else Pv D (i + 1) H3)
    (hd : ∀ D H', Fr H D → Pv D n.toNat H' → Q (.ref D) H') : LcR [.int n] g tt te vs σ H Q := by
  refine ⟨n, rfl, by omega, b2, fun D hD => ?_⟩
  refine lc_range (lo := 0) (n := n.toNat) (Pv D) (h0 D ⟨hD⟩) (fun i H' hi q => ?_) (fun H' => hd D H' ⟨hD⟩)
  have e : V.int (0 + (i : Int)) = V.int i := by rw [Int.zero_add]
  rw [e]
  exact st D i H' ⟨hD⟩ (by omega) q
theorem i_wipe {σ2 : L2.St} {P : Prop} (e : wipe σ2 vs = wipe σ vs) (h : P) : wipe σ2 vs = wipe σ vs ∧ P := ⟨e, h⟩
theorem i_yes (h : QB true H) : tYes σ H QB := h
instance red_i_yes  : Red (tYes σ H QB) (QB true H) := ⟨i_yes⟩
theorem i_acc {D : Addr} {y : V} {P : Hp → Prop} {acc : List V} (h1 : H D = some (.lst acc)) (h2 : acc.length < sizeLine)
    (h : P (upd H D (.lst (acc ++ [y])))) : ∃ acc, H D = some (.lst acc) ∧ acc.length < sizeLine ∧ P (upd H D (.lst (acc ++ [y]))) :=
  ⟨acc, h1, h2, h⟩
end
end G
namespace G
open PySem PySem.Spec PyProof.Rows L2
section
variable {K : PySem.W.Frag} {H H1 : Hp} {a p l q : Addr} {ws : List Addr} {o u : HO} {ds : List PyData}
theorem kp_at (k : Kp ws H H1) (h : H a = some u) (n : a ∉ ws) : H1 a = some u := k.at_ a u h n
theorem not_nil {α : Type} {a : α} : a ∉ ([] : List α) := List.not_mem_nil
theorem not_one {a b : Addr} (h : a ≠ b) : a ∉ [b] := fun z => h (List.mem_singleton.mp z)
theorem not_two {a b c : Addr} (h : a ≠ b) (h2 : a ≠ c) : a ∉ [b, c] := fun z => by
  rcases List.mem_cons.mp z with z | z
  · exact h z
  · exact h2 (List.mem_singleton.mp z)
theorem pot_upd (h : PotAt H p) (n : p ≠ q) : PotAt (upd H q o) p := by
  obtain ⟨x, y, e, r⟩ := h
  exact ⟨x, y, by rw [upd_ne n]; exact e, r⟩
theorem PotAt.ne {x : Addr} (h : PotAt H p) (f : Fr H x) : p ≠ x := by
  have hx := f.e
  obtain ⟨_, _, e, _⟩ := h
  exact ne_of_none e hx
theorem pot_ne {x : Addr} (hx : Fr H x) (h : PotAt H p) : p ≠ x := h.ne hx
theorem LD.ne {x : Addr} (h : LD K H l ds) (f : Fr H x) : l ≠ x := by
  have hx := f.e
  obtain ⟨_, e, _⟩ := h
  exact ne_of_none e hx
theorem ld_ne {x : Addr} (f : Fr H x) (h : LD K H l ds) : l ≠ x := h.ne f
theorem ld_upd (h : LD K H l ds) (hi : imms ds = true) (hq : Fr H q) : LD K (upd H q o) l ds := by
  have k : Kp ([] : List Addr) H (upd H q o) := Kp.new hq
  exact h.kp k hi not_nil
theorem ld_upl {ys : List V} (h : LD K H l ds) (hi : imms ds = true) (hq : H q = some (.lst ys))
    (n : l ≠ q) : LD K (upd H q o) l ds := by
  have k : Kp [q] H (upd H q o) := Kp.mut hq (fun z => z) (List.mem_singleton.mpr rfl)
  exact h.kp k hi (not_one n)
theorem sqL_new {xs : List V} (h : SqL K H a xs) (f : Fr H q) : SqL K (upd H q o) a xs :=
  (Kp.new (ws := []) f).seqL not_nil h
theorem sqL_kp {xs : List V} (k : Kp ws H H1) (h : SqL K H a xs) (n : a ∉ ws) : SqL K H1 a xs := k.seqL n h
theorem at_zero {x : V} {xs : List V} : atI (x :: xs) 0 = some x := atI_nat (j := 0) rfl
theorem ix_zero (n : Nat) : ixN (n + 1) 0 = some 0 := by
  unfold ixN
  rw [if_pos (by decide), if_pos (by omega)]
  rfl
theorem dpa_rev : ∀ {ds : List PyData} {vs : List V}, DpAll K H vs ds → DpAll K H vs.reverse ds.reverse
  | [], _, h => by cases h; exact .nil
  | _ :: _, _, h => by
    cases h with
    | cons h1 h2 =>
      rw [List.reverse_cons, List.reverse_cons]
      exact dpa_app (dpa_rev h2) (dpa_one h1)
/-- something is put behind -/
theorem ld_app {y : V} {d : PyData} {vs : List V} (h : DpAll K H vs ds) (e : H l = some (.lst vs))
    (hi : imms ds = true) (hd : Dp K H y d) (hj : imm d = true) : LD K (upd H l (.lst (vs ++ [y]))) l (ds ++ [d]) := by
  have k : Kp [l] H (upd H l (.lst (vs ++ [y]))) := Kp.mut e (fun z => z) (List.mem_singleton.mpr rfl)
  exact ⟨_, upd_same, dpa_app (dpa_imm k _ _ hi h) (dpa_one (dp_imm k _ _ hj hd))⟩
end
end G

namespace G
open PySem PySem.Spec PyProof.Rows L2
/-! the same rules, the written part named -/
section
variable {X : Cx} {K : PySem.W.Frag} {e : Expr} {es : List Expr} {te : TE} {t : TGs} {f : Str} {pos : Pos} {tg : Expr}
theorem k_add (h : X.K = K) : OpR X (binaryOp .Add) (uAdd K) := h ▸ o_add
theorem k_eq (h : X.K = K) (hu : X.A.units + 64 < cLine) : OpR X (compareOp .Eq) (uEq K) := h ▸ o_eq hu
theorem k_ne (h : X.K = K) (hu : X.A.units + 64 < cLine) : OpR X (compareOp .NotEq) (uNe K) := h ▸ o_ne hu
theorem k_ix (h : X.K = K) : IxR X (uIx K) := h ▸ o_ix
theorem k_len (h : X.K = K) : CallR X (.builtin "len") (uLen K) := h ▸ c_len
theorem k_list (h : X.K = K) : CallR X (.type "list") (rListOf K) := h ▸ c_list
theorem k_repr (h : X.K = K) (hg : X.A.guards = some []) (hu : X.A.units + 64 < cLine) :
    CallR X (.builtin "repr") (rRepr K) := h ▸ call_repr hg hu
theorem k_all (h : X.K = K) (hc : X.calm = true) : CallR X (.builtin "all") (rAll K) := h ▸ cr_all hc
theorem k_any (h : X.K = K) (hc : X.calm = true) : CallR X (.builtin "any") (rAny K) := h ▸ cr_any hc
theorem k_sum (h : X.K = K) (hc : X.calm = true) : CallR X (.builtin "sum") (rSum K) := h ▸ cr_sum hc
theorem k_isi (h : X.K = K) : CallR X (.builtin "isinstance") (rIsi K) := h ▸ call_isi
theorem k_sl (h : X.K = K) : SlR X (rSlL K) := h ▸ sl_list
theorem k_slT (h : X.K = K) : SlR X (rSlT K) := h ▸ sl_tup
theorem k_in (h : X.K = K) : OpR X (compareOp .In) (rIn K false) := h ▸ op_in_seq
theorem k_nin (h : X.K = K) : OpR X (compareOp .NotIn) (rIn K true) := h ▸ op_notIn_seq
theorem k_fld (h : X.K = K) (he : PE X e te) (hb : attributeBase e f X.env (eval e X.env) = eval e X.env) :
    PE X (.Attribute e f pos) (tFld K te f) := h ▸ pe_fld he hb
theorem k_plist (h : X.K = K) (he : PE X e te) : PI X tg e (iList K te) := h ▸ pi_list he
theorem k_ptup (h : X.K = K) (he : PE X e te) : PI X tg e (iTup K te) := h ▸ pi_tup he
theorem k_rev {k : Nat} {p1 p2 p3 : Pos} (h : X.K = K) (he : PE X e te) :
    PE X (.Subscript e (.Slice none none (some (.UnaryOp .USub (.Constant (.int 1) k p1) p2)) p3) pos) (tRevL K te) :=
  h ▸ pe_revL he
theorem k_gtup {k : Nat} (n : Nat) (h : X.K = K) (hc : X.calm = true) (hp : PGs X es t)
    (hn : (assignEach es X.env).length = n := by rfl)
    (hst : (assignEach es X.env).findIdx? (·.1) = none := by rfl) : PG X (.Tuple es k pos) (gTup K n t) :=
  h ▸ pg_tup hc hp hn hst
end
end G
namespace G
open PySem PySem.Spec PyProof.Rows L2
/-! what is tracked; what is fixed -/
structure Tr (H : Hp) (a : Addr) : Prop where
  ex : ∃ o, H a = some o
structure Fx (H H1 : Hp) : Prop where
  fx : ∀ a u, H a = some u → Fix u → H1 a = some u
section
variable {K : PySem.W.Frag} {H H0 H1 : Hp} {Q : VK} {a b p l q : Addr} {ws : List Addr} {o u : HO} {ds : List PyData} {xs : List V} {n : Int} {v : V}
theorem tr_of (h : H a = some o) : Tr H a := ⟨o, h⟩
theorem tr_same : Tr (upd H p o) p := ⟨o, upd_same⟩
theorem tr_upd (h : Tr H a) : Tr (upd H p o) a := by
  by_cases e : a = p
  · rw [e]
    exact tr_same
  · obtain ⟨u, h⟩ := h.ex
    exact ⟨u, by rw [upd_ne e]; exact h⟩
theorem tr_kp (k : Kp ws H H1) (h : Tr H a) : Tr H1 a := by
  obtain ⟨u, h⟩ := h.ex
  obtain ⟨v, e⟩ := k.dom _ _ h
  exact ⟨v, e⟩
theorem tr_ld (h : LD K H a ds) : Tr H a := by
  obtain ⟨vs, e, _⟩ := h
  exact ⟨_, e⟩
theorem tr_pot (h : PotAt H a) : Tr H a := by
  obtain ⟨x, y, e, _⟩ := h
  exact ⟨_, e⟩
theorem fr_tr (h : Tr H a) (f : Fr H b) : a ≠ b := by
  obtain ⟨u, e⟩ := h.ex
  exact fr_ne e f
theorem fx_refl : Fx H H := ⟨fun _ _ h _ => h⟩
theorem fx_new (h : Fx H0 H) (f : Fr H p) : Fx H0 (upd H p o) := ⟨fun a u e z => by
  have e2 := h.fx a u e z
  rw [upd_ne (fr_ne e2 f)]
  exact e2⟩
theorem fx_mut (h : Fx H0 H) (f : H p = some u) (nf : ¬ Fix u) : Fx H0 (upd H p o) := ⟨fun a v e z => by
  have e2 := h.fx a v e z
  rw [upd_ne]
  · exact e2
  · intro c
    subst c
    rw [f] at e2
    cases e2
    exact nf z⟩
theorem fx_kp (k : Kp ws H H1) (h : Fx H0 H) : Fx H0 H1 := ⟨fun a u e z => k.fix a u (h.fx a u e z) z⟩
theorem Fx.seqT (k : Fx H H1) (h : SqT K H l xs) : SqT K H1 l xs := by
  rcases h with (h | ⟨o, h⟩) | h
  · exact .inl (.inl (k.fx _ _ h trivial))
  · exact .inl (.inr ⟨o, k.fx _ _ h trivial⟩)
  · exact .inr h
mutual
theorem Fx.dp (k : Fx H H1) : ∀ (d : PyData) (v : V), imm d = true → Dp K H v d → Dp K H1 v d
  | .none, _, _, h => by cases h; exact .non
  | .bool b, _, _, h => by cases h; exact .bl b
  | .int i, _, _, h => by cases h; exact .int i
  | .str x, _, _, h => by cases h; exact .str x
  | .tuple ds, _, hi, h => by
    cases h with
    | tup hs ha => exact .tup (k.seqT hs) (Fx.dpa k ds _ (by simpa only [imm] using hi) ha)
  | .list _, _, hi, _ => by simp only [imm] at hi; cases hi
  | .dict _, _, hi, _ => by simp only [imm] at hi; cases hi
theorem Fx.dpa (k : Fx H H1) : ∀ (ds : List PyData) (vs : List V), imms ds = true →
    DpAll K H vs ds → DpAll K H1 vs ds
  | [], _, _, h => by cases h; exact .nil
  | d :: ds, _, hi, h => by
    simp only [imms, Bool.and_eq_true] at hi
    cases h with
    | cons h1 h2 => exact .cons (Fx.dp k d _ hi.1 h1) (Fx.dpa k ds _ hi.2 h2)
end
/-- an item of an object -/
def ixO : HO → Int → V → Prop
  | .lst xs, n, v => atI xs n = some v
  | .tup xs, n, v => atI xs n = some v
  | _, _, _ => False
theorem i_ixO (h : H p = some o) (hv : ixO o n v) (q : Q v H) : uIx K (.ref p) (.int n) H Q := by
  cases o with
  | lst xs => exact i_ixL (SqL.of h) hv q
  | tup xs => exact i_ixT (SqT.of h) hv q
  | _ => exact hv.elim
theorem i_ixS (h0 : SqT K H0 p xs) (k : Fx H0 H) (hv : atI xs n = some v) (q : Q v H) :
    uIx K (.ref p) (.int n) H Q := i_ixT (k.seqT h0) hv q
def lenO : HO → Int → Prop
  | .lst xs, n => n = xs.length
  | .tup xs, n => n = xs.length
  | _, _ => False
theorem i_lenO (h : H p = some o) (hv : lenO o n) (q : Q (.int n) H) : uLen K [.ref p] H Q := by
  cases o with
  | lst xs =>
    have e : n = xs.length := hv
    subst e
    exact i_lenL (SqL.of h) q
  | tup xs =>
    have e : n = xs.length := hv
    subst e
    exact i_lenT (SqT.of h) q
  | _ => exact hv.elim
end
end G
namespace G
open PySem PySem.Spec PyProof.Rows L2
section
variable {K : PySem.W.Frag} {H : Hp} {Q : VK} {x y : V} {d : PyData}
theorem ne_same (hx : Dp K H x d) (hy : Dp K H y d) (sh : SeqAt.shaped d = true) (h : Q (.bl false) H) :
    uNe K x y H Q := by
  refine i_neD hx hy sh sh ?_
  rw [SeqAt.eqv_refl d (SeqAt.canLay_of_shaped sh)]
  exact h
theorem eq_same (hx : Dp K H x d) (hy : Dp K H y d) (sh : SeqAt.shaped d = true) (h : Q (.bl true) H) :
    uEq K x y H Q := by
  refine i_eqD hx hy sh sh ?_
  rw [SeqAt.eqv_refl d (SeqAt.canLay_of_shaped sh)]
  exact h
/-- a number that may be shown -/
def okI (i : Int) : Prop := i.natAbs.log2 < 1920
theorem okI_of {i : Int} (h0 : -100000000000000000000000000000000000000000000000000000000000000000000000 ≤ i)
    (h1 : i ≤ 100000000000000000000000000000000000000000000000000000000000000000000000) : okI i := by
  unfold okI
  have h2 : i.natAbs ≤ 10 ^ 71 := by
    have e : ((10 ^ 71 : Nat) : Int) = 100000000000000000000000000000000000000000000000000000000000000000000000 := by rfl
    omega
  by_cases z : i.natAbs = 0
  · rw [z]
    decide
  · exact (Nat.log2_lt z).mpr (Nat.lt_of_le_of_lt h2 (by decide +kernel))
theorem shws_pairs : ∀ l : List (Int × Int), (∀ q ∈ l, okI q.1 ∧ okI q.2) → shws (l.map d2) = true
  | [], _ => rfl
  | q :: l, h => by
    have a := h q List.mem_cons_self
    have b := shws_pairs l fun z hz => h z (List.mem_cons_of_mem _ hz)
    simp only [List.map_cons, shws, shw, b, Bool.and_true, Bool.and_eq_true, decide_eq_true_eq]
    exact a
theorem cws_pairs : ∀ l : List (Int × Int), cws (l.map d2) = 3868 * l.length
  | [] => rfl
  | q :: l => by
    simp only [List.map_cons, cws, cw, cws_pairs l, List.length_cons]
    omega
theorem depth_list (l : List (Int × Int)) : (PyData.list (l.map d2)).depth ≤ 60 := by
  simp only [PyData.depth]
  have q := depth_pairs l
  omega
theorem repr_pairs {l : List (Int × Int)} (hx : Dp K H x (.list (l.map d2))) (h : ∀ q ∈ l, okI q.1 ∧ okI q.2)
    (hl : l.length ≤ 4000) (q : Q (.str (PyData.list (l.map d2)).shown) H) : rRepr K [x] H Q := by
  refine i_repr hx ?_ (depth_list l) ?_ q
  · simp only [shw]
    exact shws_pairs l h
  · have e : cw (.list (l.map d2)) = 3868 * l.length + 2 := by simp only [cw, cws_pairs]
    rw [e]
    exact Nat.le_trans (show 3868 * l.length + 2 ≤ 15472002 by omega) (by decide)
end
end G
namespace G
open PySem PySem.Spec PyProof.Rows L2
/-! methods, new instances, keywords -/
section
variable {X : Cx} {k n : Nat} {f C : Addr} {fd : FuncData} {ps ks : List Str} {sp : Sp}
variable {dvs : List V} {ds : List Value} {E : XK} {x m : Str} {p pos apos : Pos} {e o : Expr}
variable {es : List Expr} {kws : List Keyword} {ta : TE} {t tk : TA} {pins : List (Addr × Obj)} {σ : L2.St} {H : Hp}
variable {s s' : Shared} {Q : VK} {g : List Value → List Value → List Value} {gV : List V → List V → List V}
/-- defaults of which only the values are known -/
def BindsD (K : PySem.W.Frag) (fd : FuncData) (ps : List Str) (dvs : List V) : Prop :=
  ∃ ds, Vals dvs ds ∧ Binds K fd ps ds
def KBnD (K : PySem.W.Frag) (fd : FuncData) (ps : List Str) (n : Nat) (ks : List Str)
    (gV : List V → List V → List V) : Prop := ∃ g, KBn K fd ps n ks g gV
theorem BindsD.plain {K : PySem.W.Frag} (h : Binds K fd ps []) : BindsD K fd ps [] := ⟨[], .nil, h⟩
theorem d1 (F : Fg X k f fd ps sp) (z : RoomG k X.A) (hg : Gl X x) (hm : X.mg x = some (.ref f))
    (hk : PySem.W.keepIn X.K (.ref f) = true) (hb : BindsD X.K fd ps dvs)
    (hx : Ps X E) (ha : PA X (e :: es) t)
    (hdb : (x == ("__debug__" : Str)) = false := by decide)
    (he : starEach (e :: es) X.env = (false, eval e X.env) :: starEach es X.env := by rfl)
    (hpl : (backTo pos (starEach es X.env)).any (·.1) = false := by rfl) :
    PE X (.Call (.Name x p) (e :: es) [] pos) (tCall sp dvs E t) := by
  obtain ⟨ds, hd, hb⟩ := hb
  exact c1 F z hg hm hk hb hd hx ha hdb he hpl
theorem dm {pl : Sem Bool} (c : Cls X.K C) (hm : Meth X.K C m f)
    (F : Fg X k f fd ps sp) (z : RoomG k X.A) (hb : BindsD X.K fd ps dvs)
    (hx : Ps X E) (he : PE X o ta) (ha : PA X (e :: es) t)
    (hst : starEach (e :: es) X.env = (false, eval e X.env) :: starEach es X.env := by rfl)
    (hpl : (backTo pos (starEach es X.env)).any (·.1) = false := by rfl)
    (ht : eval (.Call (.Attribute o m apos) (e :: es) [] pos) X.env = (do
      let y ← eval o X.env
      standAt apos.atName
      let (g, a) ← holding [y] (getMethod y m pl)
      callWith pos g a (backTo pos (starEach (e :: es) X.env))
        (backToKw pos (keywordEach [] X.env))) := by rfl) :
    PE X (.Call (.Attribute o m apos) (e :: es) [] pos) (tMeth C m sp dvs E ta t) := by
  obtain ⟨ds, hd, hb⟩ := hb
  exact cm he c hm F z hb hd hx ha hst hpl ht
theorem dm0 {pl : Sem Bool} (c : Cls X.K C) (hm : Meth X.K C m f)
    (F : Fg X k f fd ps sp) (z : RoomG k X.A) (hb : BindsD X.K fd ps dvs)
    (hx : Ps X E) (he : PE X o ta)
    (ht : eval (.Call (.Attribute o m apos) [] [] pos) X.env = (do
      let y ← eval o X.env
      standAt apos.atName
      let (g, a) ← holding [y] (getMethod y m pl)
      callWith pos g a (backTo pos (starEach [] X.env))
        (backToKw pos (keywordEach [] X.env))) := by rfl) :
    PE X (.Call (.Attribute o m apos) [] [] pos) (tMeth C m sp dvs E ta tNil) := by
  obtain ⟨ds, hd, hb⟩ := hb
  exact cm0 he c hm F z hb hd hx ht
/-- a call of f with positional values and keywords -/
theorem runK {us ws : List Value} {vs zs : List V} (F : Fg X k f fd ps sp) (z : RoomG k X.A)
    (hb : KBn X.K fd ps n ks g gV) (hx : Ps X E) (I : Inv X pins σ H s) (rv : Vals vs us) (rz : Vals zs ws)
    (l1 : vs.length = n) (l2 : zs.length = ks.length) (h : sp (gV vs zs) H Q E) :
    wpAny (model X.prog X.w) X.A (call (.ref f) us (ks.zip ws)) (EP X pins σ Q) X.xe s := by
  have b := hb.to s us ws I.kIn (rv.length.symm.trans l1) (rz.length.symm.trans l2)
  refine wpAny_call (codeAny_mono (runG F z b hx I (hb.rel rv rz) h) ?_)
  intro r s' q
  match r, q with
  | .error e, q => exact q
  | .ok (.ret u), q => exact q
  | .ok .next, q => exact q
  | .ok .brk, q => exact q
  | .ok .cont, q => exact q
def tKw (n m : Nat) (sp : Sp) (gV : List V → List V → List V) (E : XK) (t tk : TA) : TE := fun σ H Q =>
  t σ H fun vs H1 => tk σ H1 fun zs H2 => vs.length = n ∧ zs.length = m ∧ sp (gV vs zs) H2 Q E
def tMw (C : Addr) (nm : Str) (n m : Nat) (sp : Sp) (gV : List V → List V → List V) (E : XK) (ta : TE) (t tk : TA) : TE :=
  fun σ H Q => ta σ H fun x H1 => ∃ a dx fs, x = .ref a ∧ H1 a = some (.ins C dx fs) ∧ fs.lookup nm = none ∧
    t σ H1 fun vs H2 => tk σ H2 fun zs H3 => vs.length = n ∧ zs.length = m ∧ sp (gV (x :: vs) zs) H3 Q E
theorem kc (F : Fg X k f fd ps sp) (z : RoomG k X.A) (hg : Gl X x) (hm : X.mg x = some (.ref f))
    (hk : PySem.W.keepIn X.K (.ref f) = true) (hb : KBnD X.K fd ps n ks gV) (hx : Ps X E)
    (ha : PA X (e :: es) t) (hkw : PK X kws tk)
    (hall : (backToKw pos (keywordEach kws X.env)).all (·.1.isSome) = true := by rfl)
    (hks : (backToKw pos (keywordEach kws X.env)).filterMap (·.1) = ks := by rfl)
    (hdb : (x == ("__debug__" : Str)) = false := by decide)
    (he : starEach (e :: es) X.env = (false, eval e X.env) :: starEach es X.env := by rfl)
    (hpl : ((backTo pos (starEach (e :: es) X.env)).any (·.1) ||
      (backToKw pos (keywordEach kws X.env)).any (·.1.isNone)) = false := by rfl) :
    PE X (.Call (.Name x p) (e :: es) kws pos) (tKw n ks.length sp gV E t tk) := by
  obtain ⟨g, hb⟩ := hb
  constructor
  intro pins s σ H Q I h
  refine wpAny_Call_Name_kw (ld_glob I hg hm ?_ hdb)
  refine PySem.W.callWith_KW (h₀ := X.base) I.ok.mod.kin hk hall ?_ hpl he
  refine thn (ha.run pos pins s σ H _ I h) ?_
  intro us s1 y
  obtain ⟨vs, H1, I1, r, q⟩ := y
  refine thn (hkw.run pos pins s1 σ H1 _ I1 q) ?_
  intro ws s2 y
  obtain ⟨zs, H2, I2, rz, l1, l2, q2⟩ := y
  refine ⟨I2.kIn, ?_⟩
  rw [hks]
  exact runK F z hb hx I2 r rz l1 l2 q2
theorem kc0 (F : Fg X k f fd ps sp) (z : RoomG k X.A) (hg : Gl X x) (hm : X.mg x = some (.ref f))
    (hk : PySem.W.keepIn X.K (.ref f) = true) (hb : KBnD X.K fd ps 0 ks gV) (hx : Ps X E)
    (hkw : PK X kws tk)
    (hall : (backToKw pos (keywordEach kws X.env)).all (·.1.isSome) = true := by rfl)
    (hks : (backToKw pos (keywordEach kws X.env)).filterMap (·.1) = ks := by rfl)
    (hdb : (x == ("__debug__" : Str)) = false := by decide)
    (hpl : ((backTo pos (starEach [] X.env)).any (·.1) ||
      (backToKw pos (keywordEach kws X.env)).any (·.1.isNone)) = false := by rfl) :
    PE X (.Call (.Name x p) [] kws pos) (tKw 0 ks.length sp gV E tNil tk) := by
  obtain ⟨g, hb⟩ := hb
  constructor
  intro pins s σ H Q I h
  refine wpAny_Call_Name_kw (ld_glob I hg hm ?_ hdb)
  refine PySem.W.callWith_KW0 (h₀ := X.base) I.ok.mod.kin hk hall ?_ hpl
  refine thn (hkw.run pos pins s σ H _ I h) ?_
  intro ws s2 y
  obtain ⟨zs, H2, I2, rz, l1, l2, q2⟩ := y
  refine ⟨I2.kIn, ?_⟩
  rw [hks]
  exact runK (us := []) (vs := []) F z hb hx I2 .nil rz l1 l2 q2
theorem km {pl : Sem Bool} (c : Cls X.K C) (hm : Meth X.K C m f)
    (F : Fg X k f fd ps sp) (z : RoomG k X.A) (hb : KBnD X.K fd ps (n + 1) ks gV)
    (hx : Ps X E) (he : PE X o ta) (ha : PA X (e :: es) t) (hkw : PK X kws tk)
    (hall : (backToKw pos (keywordEach kws X.env)).all (·.1.isSome) = true := by rfl)
    (hks : (backToKw pos (keywordEach kws X.env)).filterMap (·.1) = ks := by rfl)
    (hst : starEach (e :: es) X.env = (false, eval e X.env) :: starEach es X.env := by rfl)
    (hpl : ((backTo pos (starEach (e :: es) X.env)).any (·.1) ||
      (backToKw pos (keywordEach kws X.env)).any (·.1.isNone)) = false := by rfl)
    (ht : eval (.Call (.Attribute o m apos) (e :: es) kws pos) X.env = (do
      let y ← eval o X.env
      standAt apos.atName
      let (g, a) ← holding [y] (getMethod y m pl)
      callWith pos g a (backTo pos (starEach (e :: es) X.env))
        (backToKw pos (keywordEach kws X.env))) := by rfl) :
    PE X (.Call (.Attribute o m apos) (e :: es) kws pos) (tMw C m n ks.length sp gV E ta t tk) := by
  obtain ⟨g, hb⟩ := hb
  constructor
  intro pins s σ H Q I h
  refine PySem.W.methodCall_KW (pl := pl) (thn (he.run pins s σ H _ I h) ?_) ht
  intro u s1 y
  obtain ⟨v, H1, I1, rx, a, dx, fs, ex, ea, l, q⟩ := y
  subst ex
  obtain rfl : u = Value.ref a := rx
  refine getmeth_ok I1 ea c hm l ?_
  refine PySem.W.callWith_KW (first := [.ref a]) (h₀ := X.base) I.ok.mod.kin hm.kp hall ?_ hpl hst
  refine thn (ha.run pos pins s1 σ H1 _ I1 q) ?_
  intro us s2 y
  obtain ⟨vs, H2, I2, r, q2⟩ := y
  refine thn (hkw.run pos pins s2 σ H2 _ I2 q2) ?_
  intro ws s3 y
  obtain ⟨zs, H3, I3, rz, l1, l2, q3⟩ := y
  refine ⟨I3.kIn, ?_⟩
  rw [hks]
  exact runK (us := .ref a :: us) (vs := .ref a :: vs) F z hb hx I3 (.cons rfl r) rz (by rw [List.length_cons, l1]) l2 q3
theorem km0 {pl : Sem Bool} (c : Cls X.K C) (hm : Meth X.K C m f)
    (F : Fg X k f fd ps sp) (z : RoomG k X.A) (hb : KBnD X.K fd ps 1 ks gV)
    (hx : Ps X E) (he : PE X o ta) (hkw : PK X kws tk)
    (hall : (backToKw pos (keywordEach kws X.env)).all (·.1.isSome) = true := by rfl)
    (hks : (backToKw pos (keywordEach kws X.env)).filterMap (·.1) = ks := by rfl)
    (hpl : ((backTo pos (starEach [] X.env)).any (·.1) ||
      (backToKw pos (keywordEach kws X.env)).any (·.1.isNone)) = false := by rfl)
    (ht : eval (.Call (.Attribute o m apos) [] kws pos) X.env = (do
      let y ← eval o X.env
      standAt apos.atName
      let (g, a) ← holding [y] (getMethod y m pl)
      callWith pos g a (backTo pos (starEach [] X.env))
        (backToKw pos (keywordEach kws X.env))) := by rfl) :
    PE X (.Call (.Attribute o m apos) [] kws pos) (tMw C m 0 ks.length sp gV E ta tNil tk) := by
  obtain ⟨g, hb⟩ := hb
  constructor
  intro pins s σ H Q I h
  refine PySem.W.methodCall_KW (pl := pl) (thn (he.run pins s σ H _ I h) ?_) ht
  intro u s1 y
  obtain ⟨v, H1, I1, rx, a, dx, fs, ex, ea, l, q⟩ := y
  subst ex
  obtain rfl : u = Value.ref a := rx
  refine getmeth_ok I1 ea c hm l ?_
  refine PySem.W.callWith_KW0 (first := [.ref a]) (h₀ := X.base) I.ok.mod.kin hm.kp hall ?_ hpl
  refine thn (hkw.run pos pins s1 σ H1 _ I1 q) ?_
  intro ws s3 y
  obtain ⟨zs, H3, I3, rz, l1, l2, q3⟩ := y
  refine ⟨I3.kIn, ?_⟩
  rw [hks]
  exact runK (us := [.ref a]) (vs := [.ref a]) F z hb hx I3 (.cons rfl .nil) rz (by rw [List.length_singleton]) l2 q3
/-- a new instance, then its __init__ -/
def Made (C : Addr) (sp : Sp) (E : XK) (H : Hp) (Q : VK) (vs : Addr → List V) : Prop :=
  ∀ x dx, H x = none → H dx = none → dx ≠ x →
    sp (vs x) (upd (upd H dx (.own x)) x (.ins C dx [])) (fun v H2 => v = .non ∧ Q (.ref x) H2) E
theorem runM {vs : Addr → List V} (M : Mk X.K C f) (F : Fg X k f fd ps sp)
    (z : RoomG (k + 1) X.A) (hx : Ps X E) (I : Inv X pins σ H s) {us0 : List Value} {kw : List (Str × Value)}
    {us : Addr → List Value} (hb : ∀ (s : Shared) (x : Addr), X.K.In s.heap → BindsTo s fd ⟨.ref x :: us0, kw⟩ (ps.zip (us x)))
    (h : Made C sp E H Q vs)
    (rv : ∀ x, Vals (vs x) (us x)) :
    wpAny (model X.prog X.w) X.A (call (.ref C) us0 kw) (EP X pins σ Q) X.xe s := by
  have hq := h (s.heap.objs.size + 1) s.heap.objs.size (I.hok.fresh (Nat.le_succ _)) (I.hok.fresh (Nat.le_refl _))
    (Nat.ne_of_lt (Nat.lt_succ_self _))
  have I2 := Inv.made (C := C) I
  refine wpAny_call (make_map (f := f) I.kIn M.makes M.init (beq_iff_eq.mp M.fn) (codeAny_mono
    (F.run _ X.stack _ _ ⟨.ref (s.heap.objs.size + 1) :: us0, kw⟩ _ _ _ E (z.make C us0 kw)
      (I2.env0.make C us0 kw) (hb _ _ I2.kIn) (rv _) hq) ?_))
  intro r s' q
  match r, q with
  | .error e, q => exact hx pins σ _ _ e s' I2 q
  | .ok (.ret u), q =>
    obtain ⟨v, H', I3, rv, ev, q3⟩ := I2.after q
    subst ev
    exact ⟨rv, ⟨V.ref (s.heap.objs.size + 1), H', I3, rfl, q3⟩⟩
  | .ok .next, q => exact False.elim q
  | .ok .brk, q => exact False.elim q
  | .ok .cont, q => exact False.elim q
def tMk (C : Addr) (sp : Sp) (dvs : List V) (E : XK) (t : TA) : TE := fun σ H Q => t σ H fun vs H1 =>
  Made C sp E H1 Q fun x => .ref x :: (vs ++ dvs)
def tMkK (C : Addr) (n m : Nat) (sp : Sp) (gV : List V → List V → List V) (E : XK) (t tk : TA) : TE := fun σ H Q =>
  t σ H fun vs H1 => tk σ H1 fun zs H2 => vs.length = n ∧ zs.length = m ∧ Made C sp E H2 Q fun x => gV (.ref x :: vs) zs
theorem made_len {vs : Addr → List V} (F : Fg X k f fd ps sp) (I : Inv X pins σ H s) (h : Made C sp E H Q vs) :
    ∃ x, (vs x).length = ps.length := by
  have hq := h (s.heap.objs.size + 1) s.heap.objs.size (I.hok.fresh (Nat.le_succ _)) (I.hok.fresh (Nat.le_refl _))
    (Nat.ne_of_lt (Nat.lt_succ_self _))
  exact ⟨_, F.len _ _ _ _ hq⟩
theorem mk1 (M : Mk X.K C f) (F : Fg X k f fd ps sp) (z : RoomG (k + 1) X.A) (hg : Gl X x)
    (hm : X.mg x = some (.ref C)) (hb : BindsD X.K fd ps dvs) (hx : Ps X E) (ha : PA X (e :: es) t)
    (hdb : (x == ("__debug__" : Str)) = false := by decide)
    (he : starEach (e :: es) X.env = (false, eval e X.env) :: starEach es X.env := by rfl)
    (hpl : (backTo pos (starEach es X.env)).any (·.1) = false := by rfl) :
    PE X (.Call (.Name x p) (e :: es) [] pos) (tMk C sp dvs E t) := by
  obtain ⟨ds, hd, hb⟩ := hb
  constructor
  intro pins s σ H Q I h
  refine wpAny_Call_Name_kw (ld_glob I hg hm ?_ hdb)
  refine PySem.W.callWith_K (h₀ := X.base) I.ok.mod.kin M.kp ?_ he hpl
  refine thn (ha.run pos pins s σ H _ I h) ?_
  intro us s1 y
  obtain ⟨vs, H1, I1, r, q⟩ := y
  refine ⟨I1.kIn, ?_⟩
  obtain ⟨x0, hl⟩ := made_len F I1 q
  refine runM (us := fun x => .ref x :: (us ++ ds)) M F z hx I1 ?_ q (fun x => .cons rfl (r.append hd))
  intro s2 x2 kin
  refine hb s2 (.ref x2 :: us) kin ?_
  rw [← hl]
  have e1 := r.length
  have e2 := hd.length
  simp only [List.length_cons, List.length_append, List.cons_append] at *
  omega
theorem mk0 (M : Mk X.K C f) (F : Fg X k f fd ps sp) (z : RoomG (k + 1) X.A) (hg : Gl X x)
    (hm : X.mg x = some (.ref C)) (hb : BindsD X.K fd ps dvs) (hx : Ps X E)
    (hdb : (x == ("__debug__" : Str)) = false := by decide) :
    PE X (.Call (.Name x p) [] [] pos) (tMk C sp dvs E tNil) := by
  obtain ⟨ds, hd, hb⟩ := hb
  constructor
  intro pins s σ H Q I h
  refine wpAny_Call_Name_kw (ld_glob I hg hm ?_ hdb)
  refine PySem.W.callWith_K0 I.kIn M.kp ?_
  obtain ⟨x0, hl⟩ := made_len F I h
  refine runM (us0 := []) (us := fun x => .ref x :: ([] ++ ds)) M F z hx I ?_ h (fun x => .cons rfl (Vals.append .nil hd))
  intro s2 x2 kin
  refine hb s2 [.ref x2] kin ?_
  rw [← hl]
  have e2 := hd.length
  simp only [List.length_cons, List.length_append, List.cons_append, List.length_nil, List.nil_append] at *
  omega
theorem mkK (M : Mk X.K C f) (F : Fg X k f fd ps sp) (z : RoomG (k + 1) X.A) (hg : Gl X x)
    (hm : X.mg x = some (.ref C)) (hb : KBnD X.K fd ps (n + 1) ks gV) (hx : Ps X E) (ha : PA X (e :: es) t)
    (hkw : PK X kws tk)
    (hall : (backToKw pos (keywordEach kws X.env)).all (·.1.isSome) = true := by rfl)
    (hks : (backToKw pos (keywordEach kws X.env)).filterMap (·.1) = ks := by rfl)
    (hdb : (x == ("__debug__" : Str)) = false := by decide)
    (he : starEach (e :: es) X.env = (false, eval e X.env) :: starEach es X.env := by rfl)
    (hpl : ((backTo pos (starEach (e :: es) X.env)).any (·.1) ||
      (backToKw pos (keywordEach kws X.env)).any (·.1.isNone)) = false := by rfl) :
    PE X (.Call (.Name x p) (e :: es) kws pos) (tMkK C n ks.length sp gV E t tk) := by
  obtain ⟨g, hb⟩ := hb
  constructor
  intro pins s σ H Q I h
  refine wpAny_Call_Name_kw (ld_glob I hg hm ?_ hdb)
  refine PySem.W.callWith_KW (h₀ := X.base) I.ok.mod.kin M.kp hall ?_ hpl he
  refine thn (ha.run pos pins s σ H _ I h) ?_
  intro us s1 y
  obtain ⟨vs, H1, I1, r, q⟩ := y
  refine thn (hkw.run pos pins s1 σ H1 _ I1 q) ?_
  intro ws s2 y
  obtain ⟨zs, H2, I2, rz, l1, l2, q2⟩ := y
  refine ⟨I2.kIn, ?_⟩
  rw [hks]
  refine runM (us := fun x => g (.ref x :: us) ws) M F z hx I2 ?_ q2 (fun x => hb.rel (.cons rfl r) rz)
  intro s3 x3 kin
  refine hb.to s3 (.ref x3 :: us) ws kin ?_ (rz.length.symm.trans l2)
  rw [List.length_cons, ← r.length, l1]
theorem mkK0 (M : Mk X.K C f) (F : Fg X k f fd ps sp) (z : RoomG (k + 1) X.A) (hg : Gl X x)
    (hm : X.mg x = some (.ref C)) (hb : KBnD X.K fd ps 1 ks gV) (hx : Ps X E)
    (hkw : PK X kws tk)
    (hall : (backToKw pos (keywordEach kws X.env)).all (·.1.isSome) = true := by rfl)
    (hks : (backToKw pos (keywordEach kws X.env)).filterMap (·.1) = ks := by rfl)
    (hdb : (x == ("__debug__" : Str)) = false := by decide)
    (hpl : ((backTo pos (starEach [] X.env)).any (·.1) ||
      (backToKw pos (keywordEach kws X.env)).any (·.1.isNone)) = false := by rfl) :
    PE X (.Call (.Name x p) [] kws pos) (tMkK C 0 ks.length sp gV E tNil tk) := by
  obtain ⟨g, hb⟩ := hb
  constructor
  intro pins s σ H Q I h
  refine wpAny_Call_Name_kw (ld_glob I hg hm ?_ hdb)
  refine PySem.W.callWith_KW0 (h₀ := X.base) I.ok.mod.kin M.kp hall ?_ hpl
  refine thn (hkw.run pos pins s σ H _ I h) ?_
  intro ws s2 y
  obtain ⟨zs, H2, I2, rz, l1, l2, q2⟩ := y
  refine ⟨I2.kIn, ?_⟩
  rw [hks]
  refine runM (us0 := []) (us := fun x => g [.ref x] ws) M F z hx I2 ?_ q2 (fun x => hb.rel (.cons rfl .nil) rz)
  intro s3 x3 kin
  exact hb.to s3 [.ref x3] ws kin rfl (rz.length.symm.trans l2)
end
section
variable {P : Program} {w : World} {K : PySem.W.Frag} {mg : Str → Option Value} {base : Heap}
theorem okD {x qual : Str} {params : Arguments} {body : List Stmt} {scope : Scope} {dvs : List V} {kws : List (Str × V)}
    {f : Addr} {fd : FuncData} {N ps : List Str} {k : Nat} {sp : Sp}
    (F : FunD K x qual params body scope dvs kws f fd) (S : FnScope N ps scope)
    (len : ∀ vs H Q E, sp vs H Q E → vs.length = ps.length)
    (hb : ∀ (cdv : Value) (A : Around) (outer : List Env) (s : Shared) (H : Hp) (vs : List V)
      (Q : VK) (E : XK), RoomG k (A.deeper (envOfC qual scope s.heap.objs.size f cdv)) →
      sp vs H Q E →
      ∃ t, PSs (cxOf (L2.CX P w) P w K mg base N qual scope f cdv A outer s H E) body t ∧
        t { nx := fun _ H' => Q .non H', rt := Q } (start N vs) H) :
    FnG P w K mg base (k + 1) f fd ps sp := by
  obtain ⟨oc, od, dV, kV, doc, pm, an, cdv, ct, osl, rfl, lk, hcd, _, _⟩ := F.ex
  exact FnG.body lk hcd S len fun A outer s H vs Q E z h => hb cdv A outer s H vs Q E z h
end
/-! readings of these -/
section
variable {K : PySem.W.Frag} {σ : L2.St} {H : Hp} {Q : VK} {D : Ends} {a C dx p : Addr} {fs : List (Str × V)} {f m : Str} {v : V}
variable {ta tv : TE} {t tk : TA} {sp : Sp} {E : XK} {vs zs : List V} {gV : List V → List V → List V} {n k : Nat}
def MethR (C : Addr) (m : Str) (sp : Sp) (E : XK) (t : TA) (σ : L2.St) (x : V) (H1 : Hp) (Q : VK) : Prop :=
  ∃ a dx fs, x = .ref a ∧ H1 a = some (.ins C dx fs) ∧ fs.lookup m = none ∧ t σ H1 fun vs H2 => sp (x :: vs) H2 Q E
theorem i_meth (h : ta σ H fun x H1 => MethR C m sp E t σ x H1 Q) : tMeth C m sp [] E ta t σ H Q := by
  unfold tMeth
  simp only [List.append_nil]
  exact h
instance red_i_meth  : Red (tMeth C m sp [] E ta t σ H Q) (ta σ H fun x H1 => MethR C m sp E t σ x H1 Q) := ⟨i_meth⟩
theorem i_methR (ho : H a = some (.ins C dx fs)) (hl : fs.lookup m = none)
    (h : t σ H fun vs H2 => sp (.ref a :: vs) H2 Q E) : MethR C m sp E t σ (.ref a) H Q := ⟨a, dx, fs, rfl, ho, hl, h⟩
def MethW (C : Addr) (nm : Str) (n m : Nat) (sp : Sp) (gV : List V → List V → List V) (E : XK) (t tk : TA) (σ : L2.St) (x : V)
    (H1 : Hp) (Q : VK) : Prop := ∃ a dx fs, x = .ref a ∧ H1 a = some (.ins C dx fs) ∧ fs.lookup nm = none ∧
    t σ H1 fun vs H2 => tk σ H2 fun zs H3 => vs.length = n ∧ zs.length = m ∧ sp (gV (x :: vs) zs) H3 Q E
theorem i_methW (h : ta σ H fun x H1 => MethW C m n k sp gV E t tk σ x H1 Q) : tMw C m n k sp gV E ta t tk σ H Q := h
instance red_i_methW  : Red (tMw C m n k sp gV E ta t tk σ H Q) (ta σ H fun x H1 => MethW C m n k sp gV E t tk σ x H1 Q) := ⟨i_methW⟩
theorem i_methWR (ho : H a = some (.ins C dx fs)) (hl : fs.lookup m = none)
    (h : t σ H fun vs H2 => tk σ H2 fun zs H3 => vs.length = n ∧ zs.length = k ∧ sp (gV (.ref a :: vs) zs) H3 Q E) :
    MethW C m n k sp gV E t tk σ (.ref a) H Q := ⟨a, dx, fs, rfl, ho, hl, h⟩
theorem i_lens {P : Prop} (h1 : vs.length = n) (h2 : zs.length = k) (h : P) : vs.length = n ∧ zs.length = k ∧ P := ⟨h1, h2, h⟩
theorem i_kw (h : t σ H fun vs H1 => tk σ H1 fun zs H2 => vs.length = n ∧ zs.length = k ∧ sp (gV vs zs) H2 Q E) :
    tKw n k sp gV E t tk σ H Q := h
instance red_i_kw  : Red (tKw n k sp gV E t tk σ H Q) (t σ H fun vs H1 => tk σ H1 fun zs H2 => vs.length = n ∧ zs.length = k ∧ sp (gV vs zs) H2 Q E) := ⟨i_kw⟩
theorem i_mk (h : t σ H fun vs H1 => Made C sp E H1 Q fun x => .ref x :: vs) : tMk C sp [] E t σ H Q := by
  unfold tMk
  simp only [List.append_nil]
  exact h
instance red_i_mk  : Red (tMk C sp [] E t σ H Q) (t σ H fun vs H1 => Made C sp E H1 Q fun x => .ref x :: vs) := ⟨i_mk⟩
theorem i_mkD {dvs : List V} (h : t σ H fun vs H1 => Made C sp E H1 Q fun x => .ref x :: (vs ++ dvs)) : tMk C sp dvs E t σ H Q := h
instance (priority := 900) red_i_mkD {dvs : List V} : Red (tMk C sp dvs E t σ H Q) (t σ H fun vs H1 => Made C sp E H1 Q fun x => .ref x :: (vs ++ dvs)) := ⟨i_mkD⟩
theorem i_mkK (h : t σ H fun vs H1 => tk σ H1 fun zs H2 => vs.length = n ∧ zs.length = k ∧
    Made C sp E H2 Q fun x => gV (.ref x :: vs) zs) : tMkK C n k sp gV E t tk σ H Q := h
instance red_i_mkK  : Red (tMkK C n k sp gV E t tk σ H Q) (t σ H fun vs H1 => tk σ H1 fun zs H2 => vs.length = n ∧ zs.length = k ∧
    Made C sp E H2 Q fun x => gV (.ref x :: vs) zs) := ⟨i_mkK⟩
/-- an attribute -/
def FldR (K : PySem.W.Frag) (f : Str) (x : V) (H1 : Hp) (Q : VK) : Prop := ∃ a C dx fs v, x = .ref a ∧
  H1 a = some (.ins C dx fs) ∧ Cls K C ∧ NoAttr K C f ∧ fs.lookup f = some v ∧ Q v H1
theorem i_fld (h : ta σ H fun x H1 => FldR K f x H1 Q) : tFld K ta f σ H Q := h
instance red_i_fld  : Red (tFld K ta f σ H Q) (ta σ H fun x H1 => FldR K f x H1 Q) := ⟨i_fld⟩
theorem i_fldR (ho : H a = some (.ins C dx fs)) (c : Cls K C) (n : NoAttr K C f) (hl : fs.lookup f = some v)
    (h : Q v H) : FldR K f (.ref a) H Q := ⟨a, C, dx, fs, v, rfl, ho, c, n, hl, h⟩
def FldS (K : PySem.W.Frag) (f : Str) (y x : V) (D : Ends) (σ : L2.St) (H2 : Hp) : Prop := ∃ a C dx fs, x = .ref a ∧
  H2 a = some (.ins C dx fs) ∧ Cls K C ∧ NoAttr K C f ∧ fs.length < 1000 ∧ D.nx σ (upd H2 a (.ins C dx (putF f y fs)))
theorem i_fldS (h : tv σ H fun y H1 => ta σ H1 fun x H2 => FldS K f y x D σ H2) : sFld K ta tv f D σ H := h
instance red_i_fldS  : Red (sFld K ta tv f D σ H) (tv σ H fun y H1 => ta σ H1 fun x H2 => FldS K f y x D σ H2) := ⟨i_fldS⟩
theorem i_fldSR {y : V} (ho : H a = some (.ins C dx fs)) (c : Cls K C) (n : NoAttr K C f) (hl : fs.length < 1000)
    (h : D.nx σ (upd H a (.ins C dx (putF f y fs)))) : FldS K f y (.ref a) D σ H := ⟨a, C, dx, fs, rfl, ho, c, n, hl, h⟩
end
end G
namespace G
open PySem PySem.Spec PyProof.Rows L2
/-! the facts of the top -/
section
variable {K : PySem.W.Frag} {x qual : Str} {st : Stmt} {f D : Addr} {oc : Value} {od an : Option Addr} {osl : Array (Option Value)}
variable {kV doc pm cdv ct : Value} {ps : List Str}
theorem fund0 (l : K.lookup f = some ⟨oc, od, .func (PySem.W.fnOf x qual (defArgs st) (defBody st)
      (defScope st) .none kV doc pm an cdv ct), osl⟩)
    (c : PySem.W.codeIn K cdv qual = true) (k : PySem.W.keepIn K (.ref f) = true) :
    FunD K x qual (defArgs st) (defBody st) (defScope st) [] [] f
      (PySem.W.fnOf x qual (defArgs st) (defBody st) (defScope st) .none kV doc pm an cdv ct) :=
  ⟨⟨oc, od, .none, kV, doc, pm, an, cdv, ct, osl, rfl, l, c, .inl ⟨rfl, rfl⟩, .inl rfl⟩, k⟩
theorem fund1 {kws : List (Str × V)} (l : K.lookup f = some ⟨oc, od, .func (PySem.W.fnOf x qual (defArgs st) (defBody st)
      (defScope st) .none (.ref D) doc pm an cdv ct), osl⟩)
    (c : PySem.W.codeIn K cdv qual = true) (k : PySem.W.keepIn K (.ref f) = true)
    (q : ∀ q ∈ kws, ∃ u, PySem.W.nsIn K D q.1 = some (some u) ∧ RelV q.2 u) :
    FunD K x qual (defArgs st) (defBody st) (defScope st) [] kws f
      (PySem.W.fnOf x qual (defArgs st) (defBody st) (defScope st) .none (.ref D) doc pm an cdv ct) :=
  ⟨⟨oc, od, .none, .ref D, doc, pm, an, cdv, ct, osl, rfl, l, c, .inl ⟨rfl, rfl⟩, .inr ⟨D, rfl, q⟩⟩, k⟩
theorem kw_one {nm : Str} {v : V} {u : Value} (e : PySem.W.nsIn K D nm = some (some u)) (r : RelV v u) :
    ∀ q ∈ [(nm, v)], ∃ u, PySem.W.nsIn K D q.1 = some (some u) ∧ RelV q.2 u := fun q hq => by
  rw [List.mem_singleton.mp hq]
  exact ⟨u, e, r⟩
theorem kw_more {nm : Str} {v : V} {u : Value} {l : List (Str × V)} (e : PySem.W.nsIn K D nm = some (some u)) (r : RelV v u)
    (h : ∀ q ∈ l, ∃ u, PySem.W.nsIn K D q.1 = some (some u) ∧ RelV q.2 u) :
    ∀ q ∈ (nm, v) :: l, ∃ u, PySem.W.nsIn K D q.1 = some (some u) ∧ RelV q.2 u := fun q hq => by
  rcases List.mem_cons.mp hq with z | z
  · rw [z]
    exact ⟨u, e, r⟩
  · exact h q z
/-- positional values, then by places of what the keywords and the defaults give -/
def gp (idx : List Nat) {α : Type} (vs mz zs : List α) : List α := vs ++ idx.filterMap fun i => (zs ++ mz)[i]?
theorem vals_idx {vs : List V} {us : List Value} (r : Vals vs us) : ∀ idx : List Nat,
    Vals (idx.filterMap fun i => vs[i]?) (idx.filterMap fun i => us[i]?)
  | [] => .nil
  | i :: idx => by
    have ih := vals_idx r idx
    cases e : vs[i]? with
    | none =>
      have e2 := Vals.none_of r e
      rw [List.filterMap_cons_none e, List.filterMap_cons_none e2]
      exact ih
    | some v =>
      obtain ⟨u, e2, q⟩ := Vals.get r e
      rw [List.filterMap_cons_some e, List.filterMap_cons_some e2]
      exact .cons q ih
theorem gp_rel (idx : List Nat) {vs mz zs : List V} {us mv ws : List Value} (r : Vals vs us) (r1 : Vals mz mv) (r2 : Vals zs ws) :
    Vals (gp idx vs mz zs) (gp idx us mv ws) := r.append (vals_idx (r2.append r1) idx)
variable {params : Arguments} {body : List Stmt} {scope : Scope} {fd : FuncData} {kws : List (Str × V)}
theorem bindN (F : FunD K x qual params body scope [] [] f fd)
    (h : ∀ (kV doc pm : Value) (an : Option Addr) (cdv ct : Value) (us : List Value), us.length = ps.length →
      bindArgs (PySem.W.fnOf x qual params body scope .none kV doc pm an cdv ct) ⟨us, []⟩ = pure (ps.zip us)) :
    BindsD K fd ps [] := BindsD.plain (F.bindsN h)
theorem bindK (F : FunD K x qual params body scope [] kws f fd) (n : Nat) (hk : kws ≠ []) (hn : n + kws.length = ps.length)
    (h : ∀ (D : Addr) (doc pm : Value) (an : Option Addr) (cdv ct : Value) (us ks : List Value), us.length = n →
      ks.length = kws.length → KwChain D ((kws.map (·.1)).zip ks)
        (bindArgs (PySem.W.fnOf x qual params body scope .none (.ref D) doc pm an cdv ct) ⟨us, []⟩) (ps.zip (us ++ ks))) :
    BindsD K fd ps (kws.map (·.2)) := F.binds0 n hk hn h
theorem kbN (F : FunD K x qual params body scope [] [] f fd) (n : Nat) (ks : List Str) (idx : List Nat)
    (h : ∀ (kV doc pm : Value) (an : Option Addr) (cdv ct : Value) (us ws : List Value), us.length = n →
      ws.length = ks.length → bindArgs (PySem.W.fnOf x qual params body scope .none kV doc pm an cdv ct) ⟨us, ks.zip ws⟩ =
        pure (ps.zip (gp idx us [] ws))) : KBnD K fd ps n ks (fun vs zs => gp idx vs [] zs) := by
  refine ⟨fun us ws => gp idx us [] ws, ?_, fun r1 r2 => gp_rel idx r1 .nil r2⟩
  intro s us ws kin l1 l2
  obtain ⟨oc, od, dV, kV, doc, pm, an, cdv, ct, osl, rfl, lk, hcd, hD, hK⟩ := F.ex
  rcases hD with ⟨_, rfl⟩ | ⟨e, _⟩
  · exact .of_eq (h kV doc pm an cdv ct us ws l1 l2)
  · exact absurd rfl e
theorem kbK (F : FunD K x qual params body scope [] kws f fd) (n : Nat) (ks : List Str) (ms : List (Str × V)) (idx : List Nat)
    (hk : kws ≠ []) (hms : ∀ q ∈ ms, q ∈ kws)
    (h : ∀ (D : Addr) (doc pm : Value) (an : Option Addr) (cdv ct : Value) (us mv ws : List Value), us.length = n →
      mv.length = ms.length → ws.length = ks.length → KwChain D ((ms.map (·.1)).zip mv)
        (bindArgs (PySem.W.fnOf x qual params body scope .none (.ref D) doc pm an cdv ct) ⟨us, ks.zip ws⟩)
        (ps.zip (gp idx us mv ws))) : KBnD K fd ps n ks (fun vs zs => gp idx vs (ms.map (·.2)) zs) := by
  obtain ⟨mv, h⟩ := F.kbinds0 n ks ms (fun vs mz zs => gp idx vs mz zs) hk hms (fun r r1 r2 => gp_rel idx r r1 r2) h
  exact ⟨_, h⟩
end
end G
namespace G
open PySem PySem.Spec PyProof.Rows L2
section
variable {X : Cx} {K : PySem.W.Frag} {k n : Nat} {f C : Addr} {fd : FuncData} {ps : List Str} {sp : Sp}
variable {dvs : List V} {E : XK} {x m : Str} {p pos pos' : Pos} {e o value : Expr} {fl : Str} {ta tv : TE}
theorem d0 (F : Fg X k f fd ps sp) (z : RoomG k X.A) (hg : Gl X x) (hm : X.mg x = some (.ref f))
    (hk : PySem.W.keepIn X.K (.ref f) = true) (hb : BindsD X.K fd ps dvs)
    (hx : Ps X E) (hdb : (x == ("__debug__" : Str)) = false := by decide) :
    PE X (.Call (.Name x p) [] [] pos) (tCall sp dvs E tNil) := by
  obtain ⟨ds, hd, hb⟩ := hb
  exact c0 F z hg hm hk hb hd hx hdb
theorem k_sfld (h : X.K = K) (ha : PE X o ta) (hv : PE X value tv)
    (hs : swapsWith value (some (.Attribute o fl pos')) pos.line X.env = pure false) :
    PS X (.Assign [.Attribute o fl pos'] value pos) (sFld K ta tv fl) := h ▸ ps_fld ha hv hs
theorem k_pzip {e2 : Expr} {t : TA} {tpos : Pos} {elts : List Expr} {kk : Nat} (h : X.K = K) (hg : Gl X "zip") (hm : X.mg "zip" = none)
    (ha : PA X [e, e2] t) (hs : starEach [e, e2] X.env = (false, eval e X.env) :: starEach [e2] X.env := by rfl)
    (hpl : (backTo pos (starEach [e2] X.env)).any (·.1) = false := by rfl) :
    PI X (.Tuple elts kk tpos) (.Call (.Name "zip" p) [e, e2] [] pos) (iZip K t) := h ▸ pi_zip hg hm ha hs hpl
end
section
variable {K : PySem.W.Frag} {σ : L2.St} {H H1 : Hp} {Q : VK} {D : Ends} {tb : TS} {te : TE} {tt : TT} {g : TG}
variable {a b p q l C dx : Addr} {xs ys vs us : List V} {v x y : V} {fs : List (Str × V)} {f m : Str} {t ta : TE} {tr : TA} {sp : Sp} {E : XK}
variable {dvs : List V} {vn : List Nat}
theorem i_methD {t : TA} (h : ta σ H fun x H1 => MethR C m sp E (fun σ H Q => t σ H fun vs H' => Q (vs ++ dvs) H') σ x H1 Q) :
    tMeth C m sp dvs E ta t σ H Q := h
instance (priority := 900) red_i_methD {t : TA} : Red (tMeth C m sp dvs E ta t σ H Q) (ta σ H fun x H1 => MethR C m sp E (fun σ H Q => t σ H fun vs H' => Q (vs ++ dvs) H') σ x H1 Q) := ⟨i_methD⟩
theorem i_isNn (h : Q (.bl true) H) : rIsN .non .non H Q := ⟨rfl, h⟩
instance red_i_isNn  : Red (rIsN .non .non H Q) (Q (.bl true) H) := ⟨i_isNn⟩
theorem i_isNr (h : Q (.bl false) H) : rIsN (.ref a) .non H Q := ⟨rfl, h⟩
instance red_i_isNr  : Red (rIsN (.ref a) .non H Q) (Q (.bl false) H) := ⟨i_isNr⟩
theorem i_isNi {n : Int} (h : Q (.bl false) H) : rIsN (.int n) .non H Q := ⟨rfl, h⟩
instance red_i_isNi {n : Int} : Red (rIsN (.int n) .non H Q) (Q (.bl false) H) := ⟨i_isNi⟩
theorem i_notNn (h : Q (.bl false) H) : rNotN .non .non H Q := ⟨rfl, h⟩
instance red_i_notNn  : Red (rNotN .non .non H Q) (Q (.bl false) H) := ⟨i_notNn⟩
theorem i_notNr (h : Q (.bl true) H) : rNotN (.ref a) .non H Q := ⟨rfl, h⟩
instance red_i_notNr  : Red (rNotN (.ref a) .non H Q) (Q (.bl true) H) := ⟨i_notNr⟩
theorem i_notNi {n : Int} (h : Q (.bl true) H) : rNotN (.int n) .non H Q := ⟨rfl, h⟩
instance red_i_notNi {n : Int} : Red (rNotN (.int n) .non H Q) (Q (.bl true) H) := ⟨i_notNi⟩
/-- a for over zip of two lists -/
def ForZ (K : PySem.W.Frag) (ws : List V) (g : TG) (tb : TS) (D : Ends) (σ : L2.St) (H : Hp) : Prop :=
  ∃ a b xs ys, ws = [.ref a, .ref b] ∧ SqL K H a xs ∧ SqL K H b ys ∧ ∃ W : Nat → Nat → L2.St → Hp → Prop,
    (∃ m, W 0 m σ H) ∧ ∀ i m σ H, W i m σ H → ((Itz K a b).stop i H ∧ D.nx σ H) ∨
      ((Itz K a b).go i H ∧ ∃ Nx : L2.St → Hp → Prop,
        (∀ σ' H', Nx σ' H' → ∃ m', m' < m ∧ W (i + 1) m' σ' H') ∧
        ∀ x H', (Itz K a b).yld i H x H' → g x σ H' fun σ2 H2 =>
          tb { D with nx := Nx, ct := Nx, bk := D.nx } σ2 H2)
theorem i_forZ (h : tr σ H fun ws H1 => ForZ K ws g tb D σ H1) : tFor (iZip K tr) g tb D σ H := h
instance red_i_forZ  : Red (tFor (iZip K tr) g tb D σ H) (tr σ H fun ws H1 => ForZ K ws g tb D σ H1) := ⟨i_forZ⟩
theorem i_both (hx : SqL K H a xs) (hy : SqL K H b ys) (Pv : Nat → L2.St → Hp → Prop) (h0 : Pv 0 σ H)
    (hl : ∀ i σ H, Pv i σ H → SqL K H a xs ∧ SqL K H b ys)
    (st : ∀ i x y T σ H, xs[i]? = some x → ys[i]? = some y → Pv i σ H → Fr H T → g (.ref T) σ (upd H T (.tup [x, y])) fun σ2 H2 =>
      tb { D with nx := Pv (i + 1), ct := Pv (i + 1), bk := D.nx } σ2 H2)
    (hd : ∀ σ H, Pv (min xs.length ys.length) σ H → D.nx σ H) : ForZ K [.ref a, .ref b] g tb D σ H := by
  refine ⟨a, b, xs, ys, rfl, hx, hy, fun i m σ H => m = min xs.length ys.length - i ∧ i ≤ min xs.length ys.length ∧ Pv i σ H,
    ⟨_, rfl, Nat.zero_le _, h0⟩, ?_⟩
  rintro i m σ H ⟨rfl, hi, z⟩
  obtain ⟨qx, qy⟩ := hl i σ H z
  by_cases c : i < min xs.length ys.length
  · have c1 : i < xs.length := by omega
    have c2 : i < ys.length := by omega
    refine .inr ⟨⟨xs, ys, _, _, qx, qy, List.getElem?_eq_getElem c1, List.getElem?_eq_getElem c2⟩, Pv (i + 1),
      fun σ' H' w => ⟨_, by omega, rfl, by omega, w⟩, ?_⟩
    rintro v H' ⟨T, x', y', rfl, hT, rfl, f1, f2⟩
    exact st i x' y' T σ H (f1 xs qx) (f2 ys qy) z ⟨hT⟩
  · have e : i = min xs.length ys.length := by omega
    refine .inl ⟨⟨xs, ys, qx, qy, by omega⟩, hd σ H (by rw [← e]; exact z)⟩
/-- a comprehension over zip of two lists -/
def LcZ (K : PySem.W.Frag) (ws : List V) (g : TG) (tt : TT) (te : TE) (vs : List Nat) (σ : L2.St) (H1 : Hp) (Q : VK) : Prop :=
  ∃ a b xs ys, ws = [.ref a, .ref b] ∧ SqL K H1 a xs ∧ SqL K H1 b ys ∧ ∀ D, H1 D = none →
    ∃ W : Nat → Nat → Hp → Prop, (∃ m, W 0 m (upd H1 D (.lst []))) ∧ ∀ i m H, W i m H →
      ((Itz K a b).stop i H ∧ Q (.ref D) H) ∨ ((Itz K a b).go i H ∧ ∃ Nx : Hp → Prop,
        (∀ H', Nx H' → ∃ m', m' < m ∧ W (i + 1) m' H') ∧
        ∀ x H', (Itz K a b).yld i H x H' → g x (wipe σ vs) H' fun σ2 H2 => wipe σ2 vs = wipe σ vs ∧ tt σ2 H2 fun b H3 =>
          if b = true then te σ2 H3 fun y H4 => ∃ acc, H4 D = some (.lst acc) ∧ acc.length < sizeLine ∧
            Nx (upd H4 D (.lst (acc ++ [y]))) else Nx H3)
theorem i_lcZ (h : tr σ H fun ws H1 => LcZ K ws g tt te vn σ H1 Q) : tLc (iZip K tr) g tt te vn σ H Q := h
instance red_i_lcZ  : Red (tLc (iZip K tr) g tt te vn σ H Q) (tr σ H fun ws H1 => LcZ K ws g tt te vn σ H1 Q) := ⟨i_lcZ⟩
theorem i_eltz (hx : SqL K H a xs) (hy : SqL K H b ys) (Pv : Addr → Nat → Hp → Prop)
    (h0 : ∀ D, Fr H D → Pv D 0 (upd H D (.lst [])))
    (hl : ∀ D i H', Fr H D → Pv D i H' → SqL K H' a xs ∧ SqL K H' b ys)
    (st : ∀ D i x y T H', Fr H D → xs[i]? = some x → ys[i]? = some y → Pv D i H' → Fr H' T →
      g (.ref T) (wipe σ vn) (upd H' T (.tup [x, y])) fun σ2 H2 =>
      wipe σ2 vn = wipe σ vn ∧ tt σ2 H2 fun b H3 => if b = true then te σ2 H3 fun y H4 =>
        ∃ acc, H4 D = some (.lst acc) ∧ acc.length < sizeLine ∧ Pv D (i + 1) (upd H4 D (.lst (acc ++ [y])))
        else Pv D (i + 1) H3)
    (hd : ∀ D H', Fr H D → Pv D (min xs.length ys.length) H' → Q (.ref D) H') : LcZ K [.ref a, .ref b] g tt te vn σ H Q := by
  refine ⟨a, b, xs, ys, rfl, hx, hy, fun D hD => ⟨fun i m H => m = min xs.length ys.length - i ∧ i ≤ min xs.length ys.length ∧ Pv D i H,
    ⟨_, rfl, Nat.zero_le _, h0 D ⟨hD⟩⟩, ?_⟩⟩
  rintro i m H ⟨rfl, hi, z⟩
  obtain ⟨qx, qy⟩ := hl D i H ⟨hD⟩ z
  by_cases c : i < min xs.length ys.length
  · have c1 : i < xs.length := by omega
    have c2 : i < ys.length := by omega
    refine .inr ⟨⟨xs, ys, _, _, qx, qy, List.getElem?_eq_getElem c1, List.getElem?_eq_getElem c2⟩, Pv D (i + 1),
      fun H' w => ⟨_, by omega, rfl, by omega, w⟩, ?_⟩
    rintro v H' ⟨T, x', y', rfl, hT, rfl, f1, f2⟩
    exact st D i x' y' T H ⟨hD⟩ (f1 xs qx) (f2 ys qy) z ⟨hT⟩
  · have e : i = min xs.length ys.length := by omega
    refine .inl ⟨⟨xs, ys, qx, qy, by omega⟩, hd D H ⟨hD⟩ (by rw [← e]; exact z)⟩
/-- [v] * n -/
theorem i_rep {n : Int} (h : H l = some (.lst [v])) (h0 : 0 ≤ n) (h1 : n ≤ 1000000)
    (q : New H fun p => Q (.ref p) (upd H p (.lst (List.replicate n.toNat v)))) : rRep (.ref l) (.int n) H Q := by
  refine ⟨l, n, [v], rfl, rfl, h, by omega, by omega, ?_, fun p hp => ?_⟩
  · have e : ([v] : List V).length * n.toNat ≤ 1000000 := by
      rw [List.length_singleton]
      omega
    exact Nat.le_trans e (by decide)
  · have e : (List.replicate n.toNat [v]).flatten = List.replicate n.toNat v := by
      induction n.toNat with
      | zero => rfl
      | succ k ih => rw [List.replicate_succ, List.flatten_cons, ih, List.replicate_succ]; rfl
    rw [e]
    exact q p hp
/-- an object's entry -/
theorem Kp.upi {ws : List Addr} {H0 H1 : Hp} (k : Kp ws H0 H1) (h : H1 p = some (.ins C dx fs)) (hp : p ∈ ws) {o : HO} : Kp ws H0 (L2.upd H1 p o) :=
  k.trans (Kp.mut h (fun z => z) hp)
end
/-! ### runs and cells -/
def cells (ps : List (Int × Int)) : List Int := ps.flatMap fun p => List.replicate p.1.toNat p.2
def tag (c : Int) : Int × Int := (1, c)
end G
namespace G
open PySem PySem.Spec PyProof.Rows L2
section
variable {K : PySem.W.Frag} {σ : L2.St} {H H1 : Hp} {Q : VK} {a b p q l m C dx : Addr} {xs ys : List V} {fs : List (Str × V)} {o : HO}
variable {ds : List PyData} {ws : List Addr}
theorem i_addL (hx : H a = some (.lst xs)) (hy : H b = some (.lst ys)) (hz : xs.length + ys.length ≤ 1000000)
    (h : New H fun p => Q (.ref p) (upd H p (.lst (xs ++ ys)))) : uAdd K (.ref a) (.ref b) H Q :=
  .inr (.inr (.inl ⟨a, b, xs, ys, rfl, rfl, hx, hy, Nat.le_trans hz (by decide), h⟩))
theorem ld_ins (h : LD K H l ds) (hi : imms ds = true) (hq : H q = some (.ins C dx fs)) : LD K (upd H q o) l ds := by
  have k : Kp [q] H (L2.upd H q o) := Kp.mut hq (fun z => z) List.mem_cons_self
  refine h.kp k hi (not_one ?_)
  obtain ⟨vs, e, _⟩ := h
  intro z
  rw [z, hq] at e
  cases e
end
end G
namespace G
open L2 PySem
theorem fs_few {fs : List (Str × V)} (h : fs.length.blt 1000 = true) : fs.length < 1000 := by
  rw [Nat.blt_eq] at h
  exact h
end G
namespace G
open L2 PySem
theorem ld_push {K : PySem.W.Frag} {H0 H1 : Hp} {l : Addr} {vs : List V} {y : V} {ds : List PyData} {d : PyData} {ws : List Addr}
    (kp : Kp ws H0 H1) (h : DpAll K H0 vs ds) (hi : imms ds = true) (hv : H1 l = some (.lst (vs ++ [y]))) (hd : Dp K H1 y d) :
    LD K H1 l (ds ++ [d]) := ⟨_, hv, dpa_app (dpa_imm kp _ _ hi h) (dpa_one hd)⟩
end G
namespace G
open PySem PySem.Spec PyProof.Rows L2
/-! slices: read and written -/
section
variable {X : Cx} {o : Expr} {lo hi : Option Expr} {to : TE} {tl th : TO} {pos p2 : Pos}
def CutS (x : V) (i j : Option Int) (v : V) (H : Hp) (P : Hp → Prop) : Prop := ∃ l b xs ys a c, x = .ref l ∧ v = .ref b ∧
  i = some a ∧ j = some c ∧ H l = some (.lst xs) ∧ H b = some (.lst ys) ∧ l ≠ b ∧ 0 ≤ a ∧ a ≤ c ∧ c ≤ xs.length ∧
  xs.length + ys.length ≤ sizeLine ∧ P (upd H l (.lst (xs.take a.toNat ++ ys ++ xs.drop c.toNat)))
def gCut (to : TE) (tl th : TO) : TG := fun v σ H S => to σ H fun x H1 => tl σ H1 fun i H2 => th σ H2 fun j H3 =>
  CutS x i j v H3 fun H4 => S σ H4
theorem pg_cut (ho : PE X o to) (hl : PO X lo tl) (hu : PO X hi th)
    (ha : ∀ v, assign (.Subscript o (.Slice lo hi none p2) pos) X.env v = (do
      let ov ← holding [v] (eval o X.env)
      let iv ← holding [v, ov] (eval (.Slice lo hi none p2) X.env)
      standAt pos
      holding [v, ov, iv] (setItem ov iv v)
      release [iv, v, ov] []) := by intro _; rfl) :
    PG X (.Subscript o (.Slice lo hi none p2) pos) (gCut to tl th) := by
  constructor
  intro pins s σ H v u Q I r h
  rw [ha]
  refine wpAny_bind (wpAny_holding (thn (ho.run pins s σ H _ I h) ?_))
  rintro ov s1 ⟨x, H1, I1, r1, q1⟩
  refine wpAny_bind (wpAny_holding (PySem.wpAny_Slice (thn (hl.run pins s1 σ H1 _ I1 q1) ?_)))
  rintro vl s2 ⟨i, H2, I2, pl, q2⟩
  refine thn (hu.run pins s2 σ H2 _ I2 q2) ?_
  rintro vu s3 ⟨j, H3, I3, pu, q3⟩
  rw [evalPart_none]
  refine wpAny_pure ?_
  have I4 : Inv X pins σ H3 { s3 with heap := s3.heap.push { cls := .type "slice", data := .fields #[vl, vu, .none] } } :=
    I3.kept (t' := s3.toks) fun b ob z => Heap.get?_push_of_some _ z
  obtain ⟨l, b, xs, ys, a, c, rfl, rfl, rfl, rfl, e1, e2, ne, h0, hac, hc, hz, q⟩ := q3
  cases r1
  cases r
  cases pl
  rename_i ta
  cases pu
  rename_i tc
  refine wpAny_bind (wpAny_standAt (wpAny_bind (wpAny_holding ?_)))
  refine set_slice I4 e1 e2 ne (Heap.IsSliceOf.new ..) ⟨ta, rfl⟩ ⟨tc, rfl⟩ h0 hac hc hz ?_
  intro s5 I5
  exact wpAny_release ⟨σ, _, I5, q⟩
end
section
variable {K : PySem.W.Frag} {σ : L2.St} {H : Hp} {Q : VK} {a b l : Addr} {xs ys : List V} {r : V → Option Int → Option Int → Hp → VK → Prop}
variable {te to : TE} {tl th : TO} {P : Hp → Prop} {S : L2.St → Hp → Prop} {v x : V} {lo hi : Option Int} {R : Option Int → Hp → Prop}
theorem i_gCut (h : to σ H fun x H1 => tl σ H1 fun i H2 => th σ H2 fun j H3 => CutS x i j v H3 fun H4 => S σ H4) :
    gCut to tl th v σ H S := h
instance red_i_gCut  : Red (gCut to tl th v σ H S) (to σ H fun x H1 => tl σ H1 fun i H2 => th σ H2 fun j H3 => CutS x i j v H3 fun H4 => S σ H4) := ⟨i_gCut⟩
theorem i_cutS {i j : Int} (h1 : H l = some (.lst xs)) (h2 : H b = some (.lst ys)) (ne : l ≠ b) (h0 : 0 ≤ i ∧ i ≤ j ∧ j ≤ xs.length)
    (hz : xs.length + ys.length ≤ 1000000) (q : P (upd H l (.lst (xs.take i.toNat ++ ys ++ xs.drop j.toNat)))) :
    CutS (.ref l) (some i) (some j) (.ref b) H P :=
  ⟨l, b, xs, ys, i, j, rfl, rfl, rfl, rfl, h1, h2, ne, h0.1, h0.2.1, h0.2.2, Nat.le_trans hz (by decide), q⟩
theorem i_sl (h : te σ H fun x H1 => tl σ H1 fun l H2 => th σ H2 fun u H3 => r x l u H3 Q) : tSl r te tl th σ H Q := h
instance red_i_sl  : Red (tSl r te tl th σ H Q) (te σ H fun x H1 => tl σ H1 fun l H2 => th σ H2 fun u H3 => r x l u H3 Q) := ⟨i_sl⟩
theorem i_part (h : te σ H fun x H1 => ∃ i, x = .int i ∧ R (some i) H1) : tPart te σ H R := h
instance red_i_part  : Red (tPart te σ H R) (te σ H fun x H1 => ∃ i, x = .int i ∧ R (some i) H1) := ⟨i_part⟩
theorem i_partI {n : Int} {P : Int → Prop} (h : P n) : ∃ i, V.int n = .int i ∧ P i := ⟨n, rfl, h⟩
instance red_i_partI {n : Int} {P : Int → Prop} : Red (∃ i, V.int n = .int i ∧ P i) (P n) := ⟨i_partI⟩
theorem i_noPart (h : R none H) : tNoPart σ H R := h
instance red_i_noPart  : Red (tNoPart σ H R) (R none H) := ⟨i_noPart⟩
theorem i_slL (h : SqL K H a xs) (q : New H fun p => Q (.ref p) (upd H p (.lst (cutV xs lo hi)))) : rSlL K (.ref a) lo hi H Q :=
  ⟨a, xs, rfl, h, q⟩
end
theorem cutV_mid {xs : List V} {i j : Int} (h : 0 ≤ i ∧ i ≤ j ∧ j ≤ xs.length) :
    cutV xs (some i) (some j) = (xs.drop i.toNat).take (j.toNat - i.toNat) := by
  obtain ⟨a, rfl⟩ := Int.eq_ofNat_of_zero_le h.1
  obtain ⟨c, rfl⟩ := Int.eq_ofNat_of_zero_le (Int.le_trans h.1 h.2.1)
  unfold cutV
  rw [HT.sIx_nat, HT.sIx_nat, Int.toNat_natCast, Int.toNat_natCast, Nat.min_eq_left (by omega), Nat.min_eq_left (by omega)]
theorem cutV_tail (x : V) (xs : List V) : cutV (x :: xs) (some 1) none = xs := by
  have e := HT.sIx_nat (x :: xs).length 0 1
  unfold cutV
  rw [show ((1 : Int)) = ((1 : Nat) : Int) from rfl, e, HT.sIx_none, List.length_cons, Nat.min_eq_left (by omega), List.drop_succ_cons, List.drop_zero]
  exact List.take_of_length_le (by omega)
theorem ix_nat {n j : Nat} (h : j < n) : ixN n (j : Int) = some j := by
  unfold ixN
  rw [if_pos (by omega), if_pos (by omega), Int.toNat_natCast]
theorem ix_int {n : Nat} {j : Int} (h0 : 0 ≤ j) (h : j < n) : ixN n j = some j.toNat := by
  unfold ixN
  rw [if_pos h0, if_pos h]
/-- one of two -/
theorem at_two {f : Nat → V} {r : Int} (h0 : 0 ≤ r) (h1 : r < 2) : atI [f 0, f 1] r = some (f r.toNat) := by
  have e : r = 0 ∨ r = 1 := by omega
  rcases e with rfl | rfl <;> rfl
end G
set_option Elab.async false
set_option linter.all false
set_option maxRecDepth 100000
set_option maxHeartbeats 4000000
namespace My
open PySem L2 G
/-! ### exceptions of the text's own classes, with an __init__ of their own -/
section
open PySem.W PySem.Calls PyProof.Rows
/-- what a class of the library gives to a class of the text over it -/
structure Under (B newId initId : String) (tail : List Value) : Prop where
  F : ExcBaseFacts B newId initId tail
  pass : ∀ self, refuseLoop self "__setattr__" tail = pure ()
  ob : tail.contains (.type "object") = true
  ne : tail.isEmpty = false
/-- classes of the text, then the library's -/
def refsOn (tail : List Value) : List Value → Bool
  | .ref _ :: r => refsOn tail r
  | l => l == tail
theorem refsOn_or {tail l : List Value} (h : refsOn tail l = true) : (∃ c r, l = .ref c :: r ∧ refsOn tail r = true) ∨ l = tail := by
  cases l with
  | nil => exact .inr (beq_iff_eq.mp h)
  | cons a r =>
    cases a with
    | ref c => exact .inl ⟨c, r, rfl, h⟩
    | _ => exact .inr (beq_iff_eq.mp h)
theorem Under.pass_all {B newId initId : String} {tail : List Value} (U : Under B newId initId tail) (self : Value) :
    ∀ l : List Value, refsOn tail l = true → refuseLoop self "__setattr__" l = pure () := by
  intro l
  induction l with
  | nil =>
    intro h
    rcases refsOn_or h with ⟨c, r, e, _⟩ | e
    · cases e
    · rw [e]
      exact U.pass self
  | cons a r ih =>
    intro h
    rcases refsOn_or h with ⟨c, r2, e, h2⟩ | e
    · cases e
      rw [refuseLoop_ref]
      exact ih h2
    · rw [e]
      exact U.pass self
theorem Under.has_all {B newId initId : String} {tail : List Value} (U : Under B newId initId tail) (X : String) :
    ∀ l : List Value, refsOn tail l = true → l.contains (.type X) = tail.contains (.type X) := by
  intro l
  induction l with
  | nil =>
    intro h
    rcases refsOn_or h with ⟨c, r, e, _⟩ | e
    · cases e
    · rw [e]
  | cons a r ih =>
    intro h
    rcases refsOn_or h with ⟨c, r2, e, h2⟩ | e
    · cases e
      rw [List.contains_cons, ih h2]
      rfl
    · rw [e]
theorem under_RuntimeError : Under "RuntimeError" "RuntimeError.__new__" "RuntimeError.__init__" [.type "RuntimeError", .type "Exception", .type "BaseException", .type "object"] :=
  ⟨PySem.F.excBase_RuntimeError, fun _ => by kernel_rfl, by decide +kernel, rfl⟩
theorem under_LookupError : Under "LookupError" "LookupError.__new__" "LookupError.__init__" [.type "LookupError", .type "Exception", .type "BaseException", .type "object"] :=
  ⟨PySem.F.excBase_LookupError, fun _ => by kernel_rfl, by decide +kernel, rfl⟩
section
open Builtin Builtin.ObjectAttr
variable {prog : Program} {w : World} {A : Around} {E : Value → Shared → Prop} {R : Result → Shared → Prop} {hp : Heap} {g : Array GenState} {d : Drawn} {t : Nat} {os : OsState}
/-- the first field that is stored in such an exception -/
theorem first_field {K : PySem.W.Frag} {name : Str} {tk : Tok} {v : Value} {x C : Addr} {fv : Array Value} {cd : ClassData}
    (inn : K.In hp) (hx : hp.get? x = some { cls := .ref C, data := .fields fv }) (cl : clsIn K C = some cd) (pass : ∀ self, refuseLoop self "__setattr__" cd.mro = pure ())
    (ob : cd.mro.contains (.type "object") = true) (ne : cd.mro.isEmpty = false) (dct : cd.hasDict = true) (no : findIn K (.ref C) name = some none)
    (q : ∀ h' tk' dx, (∀ b o, b ≠ x → hp.get? b = some o → h'.get? b = some o) → hp.objs.size ≤ dx → dx ≠ x → h'.get? x = some { cls := .ref C, dict := some dx, data := .fields fv } →
      h'.Ns1 dx (fun y => if y = name then some v else none) → R (.ok (.ret .none)) ⟨h', g, d, tk', os⟩) :
    codeAny (model prog w) A (.call (.builtin "object.__setattr__") ⟨[.ref x, .str name tk, v], []⟩) R ⟨hp, g, d, t, os⟩ := by
  have J : InstAt hp x { cls := .ref C, data := .fields fv } C none := ⟨hx, rfl, rfl, trivial⟩
  have S := PySem.F.store_object
  have nx : x ≠ hp.objs.size := Nat.ne_of_lt (Heap.lt_size hx)
  have isob : Looks (model prog w) hp (isInstance (.ref x) (.type "object")) true := by
    refine J.type.andThen (looks_mroIn inn ?_)
    unfold mroIn
    rw [cl, Option.bind_some, if_neg (by rw [ne]; decide), ob]
  have mro_ : Looks (model prog w) hp (mroOf (.ref C)) cd.mro := (looks_clsIn inn cl).andThen .now
  have taker : Looks (model prog w) hp (storeTaker? none) none := .now
  have data_ : Looks (model prog w) hp (classData C) cd := looks_clsIn inn cl
  refine codeAny_call_builtin S.slot.plain S.entry
    (check_slot (M := model prog w) (s := ⟨hp, g, d, t, os⟩) (owner := "object") (n := "__setattr__") S.kind S.split isob (S.args (.ref x) (.str name tk) v) ?_)
  rw [osa_eq, refuse_eq]
  apply wpAny_bind
  apply wpAny_bind
  refine J.type.at ?_
  apply wpAny_bind
  refine mro_.at ?_
  rw [pass]
  apply wpAny_pure
  apply wpAny_bind
  refine J.type.at ?_
  apply wpAny_bind
  refine (looks_findIn inn no).at ?_
  apply wpAny_bind
  refine taker.at ?_
  show wpAny _ _ (storeInOwnDict (.ref x) (.ref C) (.str name tk) name v false) _ _ _
  cases cd
  dsimp only at dct
  subst dct
  unfold storeInOwnDict ownDictForStores
  repeat (first
    | with_reducible refine HandSPX.store_in_new ?_ ?_
    | with_reducible refine wpAny_loadPart_at hx ?_
    | with_reducible refine data_.at ?_
    | wp_step)
  · have e : ∀ f, ((hp.push { cls := .type "dict", data := .dict #[] }).update x f).get? hp.objs.size = some { cls := .type "dict", data := .dict #[] } := fun f => by
      rw [Heap.get?_update_ne _ _ _ _ (Ne.symm nx)]
      exact Heap.get?_push_at rfl rfl
    exact ⟨_, #[], _, e _, rfl, fun e he => absurd he (by simp), fun _ => rfl⟩
  · intro h' tk' hn same
    have hx1 : (hp.push { cls := .type "dict", data := .dict #[] }).get? x = some { cls := .ref C, data := .fields fv } := Heap.get?_push_of_some _ hx
    refine q h' tk' hp.objs.size ?_ (Nat.le_refl _) (Ne.symm nx) ?_ hn
    · intro b o hb ho
      rw [same.2 b (Nat.ne_of_lt (Heap.lt_size ho)), Heap.get?_update_ne _ _ _ _ hb]
      exact Heap.get?_push_of_some _ ho
    · rw [same.2 x nx]
      exact Heap.get?_update_self _ hx1 rfl
end
end
/-- what the written part tells of such a class -/
structure XC (K : PySem.W.Frag) (C : Addr) (B newId initId : String) (tail : List Value) : Prop where
  U : Under B newId initId tail
  cls : ∃ nm q N bs bm sn sub ab col dd k0 k1 k2 k3 k5, K.lookup C = some (excClassObj nm q C N bs bm true sn sub ab col dd k0 k1 k2 k3 k5 newId) ∧ refsOn tail bm = true
  sa : PySem.W.findIn K (.ref C) "__setattr__" = some (some (.builtin "object.__setattr__"))
  ex : PySem.W.subIn K (.ref C) (.type "BaseException") = some true
  ty : PySem.W.typeIn K (.ref C) = some (.type "type")
  kp : PySem.W.keepIn K (.ref C) = true
section
variable {X : Cx} {pins : List (Addr × Obj)} {σ : L2.St} {H : Hp} {s : Shared} {a C : Addr} {f : Str} {y : V} {u : Value} {A : Around} {B newId initId : String} {tail : List Value}
/-- the base's own __init__: the exception stays as it is told -/
theorem base_init {us : List Value} {Q : Value → Shared → Prop} {E : Value → Shared → Prop} (T : XC X.K C B newId initId tail) (I : Inv X pins σ H s) (ha : H a = some (exo a C none)) (few : us.length ≤ sizeLine)
    (h : ∀ s', Inv X pins σ H s' → Q .none s') : wpAny (model X.prog X.w) A (call (.builtin initId) (.ref a :: us)) Q E s := by
  obtain ⟨nm, q, N, bs, bm, sn, sub, ab, col, dd, k0, k1, k2, k3, k5, hC, on⟩ := T.cls
  obtain ⟨t1, ho⟩ := exo_at I.hok ha
  cases s with
  | mk hp g d t os =>
    refine wpAny_call (PySem.HandSPX.init_base T.U.F (fun Y => T.U.has_all Y bm on) (I.kIn _ _ hC) ho few ?_)
    intro h' t2 keep hx
    have J := I.write (t' := t) (x := a) (e := a) (o := exo a C none) (by rw [ha]; trivial) (.inl rfl) keep ⟨_, hx⟩ (exo_ok hx)
    have same : upd H a (exo a C none) = H := by
      funext b
      by_cases e : b = a
      · rw [e, upd_same]
        exact ha.symm
      · exact upd_ne e
    rw [same] at J
    exact h _ J
/-- its first field -/
theorem field_new {Q : Unit → Shared → Prop} {E : Value → Shared → Prop} (T : XC X.K C B newId initId tail) (I : Inv X pins σ H s) (ha : H a = some (exo a C none))
    (no : PySem.W.findIn X.K (.ref C) f = some none) (ry : RelV y u)
    (h : ∀ dx s', H dx = none → dx ≠ a → Inv X pins σ (upd (upd H dx (exd dx [(f, y)])) a (exo a C (some dx))) s' → Q () s') :
    wpAny (model X.prog X.w) A (setAttr (.ref a) f u) Q E s := by
  obtain ⟨nm, q, N, bs, bm, sn, sub, ab, col, dd, k0, k1, k2, k3, k5, hC, on⟩ := T.cls
  have cl : PySem.W.clsIn X.K C = some { name := nm, bases := bs, mro := .ref C :: bm, ns := N, qualname := q, hasDict := true, slotNames := sn, subclasses := sub, abstract := ab, collection := col, hasDel := false } := by
    unfold PySem.W.clsIn
    rw [hC] <;> rfl
  have on2 : refsOn tail (.ref C :: bm) = true := on
  obtain ⟨t1, ho⟩ := exo_at I.hok ha
  cases s with
  | mk hp g d t os =>
    refine PySem.W.set_plain I.kIn (ox := { cls := .ref C, dict := none, data := .fields #[.ref t1, .none, .none, .none, .bool false, .none] }) (od := none) ⟨ho, rfl, rfl, trivial⟩ T.sa ?_
    refine first_field I.kIn ho cl (fun self => T.U.pass_all self _ on2) ((T.U.has_all "object" _ on2).trans T.U.ob) rfl rfl no ?_
    intro h' tk' dx keep big dne hx hn
    have hdx : H dx = none := I.hok.fresh big
    have old : ∀ {b : Addr} {o : Obj}, hp.get? b = some o → b ≠ dx := fun {b o} e => Nat.ne_of_lt (Nat.lt_of_lt_of_le (Heap.lt_size e) big)
    have off : ∀ {b : Addr}, H b = none → b ≠ a := fun {b} n z => by
      rw [z, ha] at n
      exact nomatch n
    have U1 : Un X.fs [] H (upd (upd H dx (exd dx [(f, y)])) a (exo a C (some dx))) hp h' := by
      refine ⟨fun b o e n _ _ => keep b o (off n) e, fun b o e n _ _ => ⟨o.slots, keep b o (off n) e⟩, ?_, ?_, ?_, ?_, ?_⟩
      · intro b o e n _
        rw [upd_ne (off n), upd_ne (old e)]
        exact n
      · intro b o e _
        by_cases z : b = a
        · exact ⟨_, by rw [z]; exact hx⟩
        · exact ⟨o, keep b o z e⟩
      · intro b xs e
        rw [upd_ne (at_ne ha e exo_tup), upd_ne (ne_of_none e hdx)]
        exact e
      · intro b o v e
        rw [upd_ne (at_ne ha e exo_frz), upd_ne (ne_of_none e hdx)]
        exact e
      · intro b ps e
        refine ⟨#[], ?_⟩
        rw [upd_ne (at_ne ha e exo_tbl), upd_ne (ne_of_none e hdx), e]
        simp
    refine h dx _ hdx dne (I.un (t' := tk') U1 ?_)
    intro b o e
    by_cases z : b = a
    · subst z
      rw [upd_same] at e
      cases e
      exact exo_ok hx
    rw [upd_ne z] at e
    by_cases z2 : b = dx
    · subst z2
      rw [upd_same] at e
      cases e
      exact exd_ok hn (relO_put (fs := []) ry fun g => trivial)
    rw [upd_ne z2] at e
    refine (I.hok b o e).stay ?_ ?_ ?_
    · intro c v hc r
      refine keep c v ?_ r
      rcases hc with hc | hc
      · rw [hc]
        exact z
      · exact at_ne ha hc exo_own
    · intro c hc
      rw [upd_ne (at_ne ha hc exo_own), upd_ne (ne_of_none hc hdx)]
      exact hc
    · intro c xs hc
      rw [upd_ne (at_ne ha hc exo_tup), upd_ne (ne_of_none hc hdx)]
      exact hc
end
/-- B.__init__(self, ..) -/
def tBase (K : PySem.W.Frag) (B newId initId : String) (tail : List Value) (ta : TA) : TE := fun σ H Q => ta σ H fun vs H1 =>
  ∃ (a C : Addr) (ws : List V), vs = .ref a :: ws ∧ ws.length ≤ 1000 ∧ XC K C B newId initId tail ∧ H1 a = some (exo a C none) ∧ Q .non H1
/-- self.f = e, the one field -/
def tPut (K : PySem.W.Frag) (B newId initId : String) (tail : List Value) (f : Str) (to te : TE) : TS := fun D σ H => te σ H fun y H1 => to σ H1 fun x H2 =>
  ∃ a C : Addr, x = .ref a ∧ XC K C B newId initId tail ∧ PySem.W.findIn K (.ref C) f = some none ∧ H2 a = some (exo a C none) ∧
    ∀ dx, H2 dx = none → dx ≠ a → D.nx σ (upd (upd H2 dx (exd dx [(f, y)])) a (exo a C (some dx)))
section
variable {X : Cx} {o e : Expr} {es : List Expr} {to te : TE} {ta : TA} {f : Str} {p p' p1 p2 pos : Pos} {B newId initId : String} {tail : List Value} {nB : Str}
theorem x_base {pl : Sem Bool} (U : Under B newId initId tail) (hg : Gl X nB) (hm : X.mg nB = none) (hv : bootBuiltins nB = some (.type B))
    (ty : typeOf (.type B) = pure (.type "type")) (vV : PySem.W.findCls X.K (.type B) (.type "type") "__init__" = some (.val (.builtin initId)))
    (ha : PA X (e :: es) ta)
    (hn : nB ≠ "__name__" := by decide) (hdb : (nB == ("__debug__" : Str)) = false := by decide)
    (c1 : PySem.W.handedIn (.builtin initId) = true := by decide +kernel) (c2 : Manifest.isStub B = false := by decide +kernel)
    (hc : eval (.Call (.Attribute (.Name nB p1) "__init__" p2) (e :: es) [] pos) X.env = (do
      let ov ← eval (.Name nB p1) X.env
      standAt p2.atName
      let (f, first) ← holding [ov] (getMethod ov "__init__" pl)
      callWith pos f first (backTo pos (starEach (e :: es) X.env)) (backToKw pos (keywordEach [] X.env))) := by rfl)
    (he : starEach (e :: es) X.env = (false, eval e X.env) :: starEach es X.env := by rfl) (hpl : (backTo pos (starEach es X.env)).any (·.1) = false := by rfl) :
    PE X (.Call (.Attribute (.Name nB p1) "__init__" p2) (e :: es) [] pos) (tBase X.K B newId initId tail ta) := by
  constructor
  intro pins s σ H Q I h
  refine PySem.W.methodCall_KW (ld_blt I hg hm hv ?_ hn hdb) hc
  obtain ⟨m, fr⟩ := I.fr
  refine PySem.W.method_type fr I.ok.mod.kin ty c2 vV c1 ?_
  show wpAny _ _ (callWith pos (Value.builtin initId) [] (backTo pos (starEach (e :: es) X.env)) []) _ _ _
  refine PyProof.Rows.callWith_method1 (thn (ha.run pos pins _ σ H _ (I.tok _) h) ?_) he hpl
  rintro us s1 ⟨vs, H1, I1, r1, a, C, ws, rfl, few, T, ea, q⟩
  cases r1 with
  | cons ra rw' =>
    cases ra
    refine base_init T I1 ea ?_ fun s' J => ⟨.non, H1, J, rfl, q⟩
    rw [← Paired.length rw', sizeLine_eq]
    omega
theorem x_put (ho : PE X o to) (he : PE X e te) (hs : swapsWith e (some (.Attribute o f p')) pos.line X.env = pure false := by rfl) :
    PS X (.Assign [.Attribute o f p'] e pos) (tPut X.K B newId initId tail f to te) := by
  constructor
  intro pins s σ H D I h
  refine plainObj_wpAny_Assign_Attribute (thn (he.run pins s σ H _ I h) ?_) hs
  rintro v s1 ⟨y, H1, I1, r1, q1⟩
  refine thn (ho.run pins s1 σ H1 _ I1 q1) ?_
  rintro u s2 ⟨x, H2, I2, r2, a, C, rfl, T, no, ea, q⟩
  cases r2
  exact field_new T I2 ea no r1 fun dx s' n ne J => ⟨σ, _, J, q dx n ne⟩
end
/-- C(e, ..), C's own __init__ keeping sp -/
def tNewX (C : Addr) (sp : Sp) (ta : TA) : L2.St → Hp → XK → Prop := fun σ H Q => ta σ H fun vs H1 => vs.length ≤ 1000 ∧ ∀ a, H1 a = none → sp (.ref a :: vs) (upd H1 a (exo a C none))
  (fun v H2 => v = .non ∧ ∃ (d : Addr) (fs : List (Str × V)), H2 a = some (exo a C (some d)) ∧ H2 d = some (exd d fs) ∧ H1 d = none ∧ Q (.ref C) (some d) (upd (del H2 a) d (.xd fs))) E0
section
variable {X : Cx} {e : Expr} {es : List Expr} {ta : TA} {p pos : Pos} {B newId initId : String} {tail : List Value} {x : Str} {C fI : Addr} {k : Nat} {fd : FuncData} {ps : List Str} {sp : Sp}
theorem x_new (T : XC X.K C B newId initId tail) (iC : PySem.W.findIn X.K (.ref C) "__init__" = some (some (.ref fI))) (tI : PySem.W.typeIn X.K (.ref fI) = some (.type "function"))
    (F1 : Fg X k fI fd ps sp) (z : RoomG (k + 1) X.A) (hb : BindsD X.K fd ps []) (hg : Gl X x) (hm : X.mg x = some (.ref C)) (ha : PA X (e :: es) ta)
    (hdb : (x == ("__debug__" : Str)) = false := by decide) (he : starEach (e :: es) X.env = (false, eval e X.env) :: starEach es X.env := by rfl) (hpl : (backTo pos (starEach es X.env)).any (·.1) = false := by rfl) :
    PMk X (.Call (.Name x p) (e :: es) [] pos) (tNewX C sp ta) := by
  obtain ⟨ds, hd, hb⟩ := hb
  cases hd
  intro pins s σ H Q I h
  obtain ⟨nm, q, N, bs, bm, sn, sub, ab, col, dd, k0, k1, k2, k3, k5, hC, on⟩ := T.cls
  refine wpAny_Call_Name_kw (ld_glob I hg hm ?_ hdb)
  refine PySem.W.callWith_K (h₀ := X.base) I.ok.mod.kin T.kp (thn (ha.run pos pins s σ H _ I h) ?_) he hpl
  rintro us s1 ⟨vs, H1, I1, r1, few, q1⟩
  refine ⟨I1.kIn, ?_⟩
  show wpAny _ _ (call (.ref C) us) _ _ _
  cases s1 with
  | mk hp g dr tk os =>
    have big : hp.objs.size ≤ hp.objs.size + 1 := Nat.le_succ _
    have hq := q1 (hp.objs.size + 1) (I1.hok.fresh big)
    have keep : ∀ b o, hp.get? b = some o → ((hp.push (PySem.W.kdv_tup us)).push (PySem.HandSPX.excO C hp.objs.size)).get? b = some o :=
      fun b o e => Heap.get?_push_of_some _ (Heap.get?_push_of_some _ e)
    have there : ((hp.push (PySem.W.kdv_tup us)).push (PySem.HandSPX.excO C hp.objs.size)).get? (hp.objs.size + 1) = some (PySem.HandSPX.excO C hp.objs.size) := by heap_get
    have I2 : Inv X pins σ (upd H1 (hp.objs.size + 1) (exo (hp.objs.size + 1) C none)) ⟨(hp.push (PySem.W.kdv_tup us)).push (PySem.HandSPX.excO C hp.objs.size), g, dr, tk, os⟩ :=
      I1.laid (t' := tk) (a := hp.objs.size + 1) (o := exo (hp.objs.size + 1) C none) keep big (exo_ok there)
    have r2 : Vals (V.ref (hp.objs.size + 1) :: vs) (Value.ref (hp.objs.size + 1) :: us) := .cons rfl r1
    have hl : (Value.ref (hp.objs.size + 1) :: us ++ []).length = ps.length := by
      rw [List.append_nil, ← r2.length]
      exact F1.len _ _ _ _ hq
    have hus : us.length ≤ sizeLine := by
      rw [← Paired.length r1, sizeLine_eq]
      omega
    have b := hb _ (Value.ref (hp.objs.size + 1) :: us) I2.kIn hl
    rw [List.append_nil] at b
    refine wpAny_call (PySem.HandSPX.call_own T.U.F (fun Y => T.U.has_all Y bm on) (I1.kIn _ _ hC) (PySem.W.looks_findIn I1.kIn iC) (fun self => PySem.W.bind_fn I1.kIn self tI) hus
      (codeAny_mono (F1.run _ X.stack _ _ ⟨Value.ref (hp.objs.size + 1) :: us, []⟩ _ _ _ E0 (z.make C us []) (I2.env0.make C us []) b r2 hq) ?_))
    intro r s' hr
    match r, hr with
    | .error er, hr => exact passL pins σ _ _ er s' I2 hr
    | .ok (.ret u), hr =>
      obtain ⟨v, H2, os2, bare2, un2, hok2, rv, ev, d, fs, ea, ed, hd1, q2⟩ := hr
      subst ev
      cases s' with
      | mk h2 g2 d2 t2 os' => exact ⟨rv, mk_end (raises_own T.ex T.ty) I1 big keep un2 hok2 os2 bare2 ea ed hd1 q2⟩
    | .ok .next, hr => exact False.elim hr
    | .ok .brk, hr => exact False.elim hr
    | .ok .cont, hr => exact False.elim hr
end

/-! ### calls that may raise; what is asked of a caught exception -/
section
variable {X : Cx} {k n : Nat} {f C : Addr} {fd : FuncData} {ps ks : List Str} {sp : Sp} {dvs : List V} {E : L2.St → XK} {x m : Str} {p pos apos : Pos} {e o : Expr} {es : List Expr} {ta : TE} {t : TA}
variable {pins : List (Addr × Obj)} {σ : L2.St} {H : Hp} {s s' : Shared} {Q : VK}
abbrev PsAt (X : Cx) (E : L2.St → XK) : Prop := ∀ σ, PassesAt (L2.CX X.prog X.w) X σ (E σ)
theorem raise_run {us : List Value} {vs : List V} (F : Fg X k f fd ps sp) (z : RoomG k X.A) (hb : BindsD X.K fd ps dvs) (hx : PsAt X E) (I : Inv X pins σ H s) (rv : Vals vs us)
    (h : sp (vs ++ dvs) H Q (E σ)) : wpAny (model X.prog X.w) X.A (call (.ref f) us) (EP X pins σ Q) X.xe s := by
  obtain ⟨ds, hd, hb⟩ := hb
  have r2 : Vals (vs ++ dvs) (us ++ ds) := rv.append hd
  have hl : (us ++ ds).length = ps.length := by
    rw [← r2.length]
    exact F.len _ _ _ _ h
  refine wpAny_call (codeAny_mono (F.run X.A X.stack s H ⟨us, []⟩ _ _ Q (E σ) z I.env0 (hb s us I.kIn hl) r2 h) ?_)
  intro r s' q
  match r, q with
  | .error e, q => exact hx σ pins H s e s' I q
  | .ok (.ret u), q => exact I.after q
  | .ok .next, q => exact False.elim q
  | .ok .brk, q => exact False.elim q
  | .ok .cont, q => exact False.elim q
/-- f(..), that may raise -/
def tCallX (sp : Sp) (dvs : List V) (E : L2.St → XK) (t : TA) : TE := fun σ H Q => t σ H fun vs H1 => sp (vs ++ dvs) H1 Q (E σ)
theorem s1 (F : Fg X k f fd ps sp) (z : RoomG k X.A) (hg : Gl X x) (hm : X.mg x = some (.ref f)) (hk : PySem.W.keepIn X.K (.ref f) = true) (hb : BindsD X.K fd ps dvs)
    (hx : PsAt X E) (ha : PA X (e :: es) t) (hdb : (x == ("__debug__" : Str)) = false := by decide)
    (he : starEach (e :: es) X.env = (false, eval e X.env) :: starEach es X.env := by rfl) (hpl : (backTo pos (starEach es X.env)).any (·.1) = false := by rfl) :
    PE X (.Call (.Name x p) (e :: es) [] pos) (tCallX sp dvs E t) := by
  constructor
  intro pins s σ H Q I h
  refine wpAny_Call_Name_kw (ld_glob I hg hm ?_ hdb)
  refine PySem.W.callWith_K (h₀ := X.base) I.ok.mod.kin hk (thn (ha.run pos pins s σ H _ I h) ?_) he hpl
  rintro us s1 ⟨vs, H1, I1, r, q⟩
  exact ⟨I1.kIn, raise_run F z hb hx I1 r q⟩
/-- o.m(..), that may raise -/
def tMethX (C : Addr) (nm : Str) (sp : Sp) (dvs : List V) (E : L2.St → XK) (ta : TE) (t : TA) : TE := fun σ H Q => ta σ H fun x H1 => ∃ a dx fs, x = .ref a ∧ H1 a = some (.ins C dx fs) ∧ fs.lookup nm = none ∧
  t σ H1 fun vs H2 => sp (x :: vs ++ dvs) H2 Q (E σ)
theorem sm {pl : Sem Bool} (c : Cls X.K C) (hm : Meth X.K C m f) (F : Fg X k f fd ps sp) (z : RoomG k X.A) (hb : BindsD X.K fd ps dvs) (hx : PsAt X E) (he : PE X o ta) (ha : PA X (e :: es) t)
    (hst : starEach (e :: es) X.env = (false, eval e X.env) :: starEach es X.env := by rfl) (hpl : (backTo pos (starEach es X.env)).any (·.1) = false := by rfl)
    (ht : eval (.Call (.Attribute o m apos) (e :: es) [] pos) X.env = (do
      let y ← eval o X.env
      standAt apos.atName
      let (g, a) ← holding [y] (getMethod y m pl)
      callWith pos g a (backTo pos (starEach (e :: es) X.env)) (backToKw pos (keywordEach [] X.env))) := by rfl) :
    PE X (.Call (.Attribute o m apos) (e :: es) [] pos) (tMethX C m sp dvs E ta t) := by
  constructor
  intro pins s σ H Q I h
  refine PySem.W.methodCall_KW (pl := pl) (thn (he.run pins s σ H _ I h) ?_) ht
  rintro u s1 ⟨v, H1, I1, rx, a, dx, fs, rfl, ea, l, q⟩
  cases rx
  refine getmeth_ok I1 ea c hm l ?_
  refine PySem.W.callWith_K (first := [.ref a]) (h₀ := X.base) I.ok.mod.kin hm.kp (thn (ha.run pos pins s1 σ H1 _ I1 q) ?_) hst hpl
  rintro us s2 ⟨vs, H2, I2, r, q2⟩
  exact ⟨I2.kIn, raise_run (us := .ref a :: us) (vs := .ref a :: vs) F z hb hx I2 (.cons rfl r) q2⟩
theorem sm0 {pl : Sem Bool} (c : Cls X.K C) (hm : Meth X.K C m f) (F : Fg X k f fd ps sp) (z : RoomG k X.A) (hb : BindsD X.K fd ps dvs) (hx : PsAt X E) (he : PE X o ta)
    (ht : eval (.Call (.Attribute o m apos) [] [] pos) X.env = (do
      let y ← eval o X.env
      standAt apos.atName
      let (g, a) ← holding [y] (getMethod y m pl)
      callWith pos g a (backTo pos (starEach [] X.env)) (backToKw pos (keywordEach [] X.env))) := by rfl) :
    PE X (.Call (.Attribute o m apos) [] [] pos) (tMethX C m sp dvs E ta tNil) := by
  constructor
  intro pins s σ H Q I h
  refine PySem.W.methodCall_KW (pl := pl) (thn (he.run pins s σ H _ I h) ?_) ht
  rintro u s1 ⟨v, H1, I1, rx, a, dx, fs, rfl, ea, l, q⟩
  cases rx
  refine getmeth_ok I1 ea c hm l ?_
  refine PySem.W.callWith_K0 (first := [.ref a]) I1.kIn hm.kp ?_
  exact raise_run (us := [.ref a]) (vs := [.ref a]) F z hb hx I1 (.cons rfl .nil) q
theorem i_callX {σ : L2.St} {H : Hp} {Q : VK} (h : t σ H fun vs H1 => sp (vs ++ dvs) H1 Q (E σ)) : tCallX sp dvs E t σ H Q := h
theorem i_callX0 {σ : L2.St} {H : Hp} {Q : VK} (h : t σ H fun vs H1 => sp vs H1 Q (E σ)) : tCallX sp [] E t σ H Q := by
  unfold tCallX
  simp only [List.append_nil]
  exact h
end
section
open PySem.W PySem.Calls PyProof.Rows
variable {prog : Program} {w : World} {K : PySem.W.Frag} {x D : Addr} {ox : Obj}
theorem kit_exc (T : L2.ExcC K D) : KitX K (.ref x) (.ref D) (fun h => ∃ od, InstAt h x ox D od) := by
  obtain ⟨cd, hc, _⟩ := any_some T.hd
  have at_ : ∃ o, K.lookup D = some o ∧ ∀ cls dict its n sl, o ≠ ⟨cls, dict, .seq its n, sl⟩ := by
    unfold clsIn at hc
    split at hc
    · rename_i c' d' cd' sl' ho
      exact ⟨_, ho, fun _ _ _ _ _ z => nomatch z⟩
    · cases hc
  have hf : ∀ od, findObj K D od "__class__" = some (.bind (.builtin "getset_descriptor.__get__") (.builtin "object.__class__")) :=
    fun od => findObj_dataE (by rw [hc]; rfl) T.ha T.hn T.ht
  refine ⟨fun _ _ _ ⟨_, I⟩ => I.type, ?_, ?_, ?_⟩
  · intro M h inn _
    unfold clsIn at hc
    split at hc
    · rename_i c' d' cd' sl' ho
      intro A Q E s keep q
      unfold isType loadHead
      exact wpAny_bind (wpAny_loadPart (keep _ _ (inn _ _ ho)) (wpAny_pure q))
    · cases hc
  · intro h tp dd its n sl inn htp
    rw [Bool.eq_false_iff]
    intro q
    have e : D = tp := Value.ref.inj (beq_iff_eq.mp q)
    subst e
    obtain ⟨o, ho, no⟩ := at_
    have z := (inn _ _ ho).symm.trans htp
    exact no _ _ _ _ _ (Option.some.inj z)
  · intro prog w A E Q s inn ⟨od, I⟩ q
    exact kx_classE inn I T.hg T.hk T.hs (hf od) T.hm q
end
/-- isinstance(e, c), e the caught exception at a, of the class cls, its dict d -/
def rIsX (K : PySem.W.Frag) (a : Addr) (cls : Value) (d : Option Addr) : List V → Hp → VK → Prop := fun xs H Q => ∃ (D : Addr) (c : V) (cv : Value) (b : Bool), cls = .ref D ∧ L2.ExcC K D ∧
  (d = none ∨ ∃ dd fs, d = some dd ∧ H dd = some (.xd fs)) ∧ xs = [.ref a, c] ∧ ClsV c cv ∧ PySem.W.kitOne K (.ref D) cv = some b ∧ Q (.bl b) H
/-- isinstance(e, (c1, c2, ..)) -/
def rIsXT (K : PySem.W.Frag) (a : Addr) (cls : Value) (d : Option Addr) : List V → Hp → VK → Prop := fun xs H Q => ∃ (D tp : Addr) (cs : List V) (us : List Value) (b : Bool), cls = .ref D ∧ L2.ExcC K D ∧
  (d = none ∨ ∃ dd fs, d = some dd ∧ H dd = some (.xd fs)) ∧ xs = [.ref a, .ref tp] ∧ H tp = some (.tup cs) ∧ Paired ClsV cs us ∧ PySem.W.kitAny K (.ref D) us = some b ∧ Q (.bl b) H
section
variable {X : Cx} {a : Addr} {oe : Obj} {cls : Value} {d : Option Addr} {pn : List (Addr × Obj)} {K : PySem.W.Frag}
theorem caught_at {D : Addr} {pins : List (Addr × Obj)} {σ : L2.St} {H : Hp} {s : Shared} (I : Inv (X.suite a ((a, oe) :: pn)) pins σ H s) (hz : Zc (.ref D) d oe) (hf : ∃ vs, oe.data = .fields vs)
    (hd : d = none ∨ ∃ dd fs, d = some dd ∧ H dd = some (.xd fs)) : ∃ od, PySem.W.InstAt s.heap a oe D od := by
  obtain ⟨there, _⟩ := I.pin (a, oe) (List.mem_append_left _ List.mem_cons_self)
  obtain ⟨vs, hv⟩ := hf
  obtain ⟨h1, h2⟩ := hz
  have nc : PySem.W.notCls oe = true := by
    unfold PySem.W.notCls
    rw [hv] <;> rfl
  rcases hd with rfl | ⟨dd, fs, rfl, e⟩
  · exact ⟨none, there, h1, nc, by rw [h2]; trivial⟩
  · obtain ⟨mA, hns, _⟩ : ObjOk X.prog X.w H s.heap dd (.xd fs) := I.hok dd _ e
    obtain ⟨od, ho, _⟩ := lookIn_ns hns
    exact ⟨some od, there, h1, nc, by rw [h2]; exact ho⟩
theorem k_isX (h : X.K = K) (hz : Zc cls d oe) (hf : ∃ vs, oe.data = .fields vs) : CallR (X.suite a ((a, oe) :: pn)) (.builtin "isinstance") (rIsX K a cls d) := by
  subst h
  intro pins s σ H xs us Q I r q
  obtain ⟨D, c, cv, b, rfl, T, hd, rfl, hc, kit, q⟩ := q
  obtain ⟨u1, u2, rfl, r1, r2⟩ := vals2 r
  cases r1
  have e := hc.eq r2
  subst e
  exact PySem.W.kia_one (kit_exc (ox := oe) T) I.kIn (caught_at I hz hf hd) kit (fun z => nomatch z) fun tk => ⟨.bl b, H, I.tok tk, rfl, q⟩
theorem k_isXT (h : X.K = K) (hz : Zc cls d oe) (hf : ∃ vs, oe.data = .fields vs) : CallR (X.suite a ((a, oe) :: pn)) (.builtin "isinstance") (rIsXT K a cls d) := by
  subst h
  intro pins s σ H xs us Q I r q
  obtain ⟨D, tp, cs, ws, b, rfl, T, hd, rfl, hT, hc, kit, q⟩ := q
  obtain ⟨u1, u2, rfl, r1, r2⟩ := vals2 r
  cases r1
  cases r2
  obtain ⟨_, its, rv, o, h1, h2, n, h3⟩ := (show ObjOk X.prog X.w H s.heap tp (.tup cs) from I.hok tp _ hT)
  have e3 := ClsV.all hc rv
  subst e3
  cases o
  simp only at h2 h3
  subst h2 h3
  exact PySem.W.kia_tup (kit_exc (ox := oe) T) I.kIn (caught_at I hz hf hd) h1 kit (fun z => nomatch z) fun tk => ⟨.bl b, H, I.tok tk, rfl, q⟩
end

def MethX (C : Addr) (nm : Str) (sp : Sp) (dvs : List V) (E : L2.St → XK) (t : TA) (σ : L2.St) (x : V) (H1 : Hp) (Q : VK) : Prop := ∃ a dx fs, x = .ref a ∧ H1 a = some (.ins C dx fs) ∧ fs.lookup nm = none ∧
  t σ H1 fun vs H2 => sp (x :: vs ++ dvs) H2 Q (E σ)
theorem i_methX {C : Addr} {nm : Str} {sp : Sp} {dvs : List V} {E : L2.St → XK} {ta : TE} {t : TA} {σ : L2.St} {H : Hp} {Q : VK} (h : ta σ H fun x H1 => MethX C nm sp dvs E t σ x H1 Q) : tMethX C nm sp dvs E ta t σ H Q := h
theorem i_methXR {C : Addr} {nm : Str} {sp : Sp} {E : L2.St → XK} {t : TA} {σ : L2.St} {H : Hp} {Q : VK} {a dx : Addr} {fs : List (Str × V)} (ha : H a = some (.ins C dx fs)) (hl : fs.lookup nm = none) (h : t σ H fun vs H2 => sp (.ref a :: vs) H2 Q (E σ)) : MethX C nm sp [] E t σ (.ref a) H Q := ⟨a, dx, fs, rfl, ha, hl, by simpa only [List.append_nil] using h⟩

local macro_rules | `(tactic| walk_at "g_tr") => `(tactic| first
  | with_reducible assumption
  | (with_reducible exact tr_of (by with_reducible assumption))
  | with_reducible exact tr_same
  | ((with_reducible refine tr_upd ?_); walk_at "g_tr")
  | (with_reducible exact tr_pot (by with_reducible assumption))
  | (with_reducible exact tr_ld (by with_reducible assumption))
  | ((with_reducible apply tr_kp (by with_reducible assumption) ?h); (case h => walk_at "g_tr")))
local macro_rules | `(tactic| walk_at "g_ne") => `(tactic| first
  | with_reducible assumption
  | (with_reducible exact Ne.symm (by with_reducible assumption))
  | ((with_reducible apply fr_tr ?h (by with_reducible assumption)); (case h => walk_at "g_tr"))
  | ((with_reducible apply Ne.symm (fr_tr ?h (by with_reducible assumption))); (case h => walk_at "g_tr")))
local macro_rules | `(tactic| walk_at "g_hp") => `(tactic| first
  | with_reducible assumption
  | with_reducible apply upd_same
  | ((with_reducible apply upd_nn ?h ?k); (case h => walk_at "g_ne"); (case k => walk_at "g_hp"))
  | ((with_reducible apply kp_at (by with_reducible assumption) ?h ?n); (case n => walk_at "g_ni"); (case h => walk_at "g_hp")))
local macro_rules | `(tactic| walk_at "g_ni") => `(tactic| first
  | exact not_nil
  | with_reducible assumption
  | ((with_reducible refine not_one ?_); walk_at "g_ne")
  | ((with_reducible refine not_two ?_ ?_) <;> walk_at "g_ne"))
local macro_rules | `(tactic| walk_at "g_pot") => `(tactic| first
  | with_reducible assumption
  | ((with_reducible apply pot_upd ?h ?n); (case n => walk_at "g_ne"); (case h => walk_at "g_pot"))
  | ((with_reducible apply PotAt.kp ?h (by with_reducible assumption) ?n); (case n => walk_at "g_ni"); (case h => walk_at "g_pot")))
local macro_rules | `(tactic| walk_at "g_ld") => `(tactic| first
  | with_reducible assumption
  | ((with_reducible apply ld_upd ?h ?i ?n); (case n => walk_at "g_fr"); (case i => walk_at "g_im"); (case h => walk_at "g_ld"))
  | ((with_reducible apply ld_upl ?h ?i ?n ?m); (case n => walk_at "g_hp"); (case m => walk_at "g_ne"); (case i => walk_at "g_im"); (case h => walk_at "g_ld"))
  | ((with_reducible apply ld_ins ?h ?i ?n); (case n => walk_at "g_hp"); (case i => walk_at "g_im"); (case h => walk_at "g_ld"))
  | ((with_reducible apply LD.kp ?h (by with_reducible assumption) ?i ?n); (case n => walk_at "g_ni"); (case i => walk_at "g_im"); (case h => walk_at "g_ld")))
local macro_rules | `(tactic| walk_at "g_im") => `(tactic| first
  | with_reducible assumption
  | exact imms_d2 _
  | rfl)
local macro_rules | `(tactic| walk_at "g_fx") => `(tactic| first
  | with_reducible assumption
  | with_reducible exact fx_refl
  | ((with_reducible apply fx_new ?h ?f); (case f => with_reducible assumption); (case h => walk_at "g_fx"))
  | ((with_reducible apply fx_mut ?h ?f ?g); (case f => walk_at "g_hp"); (case g => exact fun z => z); (case h => walk_at "g_fx"))
  | ((with_reducible apply fx_kp (by with_reducible assumption) ?h); (case h => walk_at "g_fx")))
local macro_rules | `(tactic| walk_at "g_st") => `(tactic| first
  | with_reducible assumption
  | ((with_reducible apply Fx.seqT ?k (by with_reducible assumption)); (case k => walk_at "g_fx"))
  | ((with_reducible apply SqT.of ?h); (case h => walk_at "g_hp")))
local macro_rules | `(tactic| walk_at "g_sq") => `(tactic| first
  | with_reducible assumption
  | ((with_reducible apply SqL.of ?h); (case h => walk_at "g_hp"))
  | ((with_reducible apply sqL_new ?h (by with_reducible assumption)); (case h => walk_at "g_sq"))
  | ((with_reducible apply sqL_kp (by with_reducible assumption) ?h ?n); (case h => walk_at "g_sq"); (case n => walk_at "g_ni")))
local macro_rules | `(tactic| walk_at "g_kp") => `(tactic| first
  | with_reducible assumption
  | with_reducible exact Kp.refl
  | with_reducible exact Kp.wide (by with_reducible assumption)
  | ((with_reducible apply Kp.trans ?k (by with_reducible assumption)); (case k => walk_at "g_kp"))
  | ((with_reducible apply Kp.trans ?k (Kp.wide (by with_reducible assumption))); (case k => walk_at "g_kp"))
  | ((with_reducible apply Kp.trans ?k (Kp.mono (by with_reducible assumption) ?m)); (case m => simp only [List.mem_cons, List.not_mem_nil, or_false, forall_eq, true_or, or_true, List.mem_singleton, implies_true]); (case k => walk_at "g_kp"))
  | ((with_reducible apply Kp.upd ?k ?h); (case h => walk_at "g_fr"); (case k => walk_at "g_kp"))
  | ((with_reducible apply Kp.upi ?k ?h ?m); (case h => walk_at "g_hp"); (case m => simp only [List.mem_cons, true_or, or_true]); (case k => walk_at "g_kp"))
  | ((with_reducible apply Kp.upm ?k ?h ?m); (case h => walk_at "g_hp"); (case m => simp only [List.mem_cons, true_or, or_true]); (case k => walk_at "g_kp")))
local macro_rules | `(tactic| walk_at "g_old") => `(tactic| first
  | with_reducible exact Old.refl
  | ((with_reducible apply old_upd ?k); (case k => walk_at "g_old"))
  | ((with_reducible apply old_kp (by with_reducible assumption) ?k); (case k => walk_at "g_old")))
local macro_rules | `(tactic| walk_at "g_fr") => `(tactic| first
  | with_reducible assumption
  | ((with_reducible apply fr_of (by with_reducible assumption) ?o); (case o => walk_at "g_old")))
local macro_rules | `(tactic| walk_at "g_at") => `(tactic| first
  | assumption
  | exact atI_last _ _
  | exact at_zero
  | rfl)
local macro_rules | `(tactic| walk_at "g_sz") => `(tactic| first
  | assumption
  | ((with_reducible apply small_sz); (try simp only [List.length_append, List.length_cons, List.length_nil]); omega))
local macro_rules | `(tactic| walk_at "g1") => `(tactic| first
  | (with_reducible refine Red.r ?_)
  | ((with_reducible apply i_var ?h ?_); (case h => exact rfl))
  | (with_reducible refine i_few (by simp only [List.length_cons, List.length_nil]; decide) ?_)
  | ((with_reducible apply i_aug ?h ?_); (case h => exact rfl))
  | ((with_reducible refine i_wipe ?e ?_); (case e => rfl))
  | ((with_reducible apply i_tyL ?h ?_); (case h => walk_at "g_sq"))
  | ((with_reducible apply i_app ?h ?g ?_); (case h => walk_at "g_hp"); (case g => walk_at "g_sz"))
  | ((with_reducible apply i_lenO ?h ?g ?_); (case h => walk_at "g_hp"); (case g => exact rfl))
  | ((with_reducible apply i_lenL ?h ?_); (case h => walk_at "g_sq"))
  | ((with_reducible apply i_lenT ?h ?_); (case h => walk_at "g_st"))
  | ((with_reducible apply i_gTup ?h ?g ?_); (case h => walk_at "g_st"); (case g => rfl))
  | ((with_reducible apply i_setL ?h ?g ?_); (case h => walk_at "g_hp"); (case g => first | (simp only [List.length_append, List.length_cons, List.length_nil]; exact ix_last _) | (simp only [List.length_cons]; exact ix_zero _) | rfl))
  | ((with_reducible apply i_revd ?h ?g); (case h => walk_at "g_sq"))
  | ((with_reducible apply i_ins0 ?h ?g ?k); (case h => walk_at "g_hp"); (case g => walk_at "g_sz"))
  | ((with_reducible apply i_ixS (by with_reducible assumption) ?k ?g ?_); (case k => walk_at "g_fx"); (case g => walk_at "g_at"))
  | ((with_reducible apply i_ixO ?h ?g ?_); (case h => walk_at "g_hp"); (case g => walk_at "g_at"))
  | ((with_reducible apply i_ixL ?h ?g ?_); (case h => walk_at "g_sq"); (case g => walk_at "g_at"))
  | ((with_reducible refine i_mod ?c ?_); (case c => omega))
  | ((with_reducible refine i_div ?c ?d ?_); (case c => omega); (case d => omega))
  | ((with_reducible refine i_dm ?c ?d ?_); (case c => omega); (case d => omega))
  | ((with_reducible apply i_listL ?h ?g); (case h => walk_at "g_sq"))
  | ((with_reducible apply i_listT ?h ?g); (case h => walk_at "g_st"))
  | ((with_reducible apply i_methR ?h ?g ?_); (case h => walk_at "g_hp"); (case g => exact rfl))
  | (walk_at "g_own")
  | ((with_reducible apply i_methWR ?h ?g ?_); (case h => walk_at "g_hp"); (case g => exact rfl))
  | ((with_reducible apply i_lens ?h ?g ?_); (case h => exact rfl); (case g => exact rfl))
  | ((with_reducible apply i_fldR ?h ?c ?n ?g ?_); (case h => walk_at "g_hp"); (case c => with_reducible assumption); (case n => with_reducible assumption); (case g => exact rfl))
  | ((with_reducible apply i_fldSR ?h ?c ?n ?g ?_); (case h => walk_at "g_hp"); (case c => with_reducible assumption); (case n => with_reducible assumption); (case g => exact fs_few (by rfl)))
  | ((with_reducible apply i_slL ?h ?_); (case h => walk_at "g_sq"))
  | ((with_reducible apply i_addL ?h ?g ?z ?_); (case h => walk_at "g_hp"); (case g => walk_at "g_hp"); (case z => (try simp only [List.length_append, List.length_cons, List.length_nil, List.length_map]); omega))
  | ((with_reducible refine i_mulI ?c ?_); (case c => first | exact Or.inl ⟨by omega, by omega⟩ | exact Or.inr ⟨by omega, by omega⟩)))
local macro_rules | `(tactic| walk_at "gr") => `(tactic| first | ((walk_at "g1"); (walk_at "gr")) | skip)
local macro_rules | `(tactic| walk_at "gs") => `(tactic| (walk_at "gr"))

/-! ### an exception's class with its own __init__, looked at in the kernel -/
def slotN (newId : String) (l : List (Option Value)) : Bool := decide (l = [l.getD 0 none, l.getD 1 none, l.getD 2 none, l.getD 3 none, some (.builtin newId), l.getD 5 none])
def mroX (C : Addr) (tail : List Value) (l : List Value) : Bool := decide (l = .ref C :: l.tail) && refsOn tail l.tail
def objX (C : Addr) (tail : List Value) (newId : String) (o : Obj) : Bool :=
  decide (o.cls = .type "type") && (slotN newId o.slots.toList && (match o.data with
    | .cls cd => mroX C tail cd.mro && (!cd.hasDel && cd.hasDict)
    | _ => false))
def excB (K : PySem.W.Frag) (C : Addr) (tail : List Value) (newId : String) : Bool :=
  match K.lookup C with
  | some o => objX C tail newId o
  | none => false
theorem objX_ok {C : Addr} {tail : List Value} {newId : String} {o : Obj} (h : objX C tail newId o = true) :
    ∃ nm q N bs bm sn sub ab col dd k0 k1 k2 k3 k5, o = excClassObj nm q C N bs bm true sn sub ab col dd k0 k1 k2 k3 k5 newId ∧ refsOn tail bm = true := by
  obtain ⟨oc, od, dt, osl⟩ := o
  obtain ⟨h1, h2⟩ := Bool.and_eq_true_iff.mp h
  obtain ⟨h3, h4⟩ := Bool.and_eq_true_iff.mp h2
  have e1 : oc = .type "type" := of_decide_eq_true h1
  obtain ⟨l⟩ := osl
  have e3 : l = [l.getD 0 none, l.getD 1 none, l.getD 2 none, l.getD 3 none, some (.builtin newId), l.getD 5 none] := of_decide_eq_true h3
  cases dt with
  | cls cd =>
    obtain ⟨nm, bs, mro, ns, qn, hd, sn, sub, ab, col, del⟩ := cd
    obtain ⟨h5, h6⟩ := Bool.and_eq_true_iff.mp (show (mroX C tail mro && (!del && hd)) = true from h4)
    obtain ⟨h7, h8⟩ := Bool.and_eq_true_iff.mp h6
    obtain ⟨h9, h10⟩ := Bool.and_eq_true_iff.mp h5
    have e9 : mro = .ref C :: mro.tail := of_decide_eq_true h9
    have e8 : hd = true := h8
    have e7 : del = false := by
      cases del
      · rfl
      · cases h7
    refine ⟨nm, qn, ns, bs, mro.tail, sn, sub, ab, col, od, l.getD 0 none, l.getD 1 none, l.getD 2 none, l.getD 3 none, l.getD 5 none, ?_, h10⟩
    rw [e1, e7, e8]
    show Obj.mk _ _ (Data.cls (ClassData.mk nm bs mro ns qn true sn sub ab col false)) (Array.mk l) = Obj.mk _ _ (Data.cls (ClassData.mk nm bs (.ref C :: mro.tail) ns qn true sn sub ab col false)) (Array.mk [l.getD 0 none, l.getD 1 none, l.getD 2 none, l.getD 3 none, some (.builtin newId), l.getD 5 none])
    rw [← e9, ← e3]
  | _ => cases h4
theorem excB_ok {K : PySem.W.Frag} {C : Addr} {tail : List Value} {newId : String} (h : excB K C tail newId = true) :
    ∃ nm q N bs bm sn sub ab col dd k0 k1 k2 k3 k5, K.lookup C = some (excClassObj nm q C N bs bm true sn sub ab col dd k0 k1 k2 k3 k5 newId) ∧ refsOn tail bm = true := by
  unfold excB at h
  cases e : K.lookup C with
  | none =>
    rw [e] at h
    cases h
  | some o =>
    rw [e] at h
    obtain ⟨nm, q, N, bs, bm, sn, sub, ab, col, dd, k0, k1, k2, k3, k5, e2, r⟩ := objX_ok h
    exact ⟨nm, q, N, bs, bm, sn, sub, ab, col, dd, k0, k1, k2, k3, k5, congrArg some e2, r⟩
def foundV (v : Value) : Option PySem.W.CFound → Bool
  | some (.val w) => decide (w = v)
  | _ => false
def foundB (n : String) (o : Option PySem.W.CFound) : Bool := foundV (.builtin n) o
theorem foundB_ok {n : String} {o : Option PySem.W.CFound} (h : foundB n o = true) : o = some (.val (.builtin n)) := by
  cases o with
  | none => cases h
  | some f =>
    cases f with
    | val w =>
      have e : w = .builtin n := of_decide_eq_true h
      rw [e]
    | _ => cases h

/-! ### a lambda without parameters, handed to a def that calls it -/
section
open PyProof PyProof.Rows PySem.Spec LamX
/-- the maker's code object, its table at P, as the frame tells them -/
structure TabK (K : PySem.W.Frag) (mg : Str → Option Value) (cd : Value) (P : Addr) : Prop where
  code : ∃ (c : Addr) (o : Obj) (vs : Array Value) (file : Str) (tf : Tok) (flags : Int) (tg : Tok) (inF : Bool) (text : Int) (tt : Tok), cd = .ref c ∧ K.lookup c = some o ∧ o.cls = .type "code" ∧ o.data = .fields vs ∧ vs[11]? = some (.ref P) ∧ vs.getD 18 .none = .str file tf ∧
    vs.getD 7 .none = .int flags tg ∧ vs.getD 9 .none = .bool inF ∧ vs.getD 10 .none = .int text tt ∧ c ≠ P
  blt : ∃ (b : Addr) (o : Obj), mg "__builtins__" = some (.ref b) ∧ b ≠ builtinsNs ∧ b ≠ mainGlobals ∧ b ≠ P ∧ K.lookup b = some o ∧ o.cls = .type "module" ∧ o.dict = some builtinsNs ∧ o.data = .plain
  gP : mainGlobals ≠ P
theorem TabK.tab {K : PySem.W.Frag} {mg : Str → Option Value} {cd : Value} {P : Addr} {base : Heap} (t : TabK K mg cd P) (k : K.In base) : ∃ c, cd = .ref c ∧ TabB base mg c P := by
  obtain ⟨c, o, vs, file, tf, flags, tg, inF, text, tt, e, q1, q2, q3, q4, q5, q6, q7, q8, q9⟩ := t.code
  obtain ⟨b, ob, r1, r2, r3, r4, r5, r6, r7, r8⟩ := t.blt
  have q44 : vs.getD 11 .none = .ref P := by
    rw [Array.getD_eq_getD_getElem?, q4]
    rfl
  exact ⟨c, e, ⟨⟨o, vs, file, tf, flags, tg, inF, text, tt, k _ _ q1, q2, q3, q4, q44, q5, q6, q7, q8, q9⟩, ⟨b, ob, r1, r2, r3, r4, k _ _ r5, r6, r7, r8⟩, t.gP⟩⟩
section
variable {X : Cx} {pins : List (Addr × Obj)} {σ : L2.St} {H HZ : Hp} {s s1 : Shared}
/-- the making of it -/
theorem lam_makeG {TT : List (Addr × Str)} {cc PP : Addr} {ars : Arguments} {bd : Expr} {sc : Scope} {ps0 : Pos} {EE QQ : Value → Shared → Prop} (J : Inv X pins σ H s) (B : TabB X.base X.mg cc PP) (hcc : X.env.code = .ref cc)
    (mT : (PP, X.env.qual ++ "<lambda>") ∈ TT) (uT : ∀ r ∈ TT, r.1 = PP → r.2 = X.env.qual ++ "<lambda>") (tT : Tabs TT H) (nd : defaultsOf ars X.env = ([], [])) (fr : ∀ y ∈ sc.names, y.2 = .free → ∃ b, X.env.cells.lookup y.1 = some b)
    (go : ∀ (f cn : Addr) (pm ctv : Value) (G : Hp) (t : Shared), Inv X pins σ G t → Kp [PP] H G → Tabs TT G →
      t.heap.get? f = some (PySem.W.kla_obj "<lambda>" (X.env.qual ++ "<lambda>") ars bd sc (cloFrom X.env.cells sc.names []) pm cn ctv) → G f = none → f ∉ frs X.stack → G cn = some (CodeO cn (X.env.qual ++ "<lambda>")) → QQ (.ref f) t) :
    wpAny (model X.prog X.w) X.A (eval (.Lambda ars bd sc ps0) X.env) QQ EE s := by
  obtain ⟨us, atP, tr, am⟩ := tT _ mT
  refine PySem.W.kla_eval nd ?_
  have objP : s.heap.get? PP = some { cls := .none, data := .fields us } := J.hok PP _ atP
  have outF : ∀ f, s.heap.objs.size ≤ f → f ∉ frs X.stack := by
    intro f hf z
    rcases List.mem_cons.mp (J.stkSub _ z) with e | e
    · have lt0 := J.lt
      rw [← e] at lt0
      exact Nat.lt_irrefl _ (Nat.lt_of_lt_of_le lt0 hf)
    · exact J.nofs hf e
  cases found : codeAmong ps0 us.toList with
  | some cv =>
    obtain ⟨cn, e, hco⟩ := am ps0 cv found
    subst e
    refine PySem.W.kla_makeFunctionHit (mg := X.mg) (c := cc) (P := PP) (ps := us) (closure_ok fr) J.ok.glob (J.mod.glob.keeps J.bk) hcc (B.code.keeps J.bk) objP tr found (B.bm.keeps J.bk) fun ctv g tk same more => ?_
    have J1 : Inv X pins σ H { s with heap := g.push (PySem.W.kla_obj "<lambda>" (X.env.qual ++ "<lambda>") ars bd sc (cloFrom X.env.cells sc.names []) ((X.mg "__name__").getD .none) cn ctv), toks := tk } :=
      J.kept fun b o e => Heap.get?_push_of_some _ (same b o e)
    exact go g.objs.size cn ((X.mg "__name__").getD .none) ctv H _ J1 Kp.refl tT (Heap.get?_push_size _ rfl) (J.hok.fresh more) (outF _ more) hco
  | none =>
    refine PySem.W.kla_makeFunction (mg := X.mg) (c := cc) (P := PP) (ps := us) (closure_ok fr) J.ok.glob (J.mod.glob.keeps J.bk) hcc (B.code.keeps J.bk) objP tr found B.gP (B.bm.keeps J.bk) fun cn ctv g tk same ge lt rec tab => ?_
    obtain ⟨c2, oc, vs, t, e2, hoc, hd, hv⟩ := rec
    cases e2
    have more : s.heap.objs.size ≤ g.objs.size := Nat.le_trans ge (Nat.le_of_lt lt)
    have fc : H cn = none := J.hok.fresh ge
    have nPc : PP ≠ cn := ne_of_none atP fc
    obtain ⟨us2, eus⟩ : ∃ us2, us2 = us ++ #[rawInt ps0.line, rawInt ps0.col, .ref cn] := ⟨_, rfl⟩
    have J1 := inv_table (t' := tk) (more := #[rawInt ps0.line, rawInt ps0.col, .ref cn]) (h' := g.push (PySem.W.kla_obj "<lambda>" (X.env.qual ++ "<lambda>") ars bd sc (cloFrom X.env.cells sc.names []) ((X.mg "__name__").getD .none) cn ctv)) (q := X.env.qual ++ "<lambda>") J atP
      (fun b o nb e => Heap.get?_push_of_some _ (same b o nb e)) (Heap.get?_push_of_some _ tab) ge ⟨oc, vs, t, Heap.get?_push_of_some _ hoc, hd, hv⟩
    rw [← eus] at J1
    have kk : Kp [PP] H (upd (upd H PP (.tbl us2)) cn (CodeO cn (X.env.qual ++ "<lambda>"))) := Kp.upd (Kp.mut atP (fun z => z) List.mem_cons_self) ⟨fc⟩
    have tl : us2.toList = us.toList ++ [rawInt ps0.line, rawInt ps0.col, .ref cn] := by
      rw [eus]
      simp
    have toCo : ∀ {d : Addr}, H d = some (CodeO d (X.env.qual ++ "<lambda>")) → (upd (upd H PP (.tbl us2)) cn (CodeO cn (X.env.qual ++ "<lambda>"))) d = some (CodeO d (X.env.qual ++ "<lambda>")) := fun {d} e => kk.at_ _ _ e (not_one fun z => codeO_ne us (Option.some.inj (e.symm.trans (by rw [z]; exact atP))))
    refine go g.objs.size cn ((X.mg "__name__").getD .none) ctv _ _ J1 kk (fun r hr => ?_) (Heap.get?_push_size _ rfl) ?_ (outF _ more) upd_same
    · by_cases cr : r.1 = PP
      · rw [uT r hr cr, cr]
        refine ⟨us2, by rw [upd_ne nPc, upd_same], by rw [tl]; exact PySem.TriplesOk_snoc _ _ _ _ tr, fun p' w hw => ?_⟩
        rw [tl] at hw
        rcases among_app _ tr hw with z | z
        · obtain ⟨d, e1, e2⟩ := am p' w z
          exact ⟨d, e1, toCo e2⟩
        · exact ⟨cn, z, upd_same⟩
      · obtain ⟨vs', a1, a2, a3⟩ := tT r hr
        refine ⟨vs', kk.at_ _ _ a1 (not_one cr), a2, fun p' w hw => ?_⟩
        obtain ⟨d, e1, e2⟩ := a3 p' w hw
        refine ⟨d, e1, kk.at_ _ _ e2 (not_one fun z => codeO_ne us (Option.some.inj (e2.symm.trans (by rw [z]; exact atP))))⟩
    · rw [upd_ne (Nat.ne_of_gt lt), upd_ne (Nat.ne_of_gt (Nat.lt_of_lt_of_le (Heap.lt_size objP) more))]
      exact J.hok.fresh more
/-- its call, in the def that got it -/
theorem pe_actG {EG : XK} {NG : List Str} {qG : Str} {sG : Scope} {g f cn : Addr} {cdG pm ctv : Value} {ars : Arguments} {bd : Expr} {sc : Scope} {k i : Nat} {a : Str} {pn : List (Addr × Obj)} {xe : Value → Shared → Prop} {W : WX} {tb : XK → TE} {p1 p2 : Pos}
    (J : Inv X pins σ H s) (LS : LamS X.env.scope sc) (of : s.heap.get? f = some (PySem.W.kla_obj "<lambda>" (X.env.qual ++ "<lambda>") ars bd sc (cloFrom X.env.cells sc.names []) pm cn ctv)) (ff : H f = none) (fs : f ∉ frs X.stack)
    (bi : bindArgs (PySem.W.kla_fn "<lambda>" (X.env.qual ++ "<lambda>") ars bd sc (cloFrom X.env.cells sc.names []) pm (.ref cn) ctv) ⟨[], []⟩ = pure [])
    (tk : Takes ((cxOf (L2.CX X.prog X.w) X.prog X.w X.K X.mg X.base NG qG sG g cdG X.A X.stack s H EG).tr pn xe) W) (zr : RoomG (k + 1) (X.A.deeper (envOfC qG sG s.heap.objs.size g cdG)))
    (body : ∀ (A : Around) (outer : List Env) (t : Shared) (G : Hp) (E : XK), RoomG k (A.deeper (lamEnv X sc t.heap.objs.size f cn)) → PE (lamCx X A outer t G E sc f cn) bd (tb E))
    (hN : NG[i]? = some a) (hv : Vis sG a) (hd : (a == ("__debug__" : Str)) = false := by decide) (hcd : (a == ("__classdict__" : Str)) = false := by decide) :
    PE ((cxOf (L2.CX X.prog X.w) X.prog X.w X.K X.mg X.base NG qG sG g cdG X.A X.stack s H EG).tr pn xe) (.Call (.Name a p1) [] [] p2)
      (fun σZ G QZ => σZ[i]? = some (some (.ref f)) ∧ G cn = some (CodeO cn (X.env.qual ++ "<lambda>")) ∧ tb (fun cls d G' => W cls d σZ G') σ G QZ) := by
  constructor
  intro pinsZ sZ σZ G QZ JZ ⟨hs, hc, ht⟩
  refine wpAny_Call_Name_kw (thn ((pe_var (pos := p1) (i := i) hN hv hd hcd).run pinsZ sZ σZ G (fun v G1 => v = .ref f ∧ G1 = G) JZ ⟨.ref f, hs, rfl, rfl⟩) ?_)
  rintro u t ⟨v, G1, J1, r1, ev, eG⟩
  subst ev
  subst eG
  obtain rfl : u = Value.ref f := r1
  have of1 := J1.base.keep f _ of ff fs List.not_mem_nil
  refine PySem.W.callWith_F0 ⟨_, _, _, _, of1⟩ ?_
  obtain ⟨⟨oc, vs, tt, hoc, hdc, hvc⟩, _, _⟩ := J1.hok cn _ hc
  have run : codeAny (model X.prog X.w) (X.A.deeper (envOfC qG sG s.heap.objs.size g cdG)) (.call (.ref f) ⟨[], []⟩) (CR (L2.CX X.prog X.w) (envOfC qG sG s.heap.objs.size g cdG :: X.stack) X.prog X.w G1 t QZ (fun cls d G' => W cls d σZ G')) t := by
    refine PySem.W.kla_callFunE zr.r.depth of1 rfl LS.co LS.gen rfl ⟨cn, oc, vs, tt, rfl, hoc, hdc, hvc⟩ ?_
    rw [bi]
    refine wpAny_pure (wpAny_newFunctionEnv (fun y hy => (LS.own y hy).2) (fun y hy => absurd hy List.not_mem_nil) (fun h₁ hns hsb => ⟨J1.nolimit.fresh _ hsb, ?_⟩) LS.kind)
    show codeAny _ _ (.expr bd (lamEnv X sc t.heap.objs.size f cn)) _ _
    have kp : ∀ b o, t.heap.get? b = some o → h₁.get? b = some o := fun b o e => hsb.extBut b o (Nat.ne_of_lt (Heap.lt_size e)) (Heap.get?_push_of_some _ e)
    have JL : Inv (lamCx X (X.A.deeper (envOfC qG sG s.heap.objs.size g cdG)) (envOfC qG sG s.heap.objs.size g cdG :: X.stack) t G1 (fun cls d G' => W cls d σZ G') sc f cn) [] σ G1 { t with heap := h₁, toks := t.toks + ([] : List (Str × Value)).length } :=
      lam_start2 J LS J1.env0 zr.r.hd J1.base hns kp
    refine PySem.W.kla_codeExpr (wpAny_mono ((body _ _ t G1 _ (zr.deeper _)).run [] _ _ G1 QZ JL ht) ?_ fun e s' q => q)
    rintro v s' ⟨w', G', J', rv, q⟩
    exact ⟨w', G', J'.os, J'.bare, J'.base, J'.hok, rv, q⟩
  refine wpAny_call (codeAny_mono run fun r s' q => ?_)
  match r, q with
  | .error e, q => exact passAt tk σZ pinsZ G1 t e s' J1 q
  | .ok (.ret u), q => exact J1.after q
  | .ok .next, q => exact False.elim q
  | .ok .brk, q => exact False.elim q
  | .ok .cont, q => exact False.elim q
end
/-- a def of one parameter that calls what it got: TT what it makes of that reading -/
def GivesG (P : Program) (w : World) (K : PySem.W.Frag) (mg : Str → Option Value) (base : Heap) (k : Nat) (NG : List Str) (x : Str) (sG : Scope) (g : Addr) (bG : List Stmt) (a : Str) (TT : (XK → Hp → VK → Prop) → Hp → VK → Prop) : Prop :=
  ∀ (cdG : Value) (A : Around) (outer : List Env) (f cn : Addr) (q : Str) (s : Shared) (H : Hp) (Q : VK) (tl : XK → Hp → VK → Prop), RoomG k (A.deeper (envOfC x sG s.heap.objs.size g cdG)) →
    (∀ (W : WX) (pn : List (Addr × Obj)) (xe : Value → Shared → Prop) (p1 p2 : Pos), Takes ((cxOf (L2.CX P w) P w K mg base NG x sG g cdG A outer s H fun _ _ _ => False).tr pn xe) W →
      PE ((cxOf (L2.CX P w) P w K mg base NG x sG g cdG A outer s H fun _ _ _ => False).tr pn xe) (.Call (.Name a p1) [] [] p2) (fun σZ G QZ => σZ[0]? = some (some (.ref f)) ∧ G cn = some (CodeO cn q) ∧ tl (fun cls d G' => W cls d σZ G') G QZ)) →
    H cn = some (CodeO cn q) → TT tl H Q →
    ∃ t, PSs (cxOf (L2.CX P w) P w K mg base NG x sG g cdG A outer s H fun _ _ _ => False) bG t ∧ t { nx := fun _ H' => Q .non H', rt := Q } (L2.start NG [.ref f]) H
/-- x(lambda: body) -/
def tLamG (T : List (Addr × Str)) (P : Addr) (TT : (XK → Hp → VK → Prop) → Hp → VK → Prop) (t : XK → TE) : TE := fun σ H Q => Tabs T H ∧ ∀ H1, Kp [P] H H1 → Tabs T H1 → TT (fun E H' Q' => t E σ H' Q') H1 Q
theorem pe_lamG {X : Cx} {T : List (Addr × Str)} {TT : (XK → Hp → VK → Prop) → Hp → VK → Prop} {x a : Str} {g P : Addr} {k j : Nat} {pG : Arguments} {bG : List Stmt} {sG : Scope} {fd : FuncData} {NG : List Str}
    {ars : Arguments} {bd : Expr} {sc : Scope} {t : XK → TE} {p lp pos : Pos} (hg : Gl X x) (hm : X.mg x = some (.ref g)) (FD : FunD X.K x x pG bG sG [] [] g fd) (hb : Binds X.K fd [a] []) (SG : FnScope NG [a] sG) (hN : NG[0]? = some a) (hv : Vis sG a)
    (hG : GivesG X.prog X.w X.K X.mg X.base k NG x sG g bG a TT) (kj : j + 1 ≤ k)
    (tk : TabK X.K X.mg X.env.code P) (mT : (P, X.env.qual ++ "<lambda>") ∈ T) (uT : ∀ r ∈ T, r.1 = P → r.2 = X.env.qual ++ "<lambda>") (zr : RoomG (k + 1) X.A) (LS : LamS X.env.scope sc) (nd : defaultsOf ars X.env = ([], []))
    (bi : ∀ (q : Str) (cl : List (Str × Addr)) (pm cv ctv : Value), bindArgs (PySem.W.kla_fn "<lambda>" q ars bd sc cl pm cv ctv) ⟨[], []⟩ = pure [])
    (body : ∀ (A : Around) (outer : List Env) (s : Shared) (H : Hp) (E : XK) (f cn : Addr), RoomG j (A.deeper (lamEnv X sc s.heap.objs.size f cn)) → PE (lamCx X A outer s H E sc f cn) bd (t E))
    (hdb : (x == ("__debug__" : Str)) = false := by decide) (hd : (a == ("__debug__" : Str)) = false := by decide) (hcd : (a == ("__classdict__" : Str)) = false := by decide) :
    PE X (.Call (.Name x p) [.Lambda ars bd sc lp] [] pos) (tLamG T P TT t) := by
  constructor
  intro pins s σ H Q J ⟨tT, h⟩
  obtain ⟨cc, ecc, B⟩ := tk.tab J.ok.mod.kin
  obtain ⟨oc, od, dV, kV, doc, pm0, an, cdv, ct0, osl, rfl, lk, hcg, _, _⟩ := FD.ex
  refine wpAny_Call_Name_kw (ld_glob J hg hm ?_ hdb)
  refine PySem.W.callWith_K (h₀ := X.base) J.ok.mod.kin FD.kp ?_ (by rfl) (by rfl)
  show wpAny _ _ (spliced ((false, eval (.Lambda ars bd sc lp) X.env) :: backTo pos (starEach [] X.env))) _ _ s
  refine Calls.spliced_cons (lam_makeG J B ecc mT uT tT nd (LS.has J.ok) fun f cn pm ctv G s' J1 kG T1 of ff fs hco => ?_)
  refine Calls.spliced_nil ⟨J1.kIn, ?_⟩
  have run : codeAny (model X.prog X.w) X.A (.call (.ref g) ⟨[.ref f], []⟩) (CR (L2.CX X.prog X.w) X.stack X.prog X.w G s' Q fun _ _ _ => False) s' := by
    refine run_ofS (N := NG) (ps := [a]) (us := [.ref f]) (vs := [.ref f]) lk hcg SG zr.r J1.env0 (hb s' [.ref f] J1.kIn rfl) (.cons rfl .nil) rfl fun _ => ?_
    exact hG cdv X.A X.stack f cn (X.env.qual ++ "<lambda>") s' G Q (fun E H' Q' => t E σ H' Q') (zr.deeper _) (fun W pn xe p1 p2 tk => pe_actG (i := 0) J1 LS of ff fs (bi _ _ _ _ _) tk (RoomG.mono (zr.deeper _) kj) (fun A outer t G E z => body A outer t G E f cn z) hN hv hd hcd) hco (h G kG T1)
  refine wpAny_call (codeAny_mono run fun r s2 q => ?_)
  match r, q with
  | .error e, q =>
    obtain ⟨_, _, _, _, _, _, _, _, _, _, _, _, y⟩ := q
    exact y.elim
  | .ok (.ret u), q => exact J1.after q
  | .ok .next, q => exact False.elim q
  | .ok .brk, q => exact False.elim q
  | .ok .cont, q => exact False.elim q
theorem passLam {X : Cx} {A : Around} {outer : List Env} {t : Shared} {G : Hp} {E : XK} {sc : Scope} {f cn : Addr} : Ps (lamCx X A outer t G E sc f cn) E := passes_call (X := lamCx X A outer t G E sc f cn) (takes_of rfl rfl rfl rfl) fun _ _ _ _ h => h
theorem tabs_uniq {T : List (Addr × Str)} {P : Addr} {q : Str} (nd : (T.map (·.1)).Nodup) (h : (P, q) ∈ T) : ∀ r ∈ T, r.1 = P → r.2 = q := fun r hr e => by
  induction T with
  | nil => cases hr
  | cons a T ih =>
    rw [List.map_cons, List.nodup_cons] at nd
    rcases List.mem_cons.mp h with h1 | h1
    · rcases List.mem_cons.mp hr with h2 | h2
      · rw [h2, ← h1]
      · exact absurd (List.mem_map.mpr ⟨r, h2, by rw [e, ← h1]⟩) nd.1
    · rcases List.mem_cons.mp hr with h2 | h2
      · exact absurd (List.mem_map.mpr ⟨_, h1, by rw [← h2, e]⟩) nd.1
      · exact ih nd.2 h1 h2
theorem lam_binds {K : PySem.W.Frag} {fd : FuncData} {ps : List Str} (h : BindsD K fd ps []) : Binds K fd ps [] := by
  obtain ⟨ds, hd, hb⟩ := h
  cases hd
  exact hb
/-- a def that makes lambdas: its code object is the frame's -/
theorem okDL {P : Program} {w : World} {K : PySem.W.Frag} {mg : Str → Option Value} {base : Heap} {x qual : Str} {params : Arguments} {body : List Stmt} {scope : Scope} {dvs : List V} {kws : List (Str × V)} {f : Addr} {fd : FuncData} {N ps : List Str} {k : Nat} {sp : Sp}
    (F : FunD K x qual params body scope dvs kws f fd) (S : FnScope N ps scope) (len : ∀ vs H Q E, sp vs H Q E → vs.length = ps.length)
    (hb : ∀ (cdv : Value) (A : Around) (outer : List Env) (s : Shared) (H : Hp) (vs : List V) (Q : VK) (E : XK), fd.code = cdv → RoomG k (A.deeper (envOfC qual scope s.heap.objs.size f cdv)) → sp vs H Q E →
      ∃ t, PSs (cxOf (L2.CX P w) P w K mg base N qual scope f cdv A outer s H E) body t ∧ t { nx := fun _ H' => Q .non H', rt := Q } (L2.start N vs) H) : FnG P w K mg base (k + 1) f fd ps sp := by
  obtain ⟨oc, od, dV, kV, doc, pm, an, cdv, ct, osl, rfl, lk, hcd, _, _⟩ := F.ex
  exact FnG.body lk hcd S len fun A outer s H vs Q E z h => hb cdv A outer s H vs Q E rfl z h
theorem i_lamG {T : List (Addr × Str)} {P : Addr} {TT : (XK → Hp → VK → Prop) → Hp → VK → Prop} {t : XK → TE} {σ : L2.St} {H : Hp} {Q : VK} (tT : Tabs T H) (h : ∀ H1, Kp [P] H H1 → Tabs T H1 → TT (fun E H' Q' => t E σ H' Q') H1 Q) : tLamG T P TT t σ H Q := ⟨tT, h⟩
end

section
open PySem.Spec PyProof.Rows LamX
/-- the code object of the def at f, its table, read off the frame -/
def cdOf (K : PySem.W.Frag) (f : Addr) : Value := match K.lookup f with
  | some o => (match (o.data : Data) with
    | .func fd => fd.code
    | _ => .none)
  | none => .none
def tbOf (K : PySem.W.Frag) (cd : Value) : Addr := match cd with
  | .ref c => (match K.lookup c with
    | some o => (match (o.data : Data) with
      | .fields vs => (match (vs[11]? : Option Value) with
        | some (.ref P) => P
        | _ => 0)
      | _ => 0)
    | none => 0)
  | _ => 0
def isStr : Value → Bool
  | .str _ _ => true
  | _ => false
def isInt : Value → Bool
  | .int _ _ => true
  | _ => false
def isBool : Value → Bool
  | .bool _ => true
  | _ => false
def bltB (K : PySem.W.Frag) (P : Addr) : Bool := match PySem.W.nsIn K mainGlobals "__builtins__" with
  | some (some (.ref b)) => (match K.lookup b with
    | some o => decide (b ≠ builtinsNs) && (decide (b ≠ mainGlobals) && (decide (b ≠ P) && (decide (o.cls = .type "module") && (decide (o.dict = some builtinsNs) && (match o.data with
      | .plain => true
      | _ => false)))))
    | none => false)
  | _ => false
def codB (K : PySem.W.Frag) (cd : Value) (P : Addr) : Bool := match cd with
  | .ref c => (match K.lookup c with
    | some o => decide (o.cls = .type "code") && (decide (c ≠ P) && (match o.data with
      | .fields vs => decide (vs[11]? = some (.ref P)) && (isStr (vs.getD 18 .none) && (isInt (vs.getD 7 .none) && (isBool (vs.getD 9 .none) && isInt (vs.getD 10 .none))))
      | _ => false))
    | none => false)
  | _ => false
def tabB (K : PySem.W.Frag) (cd : Value) (P : Addr) : Bool := codB K cd P && (bltB K P && decide (mainGlobals ≠ P))
theorem isStr_ok {v : Value} (h : isStr v = true) : ∃ z t, v = .str z t := by
  cases v <;> first | exact ⟨_, _, rfl⟩ | cases h
theorem isInt_ok {v : Value} (h : isInt v = true) : ∃ z t, v = .int z t := by
  cases v <;> first | exact ⟨_, _, rfl⟩ | cases h
theorem isBool_ok {v : Value} (h : isBool v = true) : ∃ z, v = .bool z := by
  cases v <;> first | exact ⟨_, rfl⟩ | cases h
theorem tabB_ok {K : PySem.W.Frag} {h : Heap} {mg : Str → Option Value} {cd : Value} {P : Addr} (X : K.In h) (G : h.Ns mainGlobals mg) (e : tabB K cd P = true) : TabK K mg cd P := by
  unfold tabB at e
  simp only [Bool.and_eq_true] at e
  obtain ⟨e1, e2, e3⟩ := e
  refine ⟨?_, ?_, of_decide_eq_true e3⟩
  · unfold codB at e1
    split at e1
    · rename_i c
      split at e1
      · rename_i o ho
        simp only [Bool.and_eq_true] at e1
        obtain ⟨q1, q2, q3⟩ := e1
        split at q3
        · rename_i vs hv
          simp only [Bool.and_eq_true] at q3
          obtain ⟨r1, r2, r3, r4, r5⟩ := q3
          obtain ⟨z1, t1, y1⟩ := isStr_ok r2
          obtain ⟨z2, t2, y2⟩ := isInt_ok r3
          obtain ⟨z3, y3⟩ := isBool_ok r4
          obtain ⟨z4, t4, y4⟩ := isInt_ok r5
          exact ⟨c, o, vs, z1, t1, z2, t2, z3, z4, t4, rfl, ho, of_decide_eq_true q1, hv, of_decide_eq_true r1, y1, y2, y3, y4, of_decide_eq_true q2⟩
        · cases q3
      · cases e1
    · cases e1
  · unfold bltB at e2
    split at e2
    · rename_i b hb
      split at e2
      · rename_i o ho
        simp only [Bool.and_eq_true] at e2
        obtain ⟨q1, q2, q3, q4, q5, q6⟩ := e2
        refine ⟨b, o, PySem.W.mg_of X G hb, of_decide_eq_true q1, of_decide_eq_true q2, of_decide_eq_true q3, ho, of_decide_eq_true q4, of_decide_eq_true q5, ?_⟩
        split at q6
        · assumption
        · cases q6
      · cases e2
    · cases e2
theorem cdOf_ok {K : PySem.W.Frag} {x qual : Str} {params : Arguments} {body : List Stmt} {scope : Scope} {dvs : List V} {kws : List (Str × V)} {f : Addr} {fd : FuncData} (F : FunD K x qual params body scope dvs kws f fd) : cdOf K f = fd.code := by
  obtain ⟨oc, od, dV, kV, doc, pm, an, cdv, ct, osl, rfl, lk, _⟩ := F.ex
  unfold cdOf
  rw [lk]
/-- the tables, yet empty -/
def emptyB (K2 : PySem.W.Frag) (P : Addr) : Bool := match K2.lookup P with
  | some ⟨.none, none, .fields vs, sl⟩ => vs.isEmpty && sl.isEmpty
  | _ => false
theorem emptyB_ok {K2 : PySem.W.Frag} {h : Heap} {P : Addr} (X : K2.In h) (e : emptyB K2 P = true) : h.get? P = some { cls := .none, data := .fields #[] } := by
  unfold emptyB at e
  split at e
  · rename_i vs sl hv
    simp only [Bool.and_eq_true, Array.isEmpty_iff] at e
    rw [e.1, e.2] at hv
    exact X _ _ hv
  · cases e
def isTab (o : Obj) : Bool := match o.cls, o.data with
  | .none, .fields _ => true
  | _, _ => false
end

def top (i : Nat) : Stmt := PySem.Challenge.pw_forkthrift_k10_calls_by_names.main.body.getD i (.Pass ⟨0, 0, 0, 0⟩)
abbrev s_Clash_init : Stmt := inClass (top 9) 0
abbrev s_is_number : Stmt := top 12
abbrev s_is_whole : Stmt := top 13
abbrev s_is_size : Stmt := top 14
abbrev s_is_run : Stmt := top 15
abbrev s_are_runs : Stmt := top 16
abbrev s_joined : Stmt := top 17
abbrev s_cut_out : Stmt := top 18
abbrev s_want_size : Stmt := top 20
abbrev s_want_number : Stmt := top 21
abbrev s_want_cell : Stmt := top 22
abbrev s_want_stretch : Stmt := top 23
abbrev s_Memory_init : Stmt := inClass (top 24) 0
abbrev s_Memory_size : Stmt := inClass (top 24) 1
abbrev s_Memory_at : Stmt := inClass (top 24) 2
abbrev s_Memory_runs : Stmt := inClass (top 24) 3
abbrev s_Memory_lay : Stmt := inClass (top 24) 4
abbrev s_Memory_put : Stmt := inClass (top 24) 5
abbrev s_Memory_fill : Stmt := inClass (top 24) 6
abbrev s_Memory_bring : Stmt := inClass (top 24) 7
abbrev s_Memory_copied : Stmt := inClass (top 24) 8
abbrev s_Memory_eq : Stmt := inClass (top 24) 9
abbrev s_Memory_len : Stmt := inClass (top 24) 10
abbrev s_Memory_repr : Stmt := inClass (top 24) 11
abbrev s_memory_of : Stmt := top 25
abbrev s_side_by_side : Stmt := top 27
abbrev s_difference : Stmt := top 28
abbrev s_is_part : Stmt := top 29
abbrev s_is_difference : Stmt := top 30
abbrev s_turned : Stmt := top 31
abbrev s_want_fit : Stmt := top 32
abbrev s_carry : Stmt := top 33
abbrev s_law_pot : Stmt := top 35
abbrev s_law_draw : Stmt := top 36
abbrev s_law_size : Stmt := top 37
abbrev s_law_value : Stmt := top 38
abbrev s_law_place : Stmt := top 39
abbrev s_law_step : Stmt := top 40
abbrev s_law_differences_right : Stmt := top 41
abbrev s_law_runs_right : Stmt := top 42
abbrev s_law_raised : Stmt := top 43
abbrev s_law_errors_right : Stmt := top 44
abbrev s_law : Stmt := top 45
def tyNames : List String := ["NoneType", "int", "bool", "str", "list", "tuple", "dict"]
theorem kit_other {K : PySem.W.Frag} {C : Addr} (hc : PySem.W.isClsIn K C = true) (ht : PySem.W.typeIn K (.ref C) = some (.type "type")) {n : String} (h : PySem.W.subIn K (.type n) (.ref C) = some false) : PySem.W.kitOne K (.type n) (.ref C) = some false := by
  unfold PySem.W.kitOne PySem.W.kitCls
  unfold PySem.W.isClsIn at hc
  rw [if_neg (by simp)]
  simp only [hc, ht, h, beq_self_eq_true, Bool.and_self, if_true]
theorem kit_me {K : PySem.W.Frag} {C : Addr} : PySem.W.kitOne K (.ref C) (.ref C) = some true := by
  unfold PySem.W.kitOne
  rw [if_pos (by simp)]
/-- what the top leaves -/
structure Txt (K : PySem.W.Frag) (mg : Str → Option Value) where
  c_Memory : Addr
  cl_Memory : Cls K c_Memory
  mg_Memory : mg "Memory" = some (.ref c_Memory)
  na_Memory_pairs : NoAttr K c_Memory "pairs"
  na_Memory_wide : NoAttr K c_Memory "wide"
  ic_Memory : C8.InsC K c_Memory
  ot_Memory : ∀ n ∈ tyNames, PySem.W.kitOne K (.type n) (.ref c_Memory) = some false
  ne_Memory : PySem.W.findIn K (.ref c_Memory) "__ne__" = some (some (.builtin "object.__ne__"))
  x_ForkError : Addr
  mx_ForkError : mg "ForkError" = some (.ref x_ForkError)
  ec_ForkError : L2.ExcC K x_ForkError
  et_ForkError : PySem.W.typeIn K (.ref x_ForkError) = some (.type "type")
  x_NoSize : Addr
  mx_NoSize : mg "NoSize" = some (.ref x_NoSize)
  ec_NoSize : L2.ExcC K x_NoSize
  et_NoSize : PySem.W.typeIn K (.ref x_NoSize) = some (.type "type")
  x_NoNumber : Addr
  mx_NoNumber : mg "NoNumber" = some (.ref x_NoNumber)
  ec_NoNumber : L2.ExcC K x_NoNumber
  et_NoNumber : PySem.W.typeIn K (.ref x_NoNumber) = some (.type "type")
  x_NoCell : Addr
  mx_NoCell : mg "NoCell" = some (.ref x_NoCell)
  ec_NoCell : L2.ExcC K x_NoCell
  et_NoCell : PySem.W.typeIn K (.ref x_NoCell) = some (.type "type")
  x_NoStretch : Addr
  mx_NoStretch : mg "NoStretch" = some (.ref x_NoStretch)
  ec_NoStretch : L2.ExcC K x_NoStretch
  et_NoStretch : PySem.W.typeIn K (.ref x_NoStretch) = some (.type "type")
  x_NoDifference : Addr
  mx_NoDifference : mg "NoDifference" = some (.ref x_NoDifference)
  ec_NoDifference : L2.ExcC K x_NoDifference
  et_NoDifference : PySem.W.typeIn K (.ref x_NoDifference) = some (.type "type")
  x_Clash : Addr
  mx_Clash : mg "Clash" = some (.ref x_Clash)
  ec_Clash : L2.ExcC K x_Clash
  et_Clash : PySem.W.typeIn K (.ref x_Clash) = some (.type "type")
  ek_NoSize : PySem.W.keepIn K (.ref x_NoSize) = true
  en_NoSize : PySem.W.excIn K x_NoSize [.type "ValueError", .type "Exception", .type "BaseException", .type "object"] "ValueError.__new__" = true
  is_NoSize_ForkError : PySem.W.subIn K (.ref x_NoSize) (.ref x_ForkError) = some true
  is_NoSize_NoSize : PySem.W.subIn K (.ref x_NoSize) (.ref x_NoSize) = some true
  is_NoSize_NoNumber : PySem.W.subIn K (.ref x_NoSize) (.ref x_NoNumber) = some false
  is_NoSize_NoCell : PySem.W.subIn K (.ref x_NoSize) (.ref x_NoCell) = some false
  is_NoSize_NoStretch : PySem.W.subIn K (.ref x_NoSize) (.ref x_NoStretch) = some false
  is_NoSize_NoDifference : PySem.W.subIn K (.ref x_NoSize) (.ref x_NoDifference) = some false
  is_NoSize_Clash : PySem.W.subIn K (.ref x_NoSize) (.ref x_Clash) = some false
  ek_NoCell : PySem.W.keepIn K (.ref x_NoCell) = true
  en_NoCell : PySem.W.excIn K x_NoCell [.type "ValueError", .type "Exception", .type "BaseException", .type "object"] "ValueError.__new__" = true
  is_NoCell_ForkError : PySem.W.subIn K (.ref x_NoCell) (.ref x_ForkError) = some true
  is_NoCell_NoSize : PySem.W.subIn K (.ref x_NoCell) (.ref x_NoSize) = some false
  is_NoCell_NoNumber : PySem.W.subIn K (.ref x_NoCell) (.ref x_NoNumber) = some false
  is_NoCell_NoCell : PySem.W.subIn K (.ref x_NoCell) (.ref x_NoCell) = some true
  is_NoCell_NoStretch : PySem.W.subIn K (.ref x_NoCell) (.ref x_NoStretch) = some false
  is_NoCell_NoDifference : PySem.W.subIn K (.ref x_NoCell) (.ref x_NoDifference) = some false
  is_NoCell_Clash : PySem.W.subIn K (.ref x_NoCell) (.ref x_Clash) = some false
  ek_NoStretch : PySem.W.keepIn K (.ref x_NoStretch) = true
  en_NoStretch : PySem.W.excIn K x_NoStretch [.type "ValueError", .type "Exception", .type "BaseException", .type "object"] "ValueError.__new__" = true
  is_NoStretch_ForkError : PySem.W.subIn K (.ref x_NoStretch) (.ref x_ForkError) = some true
  is_NoStretch_NoSize : PySem.W.subIn K (.ref x_NoStretch) (.ref x_NoSize) = some false
  is_NoStretch_NoNumber : PySem.W.subIn K (.ref x_NoStretch) (.ref x_NoNumber) = some false
  is_NoStretch_NoCell : PySem.W.subIn K (.ref x_NoStretch) (.ref x_NoCell) = some false
  is_NoStretch_NoStretch : PySem.W.subIn K (.ref x_NoStretch) (.ref x_NoStretch) = some true
  is_NoStretch_NoDifference : PySem.W.subIn K (.ref x_NoStretch) (.ref x_NoDifference) = some false
  is_NoStretch_Clash : PySem.W.subIn K (.ref x_NoStretch) (.ref x_Clash) = some false
  ek_NoDifference : PySem.W.keepIn K (.ref x_NoDifference) = true
  en_NoDifference : PySem.W.excIn K x_NoDifference [.type "ValueError", .type "Exception", .type "BaseException", .type "object"] "ValueError.__new__" = true
  is_NoDifference_ForkError : PySem.W.subIn K (.ref x_NoDifference) (.ref x_ForkError) = some true
  is_NoDifference_NoSize : PySem.W.subIn K (.ref x_NoDifference) (.ref x_NoSize) = some false
  is_NoDifference_NoNumber : PySem.W.subIn K (.ref x_NoDifference) (.ref x_NoNumber) = some false
  is_NoDifference_NoCell : PySem.W.subIn K (.ref x_NoDifference) (.ref x_NoCell) = some false
  is_NoDifference_NoStretch : PySem.W.subIn K (.ref x_NoDifference) (.ref x_NoStretch) = some false
  is_NoDifference_NoDifference : PySem.W.subIn K (.ref x_NoDifference) (.ref x_NoDifference) = some true
  is_NoDifference_Clash : PySem.W.subIn K (.ref x_NoDifference) (.ref x_Clash) = some false
  ek_Clash : PySem.W.keepIn K (.ref x_Clash) = true
  is_Clash_ForkError : PySem.W.subIn K (.ref x_Clash) (.ref x_ForkError) = some false
  is_Clash_NoSize : PySem.W.subIn K (.ref x_Clash) (.ref x_NoSize) = some false
  is_Clash_NoNumber : PySem.W.subIn K (.ref x_Clash) (.ref x_NoNumber) = some false
  is_Clash_NoCell : PySem.W.subIn K (.ref x_Clash) (.ref x_NoCell) = some false
  is_Clash_NoStretch : PySem.W.subIn K (.ref x_Clash) (.ref x_NoStretch) = some false
  is_Clash_NoDifference : PySem.W.subIn K (.ref x_Clash) (.ref x_NoDifference) = some false
  is_Clash_Clash : PySem.W.subIn K (.ref x_Clash) (.ref x_Clash) = some true
  a_Clash_init : Addr
  d_Clash_init : FuncData
  F_Clash_init : FunD K "__init__" "Clash.__init__" (defArgs s_Clash_init) (defBody s_Clash_init) (defScope s_Clash_init) [] ([] : List (Str × V)) a_Clash_init d_Clash_init
  xi_Clash : PySem.W.findIn K (.ref x_Clash) "__init__" = some (some (.ref a_Clash_init))
  xt_Clash : PySem.W.typeIn K (.ref a_Clash_init) = some (.type "function")
  xc_Clash : XC K x_Clash "RuntimeError" "RuntimeError.__new__" "RuntimeError.__init__" [.type "RuntimeError", .type "Exception", .type "BaseException", .type "object"]
  xn_Clash : PySem.W.findIn K (.ref x_Clash) "cell" = some none
  xv_Clash : PySem.W.findCls K (.type "RuntimeError") (.type "type") "__init__" = some (.val (.builtin "RuntimeError.__init__"))
  xf_Clash : XfC K x_Clash
  b_Clash_init : BindsD K d_Clash_init ["self", "cell"] []
  a_is_number : Addr
  d_is_number : FuncData
  F_is_number : FunD K "is_number" "is_number" (defArgs s_is_number) (defBody s_is_number) (defScope s_is_number) [] ([] : List (Str × V)) a_is_number d_is_number
  m_is_number : mg "is_number" = some (.ref a_is_number)
  b_is_number : BindsD K d_is_number ["thing"] []
  a_is_whole : Addr
  d_is_whole : FuncData
  F_is_whole : FunD K "is_whole" "is_whole" (defArgs s_is_whole) (defBody s_is_whole) (defScope s_is_whole) [] ([] : List (Str × V)) a_is_whole d_is_whole
  m_is_whole : mg "is_whole" = some (.ref a_is_whole)
  b_is_whole : BindsD K d_is_whole ["thing", "least", "most"] []
  a_is_size : Addr
  d_is_size : FuncData
  F_is_size : FunD K "is_size" "is_size" (defArgs s_is_size) (defBody s_is_size) (defScope s_is_size) [] ([] : List (Str × V)) a_is_size d_is_size
  m_is_size : mg "is_size" = some (.ref a_is_size)
  b_is_size : BindsD K d_is_size ["thing"] []
  a_is_run : Addr
  d_is_run : FuncData
  F_is_run : FunD K "is_run" "is_run" (defArgs s_is_run) (defBody s_is_run) (defScope s_is_run) [] ([] : List (Str × V)) a_is_run d_is_run
  m_is_run : mg "is_run" = some (.ref a_is_run)
  b_is_run : BindsD K d_is_run ["thing"] []
  a_are_runs : Addr
  d_are_runs : FuncData
  F_are_runs : FunD K "are_runs" "are_runs" (defArgs s_are_runs) (defBody s_are_runs) (defScope s_are_runs) [] ([] : List (Str × V)) a_are_runs d_are_runs
  m_are_runs : mg "are_runs" = some (.ref a_are_runs)
  b_are_runs : BindsD K d_are_runs ["thing", "size"] []
  a_joined : Addr
  d_joined : FuncData
  F_joined : FunD K "joined" "joined" (defArgs s_joined) (defBody s_joined) (defScope s_joined) [] ([] : List (Str × V)) a_joined d_joined
  m_joined : mg "joined" = some (.ref a_joined)
  b_joined : BindsD K d_joined ["pairs"] []
  a_cut_out : Addr
  d_cut_out : FuncData
  F_cut_out : FunD K "cut_out" "cut_out" (defArgs s_cut_out) (defBody s_cut_out) (defScope s_cut_out) [] ([] : List (Str × V)) a_cut_out d_cut_out
  m_cut_out : mg "cut_out" = some (.ref a_cut_out)
  b_cut_out : BindsD K d_cut_out ["pairs", "begin", "end"] []
  a_want_size : Addr
  d_want_size : FuncData
  F_want_size : FunD K "want_size" "want_size" (defArgs s_want_size) (defBody s_want_size) (defScope s_want_size) [] ([] : List (Str × V)) a_want_size d_want_size
  m_want_size : mg "want_size" = some (.ref a_want_size)
  b_want_size : BindsD K d_want_size ["thing"] []
  a_want_number : Addr
  d_want_number : FuncData
  F_want_number : FunD K "want_number" "want_number" (defArgs s_want_number) (defBody s_want_number) (defScope s_want_number) [] ([] : List (Str × V)) a_want_number d_want_number
  m_want_number : mg "want_number" = some (.ref a_want_number)
  b_want_number : BindsD K d_want_number ["thing"] []
  a_want_cell : Addr
  d_want_cell : FuncData
  F_want_cell : FunD K "want_cell" "want_cell" (defArgs s_want_cell) (defBody s_want_cell) (defScope s_want_cell) [] ([] : List (Str × V)) a_want_cell d_want_cell
  m_want_cell : mg "want_cell" = some (.ref a_want_cell)
  b_want_cell : BindsD K d_want_cell ["thing", "size"] []
  a_want_stretch : Addr
  d_want_stretch : FuncData
  F_want_stretch : FunD K "want_stretch" "want_stretch" (defArgs s_want_stretch) (defBody s_want_stretch) (defScope s_want_stretch) [] ([] : List (Str × V)) a_want_stretch d_want_stretch
  m_want_stretch : mg "want_stretch" = some (.ref a_want_stretch)
  b_want_stretch : BindsD K d_want_stretch ["begin", "end", "size"] []
  a_Memory_init : Addr
  d_Memory_init : FuncData
  F_Memory_init : FunD K "__init__" "Memory.__init__" (defArgs s_Memory_init) (defBody s_Memory_init) (defScope s_Memory_init) [] ([("number", V.int 0)] : List (Str × V)) a_Memory_init d_Memory_init
  mk_Memory : Mk K c_Memory a_Memory_init
  b_Memory_init : BindsD K d_Memory_init ["self", "size", "number"] [V.int 0]
  a_Memory_size : Addr
  d_Memory_size : FuncData
  F_Memory_size : FunD K "size" "Memory.size" (defArgs s_Memory_size) (defBody s_Memory_size) (defScope s_Memory_size) [] ([] : List (Str × V)) a_Memory_size d_Memory_size
  me_Memory_size : Meth K c_Memory "size" a_Memory_size
  b_Memory_size : BindsD K d_Memory_size ["self"] []
  a_Memory_at : Addr
  d_Memory_at : FuncData
  F_Memory_at : FunD K "at" "Memory.at" (defArgs s_Memory_at) (defBody s_Memory_at) (defScope s_Memory_at) [] ([] : List (Str × V)) a_Memory_at d_Memory_at
  me_Memory_at : Meth K c_Memory "at" a_Memory_at
  b_Memory_at : BindsD K d_Memory_at ["self", "cell"] []
  a_Memory_runs : Addr
  d_Memory_runs : FuncData
  F_Memory_runs : FunD K "runs" "Memory.runs" (defArgs s_Memory_runs) (defBody s_Memory_runs) (defScope s_Memory_runs) [] ([] : List (Str × V)) a_Memory_runs d_Memory_runs
  me_Memory_runs : Meth K c_Memory "runs" a_Memory_runs
  b_Memory_runs : BindsD K d_Memory_runs ["self"] []
  a_Memory_lay : Addr
  d_Memory_lay : FuncData
  F_Memory_lay : FunD K "lay" "Memory.lay" (defArgs s_Memory_lay) (defBody s_Memory_lay) (defScope s_Memory_lay) [] ([] : List (Str × V)) a_Memory_lay d_Memory_lay
  me_Memory_lay : Meth K c_Memory "lay" a_Memory_lay
  b_Memory_lay : BindsD K d_Memory_lay ["self", "begin", "pairs", "end"] []
  a_Memory_put : Addr
  d_Memory_put : FuncData
  F_Memory_put : FunD K "put" "Memory.put" (defArgs s_Memory_put) (defBody s_Memory_put) (defScope s_Memory_put) [] ([] : List (Str × V)) a_Memory_put d_Memory_put
  me_Memory_put : Meth K c_Memory "put" a_Memory_put
  b_Memory_put : BindsD K d_Memory_put ["self", "cell", "number"] []
  a_Memory_fill : Addr
  d_Memory_fill : FuncData
  F_Memory_fill : FunD K "fill" "Memory.fill" (defArgs s_Memory_fill) (defBody s_Memory_fill) (defScope s_Memory_fill) [] ([] : List (Str × V)) a_Memory_fill d_Memory_fill
  me_Memory_fill : Meth K c_Memory "fill" a_Memory_fill
  b_Memory_fill : BindsD K d_Memory_fill ["self", "begin", "end", "number"] []
  a_Memory_bring : Addr
  d_Memory_bring : FuncData
  F_Memory_bring : FunD K "bring" "Memory.bring" (defArgs s_Memory_bring) (defBody s_Memory_bring) (defScope s_Memory_bring) [] ([("source", V.non)] : List (Str × V)) a_Memory_bring d_Memory_bring
  me_Memory_bring : Meth K c_Memory "bring" a_Memory_bring
  b_Memory_bring : BindsD K d_Memory_bring ["self", "begin", "end", "to", "source"] [V.non]
  a_Memory_copied : Addr
  d_Memory_copied : FuncData
  F_Memory_copied : FunD K "copied" "Memory.copied" (defArgs s_Memory_copied) (defBody s_Memory_copied) (defScope s_Memory_copied) [] ([] : List (Str × V)) a_Memory_copied d_Memory_copied
  me_Memory_copied : Meth K c_Memory "copied" a_Memory_copied
  b_Memory_copied : BindsD K d_Memory_copied ["self"] []
  a_Memory_eq : Addr
  d_Memory_eq : FuncData
  F_Memory_eq : FunD K "__eq__" "Memory.__eq__" (defArgs s_Memory_eq) (defBody s_Memory_eq) (defScope s_Memory_eq) [] ([] : List (Str × V)) a_Memory_eq d_Memory_eq
  me_Memory_eq : Meth K c_Memory "__eq__" a_Memory_eq
  b_Memory_eq : BindsD K d_Memory_eq ["self", "other"] []
  a_Memory_len : Addr
  d_Memory_len : FuncData
  F_Memory_len : FunD K "__len__" "Memory.__len__" (defArgs s_Memory_len) (defBody s_Memory_len) (defScope s_Memory_len) [] ([] : List (Str × V)) a_Memory_len d_Memory_len
  me_Memory_len : Meth K c_Memory "__len__" a_Memory_len
  b_Memory_len : BindsD K d_Memory_len ["self"] []
  a_Memory_repr : Addr
  d_Memory_repr : FuncData
  F_Memory_repr : FunD K "__repr__" "Memory.__repr__" (defArgs s_Memory_repr) (defBody s_Memory_repr) (defScope s_Memory_repr) [] ([] : List (Str × V)) a_Memory_repr d_Memory_repr
  me_Memory_repr : Meth K c_Memory "__repr__" a_Memory_repr
  b_Memory_repr : BindsD K d_Memory_repr ["self"] []
  a_memory_of : Addr
  d_memory_of : FuncData
  F_memory_of : FunD K "memory_of" "memory_of" (defArgs s_memory_of) (defBody s_memory_of) (defScope s_memory_of) [] ([] : List (Str × V)) a_memory_of d_memory_of
  m_memory_of : mg "memory_of" = some (.ref a_memory_of)
  b_memory_of : BindsD K d_memory_of ["runs"] []
  a_side_by_side : Addr
  d_side_by_side : FuncData
  F_side_by_side : FunD K "side_by_side" "side_by_side" (defArgs s_side_by_side) (defBody s_side_by_side) (defScope s_side_by_side) [] ([] : List (Str × V)) a_side_by_side d_side_by_side
  m_side_by_side : mg "side_by_side" = some (.ref a_side_by_side)
  b_side_by_side : BindsD K d_side_by_side ["some", "others"] []
  a_difference : Addr
  d_difference : FuncData
  F_difference : FunD K "difference" "difference" (defArgs s_difference) (defBody s_difference) (defScope s_difference) [] ([] : List (Str × V)) a_difference d_difference
  m_difference : mg "difference" = some (.ref a_difference)
  b_difference : BindsD K d_difference ["one", "other"] []
  a_is_part : Addr
  d_is_part : FuncData
  F_is_part : FunD K "is_part" "is_part" (defArgs s_is_part) (defBody s_is_part) (defScope s_is_part) [] ([] : List (Str × V)) a_is_part d_is_part
  m_is_part : mg "is_part" = some (.ref a_is_part)
  b_is_part : BindsD K d_is_part ["thing", "least", "size"] []
  a_is_difference : Addr
  d_is_difference : FuncData
  F_is_difference : FunD K "is_difference" "is_difference" (defArgs s_is_difference) (defBody s_is_difference) (defScope s_is_difference) [] ([] : List (Str × V)) a_is_difference d_is_difference
  m_is_difference : mg "is_difference" = some (.ref a_is_difference)
  b_is_difference : BindsD K d_is_difference ["thing", "size"] []
  a_turned : Addr
  d_turned : FuncData
  F_turned : FunD K "turned" "turned" (defArgs s_turned) (defBody s_turned) (defScope s_turned) [] ([] : List (Str × V)) a_turned d_turned
  m_turned : mg "turned" = some (.ref a_turned)
  b_turned : BindsD K d_turned ["thing"] []
  a_want_fit : Addr
  d_want_fit : FuncData
  F_want_fit : FunD K "want_fit" "want_fit" (defArgs s_want_fit) (defBody s_want_fit) (defScope s_want_fit) [] ([] : List (Str × V)) a_want_fit d_want_fit
  m_want_fit : mg "want_fit" = some (.ref a_want_fit)
  b_want_fit : BindsD K d_want_fit ["memory", "thing"] []
  a_carry : Addr
  d_carry : FuncData
  F_carry : FunD K "carry" "carry" (defArgs s_carry) (defBody s_carry) (defScope s_carry) [] ([] : List (Str × V)) a_carry d_carry
  m_carry : mg "carry" = some (.ref a_carry)
  b_carry : BindsD K d_carry ["memory", "thing"] []
  a_law_pot : Addr
  d_law_pot : FuncData
  F_law_pot : FunD K "_law_pot" "_law_pot" (defArgs s_law_pot) (defBody s_law_pot) (defScope s_law_pot) [] ([] : List (Str × V)) a_law_pot d_law_pot
  m_law_pot : mg "_law_pot" = some (.ref a_law_pot)
  b_law_pot : BindsD K d_law_pot ["_law_script", "_law_k"] []
  a_law_draw : Addr
  d_law_draw : FuncData
  F_law_draw : FunD K "_law_draw" "_law_draw" (defArgs s_law_draw) (defBody s_law_draw) (defScope s_law_draw) [] ([] : List (Str × V)) a_law_draw d_law_draw
  m_law_draw : mg "_law_draw" = some (.ref a_law_draw)
  b_law_draw : BindsD K d_law_draw ["_law_pot_here", "_law_many"] []
  a_law_size : Addr
  d_law_size : FuncData
  F_law_size : FunD K "_law_size" "_law_size" (defArgs s_law_size) (defBody s_law_size) (defScope s_law_size) [] ([] : List (Str × V)) a_law_size d_law_size
  m_law_size : mg "_law_size" = some (.ref a_law_size)
  b_law_size : BindsD K d_law_size ["_law_pot_here"] []
  a_law_value : Addr
  d_law_value : FuncData
  F_law_value : FunD K "_law_value" "_law_value" (defArgs s_law_value) (defBody s_law_value) (defScope s_law_value) [] ([] : List (Str × V)) a_law_value d_law_value
  m_law_value : mg "_law_value" = some (.ref a_law_value)
  b_law_value : BindsD K d_law_value ["_law_pot_here"] []
  a_law_place : Addr
  d_law_place : FuncData
  F_law_place : FunD K "_law_place" "_law_place" (defArgs s_law_place) (defBody s_law_place) (defScope s_law_place) [] ([] : List (Str × V)) a_law_place d_law_place
  m_law_place : mg "_law_place" = some (.ref a_law_place)
  b_law_place : BindsD K d_law_place ["_law_pot_here", "_law_most"] []
  a_law_step : Addr
  d_law_step : FuncData
  F_law_step : FunD K "_law_step" "_law_step" (defArgs s_law_step) (defBody s_law_step) (defScope s_law_step) [] ([] : List (Str × V)) a_law_step d_law_step
  m_law_step : mg "_law_step" = some (.ref a_law_step)
  b_law_step : BindsD K d_law_step ["_law_pot_here", "_law_named", "_law_placed", "_law_wide"] []
  a_law_differences_right : Addr
  d_law_differences_right : FuncData
  F_law_differences_right : FunD K "_law_differences_right" "_law_differences_right" (defArgs s_law_differences_right) (defBody s_law_differences_right) (defScope s_law_differences_right) [] ([] : List (Str × V)) a_law_differences_right d_law_differences_right
  m_law_differences_right : mg "_law_differences_right" = some (.ref a_law_differences_right)
  b_law_differences_right : BindsD K d_law_differences_right ["_law_named", "_law_wide"] []
  a_law_runs_right : Addr
  d_law_runs_right : FuncData
  F_law_runs_right : FunD K "_law_runs_right" "_law_runs_right" (defArgs s_law_runs_right) (defBody s_law_runs_right) (defScope s_law_runs_right) [] ([] : List (Str × V)) a_law_runs_right d_law_runs_right
  m_law_runs_right : mg "_law_runs_right" = some (.ref a_law_runs_right)
  b_law_runs_right : BindsD K d_law_runs_right ["_law_named", "_law_wide", "_law_what"] []
  a_law_raised : Addr
  d_law_raised : FuncData
  F_law_raised : FunD K "_law_raised" "_law_raised" (defArgs s_law_raised) (defBody s_law_raised) (defScope s_law_raised) [] ([] : List (Str × V)) a_law_raised d_law_raised
  m_law_raised : mg "_law_raised" = some (.ref a_law_raised)
  b_law_raised : BindsD K d_law_raised ["_law_call"] []
  a_law_errors_right : Addr
  d_law_errors_right : FuncData
  F_law_errors_right : FunD K "_law_errors_right" "_law_errors_right" (defArgs s_law_errors_right) (defBody s_law_errors_right) (defScope s_law_errors_right) [] ([] : List (Str × V)) a_law_errors_right d_law_errors_right
  m_law_errors_right : mg "_law_errors_right" = some (.ref a_law_errors_right)
  b_law_errors_right : BindsD K d_law_errors_right ["_law_named", "_law_wide"] []
  a_law : Addr
  d_law : FuncData
  F_law : FunD K "law" "law" (defArgs s_law) (defBody s_law) (defScope s_law) [] ([] : List (Str × V)) a_law d_law
  m_law : mg "law" = some (.ref a_law)
  b_law : BindsD K d_law ["_law_script"] []
  kb_Memory_put_1_number_cell : KBnD K d_Memory_put ["self", "cell", "number"] 1 ["number", "cell"] (fun vs zs => gp [1, 0] vs [] zs)
  kb_Memory_fill_1_number_end_begin : KBnD K d_Memory_fill ["self", "begin", "end", "number"] 1 ["number", "end", "begin"] (fun vs zs => gp [2, 1, 0] vs [] zs)
  kb_Memory_bring_1_source_to_end_begin : KBnD K d_Memory_bring ["self", "begin", "end", "to", "source"] 1 ["source", "to", "end", "begin"] (fun vs zs => gp [3, 2, 1, 0] vs [] zs)
  kb_Memory_at_1_cell : KBnD K d_Memory_at ["self", "cell"] 1 ["cell"] (fun vs zs => gp [0] vs [] zs)
  kb_difference_0_other_one : KBnD K d_difference ["one", "other"] 0 ["other", "one"] (fun vs zs => gp [1, 0] vs [] zs)
  kb_is_difference_0_size_thing : KBnD K d_is_difference ["thing", "size"] 0 ["size", "thing"] (fun vs zs => gp [1, 0] vs [] zs)
  kb_turned_0_thing : KBnD K d_turned ["thing"] 0 ["thing"] (fun vs zs => gp [0] vs [] zs)
  kb_carry_0_thing_memory : KBnD K d_carry ["memory", "thing"] 0 ["thing", "memory"] (fun vs zs => gp [1, 0] vs [] zs)
  kb_memory_of_0_runs : KBnD K d_memory_of ["runs"] 0 ["runs"] (fun vs zs => gp [0] vs [] zs)
  kb_joined_0_pairs : KBnD K d_joined ["pairs"] 0 ["pairs"] (fun vs zs => gp [0] vs [] zs)
  kb_are_runs_0_size_thing : KBnD K d_are_runs ["thing", "size"] 0 ["size", "thing"] (fun vs zs => gp [1, 0] vs [] zs)
  kb_is_size_0_thing : KBnD K d_is_size ["thing"] 0 ["thing"] (fun vs zs => gp [0] vs [] zs)
  kb_is_number_0_thing : KBnD K d_is_number ["thing"] 0 ["thing"] (fun vs zs => gp [0] vs [] zs)
  kb_Memory_init_1_number_size : KBnD K d_Memory_init ["self", "size", "number"] 1 ["number", "size"] (fun vs zs => gp [1, 0] vs [] zs)
  kb_Memory_init_2_number : KBnD K d_Memory_init ["self", "size", "number"] 2 ["number"] (fun vs zs => gp [0] vs [] zs)
  t_LARGEST : Tok
  g_LARGEST : mg "LARGEST" = some (.int 1000000000000000000 t_LARGEST)
  n_RuntimeError : mg "RuntimeError" = none
  n_ValueError : mg "ValueError" = none
  n_abs : mg "abs" = none
  n_all : mg "all" = none
  n_any : mg "any" = none
  n_bool : mg "bool" = none
  n_divmod : mg "divmod" = none
  n_int : mg "int" = none
  n_isinstance : mg "isinstance" = none
  n_len : mg "len" = none
  n_list : mg "list" = none
  n_max : mg "max" = none
  n_min : mg "min" = none
  n_range : mg "range" = none
  n_sum : mg "sum" = none
  n_tuple : mg "tuple" = none
  n_zip : mg "zip" = none
  tp_law_errors_right : Addr
  tk_law_errors_right : TabK K mg d_law_errors_right.code tp_law_errors_right
  tnd : ([tp_law_errors_right] : List Addr).Nodup
def tabsT {K : PySem.W.Frag} {mg : Str → Option Value} (T : Txt K mg) : List (Addr × Str) := [(T.tp_law_errors_right, ("_law_errors_right" ++ ".<locals>." : Str) ++ "<lambda>")]
theorem tm_law_errors_right {K : PySem.W.Frag} {mg : Str → Option Value} (T : Txt K mg) : (T.tp_law_errors_right, ("_law_errors_right" ++ ".<locals>." : Str) ++ "<lambda>") ∈ tabsT T := List.mem_cons_self
/-! ### the head: facts by names, the run in the kernel -/
def dd0 : He.DefD := ⟨("Clash", some "__init__"), "__init__", "Clash.__init__", defArgs s_Clash_init, defBody s_Clash_init, defScope s_Clash_init, [], []⟩
def dd1 : He.DefD := ⟨("is_number", none), "is_number", "is_number", defArgs s_is_number, defBody s_is_number, defScope s_is_number, [], []⟩
def dd2 : He.DefD := ⟨("is_whole", none), "is_whole", "is_whole", defArgs s_is_whole, defBody s_is_whole, defScope s_is_whole, [], []⟩
def dd3 : He.DefD := ⟨("is_size", none), "is_size", "is_size", defArgs s_is_size, defBody s_is_size, defScope s_is_size, [], []⟩
def dd4 : He.DefD := ⟨("is_run", none), "is_run", "is_run", defArgs s_is_run, defBody s_is_run, defScope s_is_run, [], []⟩
def dd5 : He.DefD := ⟨("are_runs", none), "are_runs", "are_runs", defArgs s_are_runs, defBody s_are_runs, defScope s_are_runs, [], []⟩
def dd6 : He.DefD := ⟨("joined", none), "joined", "joined", defArgs s_joined, defBody s_joined, defScope s_joined, [], []⟩
def dd7 : He.DefD := ⟨("cut_out", none), "cut_out", "cut_out", defArgs s_cut_out, defBody s_cut_out, defScope s_cut_out, [], []⟩
def dd8 : He.DefD := ⟨("want_size", none), "want_size", "want_size", defArgs s_want_size, defBody s_want_size, defScope s_want_size, [], []⟩
def dd9 : He.DefD := ⟨("want_number", none), "want_number", "want_number", defArgs s_want_number, defBody s_want_number, defScope s_want_number, [], []⟩
def dd10 : He.DefD := ⟨("want_cell", none), "want_cell", "want_cell", defArgs s_want_cell, defBody s_want_cell, defScope s_want_cell, [], []⟩
def dd11 : He.DefD := ⟨("want_stretch", none), "want_stretch", "want_stretch", defArgs s_want_stretch, defBody s_want_stretch, defScope s_want_stretch, [], []⟩
def dd12 : He.DefD := ⟨("Memory", some "__init__"), "__init__", "Memory.__init__", defArgs s_Memory_init, defBody s_Memory_init, defScope s_Memory_init, [], [("number", .int 0)]⟩
def dd13 : He.DefD := ⟨("Memory", some "size"), "size", "Memory.size", defArgs s_Memory_size, defBody s_Memory_size, defScope s_Memory_size, [], []⟩
def dd14 : He.DefD := ⟨("Memory", some "at"), "at", "Memory.at", defArgs s_Memory_at, defBody s_Memory_at, defScope s_Memory_at, [], []⟩
def dd15 : He.DefD := ⟨("Memory", some "runs"), "runs", "Memory.runs", defArgs s_Memory_runs, defBody s_Memory_runs, defScope s_Memory_runs, [], []⟩
def dd16 : He.DefD := ⟨("Memory", some "lay"), "lay", "Memory.lay", defArgs s_Memory_lay, defBody s_Memory_lay, defScope s_Memory_lay, [], []⟩
def dd17 : He.DefD := ⟨("Memory", some "put"), "put", "Memory.put", defArgs s_Memory_put, defBody s_Memory_put, defScope s_Memory_put, [], []⟩
def dd18 : He.DefD := ⟨("Memory", some "fill"), "fill", "Memory.fill", defArgs s_Memory_fill, defBody s_Memory_fill, defScope s_Memory_fill, [], []⟩
def dd19 : He.DefD := ⟨("Memory", some "bring"), "bring", "Memory.bring", defArgs s_Memory_bring, defBody s_Memory_bring, defScope s_Memory_bring, [], [("source", .non)]⟩
def dd20 : He.DefD := ⟨("Memory", some "copied"), "copied", "Memory.copied", defArgs s_Memory_copied, defBody s_Memory_copied, defScope s_Memory_copied, [], []⟩
def dd21 : He.DefD := ⟨("Memory", some "__eq__"), "__eq__", "Memory.__eq__", defArgs s_Memory_eq, defBody s_Memory_eq, defScope s_Memory_eq, [], []⟩
def dd22 : He.DefD := ⟨("Memory", some "__len__"), "__len__", "Memory.__len__", defArgs s_Memory_len, defBody s_Memory_len, defScope s_Memory_len, [], []⟩
def dd23 : He.DefD := ⟨("Memory", some "__repr__"), "__repr__", "Memory.__repr__", defArgs s_Memory_repr, defBody s_Memory_repr, defScope s_Memory_repr, [], []⟩
def dd24 : He.DefD := ⟨("memory_of", none), "memory_of", "memory_of", defArgs s_memory_of, defBody s_memory_of, defScope s_memory_of, [], []⟩
def dd25 : He.DefD := ⟨("side_by_side", none), "side_by_side", "side_by_side", defArgs s_side_by_side, defBody s_side_by_side, defScope s_side_by_side, [], []⟩
def dd26 : He.DefD := ⟨("difference", none), "difference", "difference", defArgs s_difference, defBody s_difference, defScope s_difference, [], []⟩
def dd27 : He.DefD := ⟨("is_part", none), "is_part", "is_part", defArgs s_is_part, defBody s_is_part, defScope s_is_part, [], []⟩
def dd28 : He.DefD := ⟨("is_difference", none), "is_difference", "is_difference", defArgs s_is_difference, defBody s_is_difference, defScope s_is_difference, [], []⟩
def dd29 : He.DefD := ⟨("turned", none), "turned", "turned", defArgs s_turned, defBody s_turned, defScope s_turned, [], []⟩
def dd30 : He.DefD := ⟨("want_fit", none), "want_fit", "want_fit", defArgs s_want_fit, defBody s_want_fit, defScope s_want_fit, [], []⟩
def dd31 : He.DefD := ⟨("carry", none), "carry", "carry", defArgs s_carry, defBody s_carry, defScope s_carry, [], []⟩
def dd32 : He.DefD := ⟨("_law_pot", none), "_law_pot", "_law_pot", defArgs s_law_pot, defBody s_law_pot, defScope s_law_pot, [], []⟩
def dd33 : He.DefD := ⟨("_law_draw", none), "_law_draw", "_law_draw", defArgs s_law_draw, defBody s_law_draw, defScope s_law_draw, [], []⟩
def dd34 : He.DefD := ⟨("_law_size", none), "_law_size", "_law_size", defArgs s_law_size, defBody s_law_size, defScope s_law_size, [], []⟩
def dd35 : He.DefD := ⟨("_law_value", none), "_law_value", "_law_value", defArgs s_law_value, defBody s_law_value, defScope s_law_value, [], []⟩
def dd36 : He.DefD := ⟨("_law_place", none), "_law_place", "_law_place", defArgs s_law_place, defBody s_law_place, defScope s_law_place, [], []⟩
def dd37 : He.DefD := ⟨("_law_step", none), "_law_step", "_law_step", defArgs s_law_step, defBody s_law_step, defScope s_law_step, [], []⟩
def dd38 : He.DefD := ⟨("_law_differences_right", none), "_law_differences_right", "_law_differences_right", defArgs s_law_differences_right, defBody s_law_differences_right, defScope s_law_differences_right, [], []⟩
def dd39 : He.DefD := ⟨("_law_runs_right", none), "_law_runs_right", "_law_runs_right", defArgs s_law_runs_right, defBody s_law_runs_right, defScope s_law_runs_right, [], []⟩
def dd40 : He.DefD := ⟨("_law_raised", none), "_law_raised", "_law_raised", defArgs s_law_raised, defBody s_law_raised, defScope s_law_raised, [], []⟩
def dd41 : He.DefD := ⟨("_law_errors_right", none), "_law_errors_right", "_law_errors_right", defArgs s_law_errors_right, defBody s_law_errors_right, defScope s_law_errors_right, [], []⟩
def dd42 : He.DefD := ⟨("law", none), "law", "law", defArgs s_law, defBody s_law, defScope s_law, [], []⟩
def fnH : List He.DefD := [dd0, dd1, dd2, dd3, dd4, dd5, dd6, dd7, dd8, dd9, dd10, dd11, dd12, dd13, dd14, dd15, dd16, dd17, dd18, dd19, dd20, dd21, dd22, dd23, dd24, dd25, dd26, dd27, dd28, dd29, dd30, dd31, dd32, dd33, dd34, dd35, dd36, dd37, dd38, dd39, dd40, dd41, dd42]
def gH0 (K : PySem.W.Frag) : Bool := (He.Fa.glo "is_number").ok K && ((He.Fa.glo "is_whole").ok K && ((He.Fa.glo "is_size").ok K && ((He.Fa.glo "is_run").ok K && ((He.Fa.glo "are_runs").ok K && ((He.Fa.glo "joined").ok K && ((He.Fa.glo "cut_out").ok K && ((He.Fa.glo "want_size").ok K && ((He.Fa.glo "want_number").ok K && ((He.Fa.glo "want_cell").ok K && ((He.Fa.glo "want_stretch").ok K && ((He.Fa.meth "Memory" "size").ok K)))))))))))
def gH1 (K : PySem.W.Frag) : Bool := (He.Fa.meth "Memory" "at").ok K && ((He.Fa.meth "Memory" "runs").ok K && ((He.Fa.meth "Memory" "lay").ok K && ((He.Fa.meth "Memory" "put").ok K && ((He.Fa.meth "Memory" "fill").ok K && ((He.Fa.meth "Memory" "bring").ok K && ((He.Fa.meth "Memory" "copied").ok K && ((He.Fa.meth "Memory" "__eq__").ok K && ((He.Fa.meth "Memory" "__len__").ok K && ((He.Fa.meth "Memory" "__repr__").ok K && ((He.Fa.glo "memory_of").ok K && ((He.Fa.glo "side_by_side").ok K)))))))))))
def gH2 (K : PySem.W.Frag) : Bool := (He.Fa.glo "difference").ok K && ((He.Fa.glo "is_part").ok K && ((He.Fa.glo "is_difference").ok K && ((He.Fa.glo "turned").ok K && ((He.Fa.glo "want_fit").ok K && ((He.Fa.glo "carry").ok K && ((He.Fa.glo "_law_pot").ok K && ((He.Fa.glo "_law_draw").ok K && ((He.Fa.glo "_law_size").ok K && ((He.Fa.glo "_law_value").ok K && ((He.Fa.glo "_law_place").ok K && ((He.Fa.glo "_law_step").ok K)))))))))))
def gH3 (K : PySem.W.Frag) : Bool := (He.Fa.glo "_law_differences_right").ok K && ((He.Fa.glo "_law_runs_right").ok K && ((He.Fa.glo "_law_raised").ok K && ((He.Fa.glo "_law_errors_right").ok K && ((He.Fa.glo "law").ok K && ((He.Fa.glo "Memory").ok K && ((He.Fa.cls "Memory").ok K && ((He.Fa.mkr "Memory").ok K && ((He.Fa.noat "Memory" "pairs").ok K && ((He.Fa.noat "Memory" "wide").ok K && (He.eqO (PySem.W.findIn K (.ref (He.ga K "Memory")) "__class__") (some (some (.builtin "object.__class__"))) && (decide (PySem.W.mroIn K (He.ga K "Memory") (.type "object") = some true))))))))))))
def gH4 (K : PySem.W.Frag) : Bool := decide (PySem.W.kitOne K (.type "NoneType") (.ref (He.ga K "Memory")) = some false) && (decide (PySem.W.kitOne K (.type "int") (.ref (He.ga K "Memory")) = some false) && (decide (PySem.W.kitOne K (.type "bool") (.ref (He.ga K "Memory")) = some false) && (decide (PySem.W.kitOne K (.type "str") (.ref (He.ga K "Memory")) = some false) && (decide (PySem.W.kitOne K (.type "list") (.ref (He.ga K "Memory")) = some false) && (decide (PySem.W.kitOne K (.type "tuple") (.ref (He.ga K "Memory")) = some false) && (decide (PySem.W.kitOne K (.type "dict") (.ref (He.ga K "Memory")) = some false) && (He.eqO (PySem.W.findIn K (.ref (He.ga K "Memory")) "__ne__") (some (some (.builtin "object.__ne__"))) && (He.eqO (PySem.W.specialIn K (.builtin "object.__class__") "__get__") (some (some (.builtin "getset_descriptor.__get__"))) && (decide (PySem.W.takesIn K (.builtin "object.__class__") = some true) && ((He.Fa.glo "ForkError").ok K && (He.eqO (PySem.W.findIn K (.ref (He.ga K "ForkError")) "__getattribute__") (some (some (.builtin "BaseException.__getattribute__"))))))))))))))
def gH5 (K : PySem.W.Frag) : Bool := He.eqO (PySem.W.findIn K (.ref (He.ga K "ForkError")) "__getattr__") (some none) && (decide (PySem.W.subIn K (.ref (He.ga K "ForkError")) (.type "BaseException") = some true) && (PySem.W.hasDictIn K (He.ga K "ForkError") && (He.eqO (PySem.W.findIn K (.ref (He.ga K "ForkError")) "__class__") (some (some (.builtin "object.__class__"))) && (decide (PySem.W.mroIn K (He.ga K "ForkError") (.type "object") = some true) && (decide (PySem.W.typeIn K (.ref (He.ga K "ForkError")) = some (.type "type")) && ((He.Fa.glo "NoSize").ok K && (He.eqO (PySem.W.findIn K (.ref (He.ga K "NoSize")) "__getattribute__") (some (some (.builtin "BaseException.__getattribute__"))) && (He.eqO (PySem.W.findIn K (.ref (He.ga K "NoSize")) "__getattr__") (some none) && (decide (PySem.W.subIn K (.ref (He.ga K "NoSize")) (.type "BaseException") = some true) && (PySem.W.hasDictIn K (He.ga K "NoSize") && (He.eqO (PySem.W.findIn K (.ref (He.ga K "NoSize")) "__class__") (some (some (.builtin "object.__class__"))))))))))))))
def gH6 (K : PySem.W.Frag) : Bool := decide (PySem.W.mroIn K (He.ga K "NoSize") (.type "object") = some true) && (decide (PySem.W.typeIn K (.ref (He.ga K "NoSize")) = some (.type "type")) && (PySem.W.keepIn K (.ref (He.ga K "NoSize")) && (PySem.W.excIn K (He.ga K "NoSize") [.type "ValueError", .type "Exception", .type "BaseException", .type "object"] "ValueError.__new__" && (decide (PySem.W.subIn K (.ref (He.ga K "NoSize")) (.ref (He.ga K "ForkError")) = some true) && (decide (PySem.W.subIn K (.ref (He.ga K "NoSize")) (.ref (He.ga K "NoSize")) = some true) && (decide (PySem.W.subIn K (.ref (He.ga K "NoSize")) (.ref (He.ga K "NoNumber")) = some false) && (decide (PySem.W.subIn K (.ref (He.ga K "NoSize")) (.ref (He.ga K "NoCell")) = some false) && (decide (PySem.W.subIn K (.ref (He.ga K "NoSize")) (.ref (He.ga K "NoStretch")) = some false) && (decide (PySem.W.subIn K (.ref (He.ga K "NoSize")) (.ref (He.ga K "NoDifference")) = some false) && (decide (PySem.W.subIn K (.ref (He.ga K "NoSize")) (.ref (He.ga K "Clash")) = some false) && ((He.Fa.glo "NoNumber").ok K)))))))))))
def gH7 (K : PySem.W.Frag) : Bool := He.eqO (PySem.W.findIn K (.ref (He.ga K "NoNumber")) "__getattribute__") (some (some (.builtin "BaseException.__getattribute__"))) && (He.eqO (PySem.W.findIn K (.ref (He.ga K "NoNumber")) "__getattr__") (some none) && (decide (PySem.W.subIn K (.ref (He.ga K "NoNumber")) (.type "BaseException") = some true) && (PySem.W.hasDictIn K (He.ga K "NoNumber") && (He.eqO (PySem.W.findIn K (.ref (He.ga K "NoNumber")) "__class__") (some (some (.builtin "object.__class__"))) && (decide (PySem.W.mroIn K (He.ga K "NoNumber") (.type "object") = some true) && (decide (PySem.W.typeIn K (.ref (He.ga K "NoNumber")) = some (.type "type")) && ((He.Fa.glo "NoCell").ok K && (He.eqO (PySem.W.findIn K (.ref (He.ga K "NoCell")) "__getattribute__") (some (some (.builtin "BaseException.__getattribute__"))) && (He.eqO (PySem.W.findIn K (.ref (He.ga K "NoCell")) "__getattr__") (some none) && (decide (PySem.W.subIn K (.ref (He.ga K "NoCell")) (.type "BaseException") = some true) && (PySem.W.hasDictIn K (He.ga K "NoCell"))))))))))))
def gH8 (K : PySem.W.Frag) : Bool := He.eqO (PySem.W.findIn K (.ref (He.ga K "NoCell")) "__class__") (some (some (.builtin "object.__class__"))) && (decide (PySem.W.mroIn K (He.ga K "NoCell") (.type "object") = some true) && (decide (PySem.W.typeIn K (.ref (He.ga K "NoCell")) = some (.type "type")) && (PySem.W.keepIn K (.ref (He.ga K "NoCell")) && (PySem.W.excIn K (He.ga K "NoCell") [.type "ValueError", .type "Exception", .type "BaseException", .type "object"] "ValueError.__new__" && (decide (PySem.W.subIn K (.ref (He.ga K "NoCell")) (.ref (He.ga K "ForkError")) = some true) && (decide (PySem.W.subIn K (.ref (He.ga K "NoCell")) (.ref (He.ga K "NoSize")) = some false) && (decide (PySem.W.subIn K (.ref (He.ga K "NoCell")) (.ref (He.ga K "NoNumber")) = some false) && (decide (PySem.W.subIn K (.ref (He.ga K "NoCell")) (.ref (He.ga K "NoCell")) = some true) && (decide (PySem.W.subIn K (.ref (He.ga K "NoCell")) (.ref (He.ga K "NoStretch")) = some false) && (decide (PySem.W.subIn K (.ref (He.ga K "NoCell")) (.ref (He.ga K "NoDifference")) = some false) && (decide (PySem.W.subIn K (.ref (He.ga K "NoCell")) (.ref (He.ga K "Clash")) = some false))))))))))))
def gH9 (K : PySem.W.Frag) : Bool := (He.Fa.glo "NoStretch").ok K && (He.eqO (PySem.W.findIn K (.ref (He.ga K "NoStretch")) "__getattribute__") (some (some (.builtin "BaseException.__getattribute__"))) && (He.eqO (PySem.W.findIn K (.ref (He.ga K "NoStretch")) "__getattr__") (some none) && (decide (PySem.W.subIn K (.ref (He.ga K "NoStretch")) (.type "BaseException") = some true) && (PySem.W.hasDictIn K (He.ga K "NoStretch") && (He.eqO (PySem.W.findIn K (.ref (He.ga K "NoStretch")) "__class__") (some (some (.builtin "object.__class__"))) && (decide (PySem.W.mroIn K (He.ga K "NoStretch") (.type "object") = some true) && (decide (PySem.W.typeIn K (.ref (He.ga K "NoStretch")) = some (.type "type")) && (PySem.W.keepIn K (.ref (He.ga K "NoStretch")) && (PySem.W.excIn K (He.ga K "NoStretch") [.type "ValueError", .type "Exception", .type "BaseException", .type "object"] "ValueError.__new__" && (decide (PySem.W.subIn K (.ref (He.ga K "NoStretch")) (.ref (He.ga K "ForkError")) = some true) && (decide (PySem.W.subIn K (.ref (He.ga K "NoStretch")) (.ref (He.ga K "NoSize")) = some false))))))))))))
def gH10 (K : PySem.W.Frag) : Bool := decide (PySem.W.subIn K (.ref (He.ga K "NoStretch")) (.ref (He.ga K "NoNumber")) = some false) && (decide (PySem.W.subIn K (.ref (He.ga K "NoStretch")) (.ref (He.ga K "NoCell")) = some false) && (decide (PySem.W.subIn K (.ref (He.ga K "NoStretch")) (.ref (He.ga K "NoStretch")) = some true) && (decide (PySem.W.subIn K (.ref (He.ga K "NoStretch")) (.ref (He.ga K "NoDifference")) = some false) && (decide (PySem.W.subIn K (.ref (He.ga K "NoStretch")) (.ref (He.ga K "Clash")) = some false) && ((He.Fa.glo "NoDifference").ok K && (He.eqO (PySem.W.findIn K (.ref (He.ga K "NoDifference")) "__getattribute__") (some (some (.builtin "BaseException.__getattribute__"))) && (He.eqO (PySem.W.findIn K (.ref (He.ga K "NoDifference")) "__getattr__") (some none) && (decide (PySem.W.subIn K (.ref (He.ga K "NoDifference")) (.type "BaseException") = some true) && (PySem.W.hasDictIn K (He.ga K "NoDifference") && (He.eqO (PySem.W.findIn K (.ref (He.ga K "NoDifference")) "__class__") (some (some (.builtin "object.__class__"))) && (decide (PySem.W.mroIn K (He.ga K "NoDifference") (.type "object") = some true))))))))))))
def gH11 (K : PySem.W.Frag) : Bool := decide (PySem.W.typeIn K (.ref (He.ga K "NoDifference")) = some (.type "type")) && (PySem.W.keepIn K (.ref (He.ga K "NoDifference")) && (PySem.W.excIn K (He.ga K "NoDifference") [.type "ValueError", .type "Exception", .type "BaseException", .type "object"] "ValueError.__new__" && (decide (PySem.W.subIn K (.ref (He.ga K "NoDifference")) (.ref (He.ga K "ForkError")) = some true) && (decide (PySem.W.subIn K (.ref (He.ga K "NoDifference")) (.ref (He.ga K "NoSize")) = some false) && (decide (PySem.W.subIn K (.ref (He.ga K "NoDifference")) (.ref (He.ga K "NoNumber")) = some false) && (decide (PySem.W.subIn K (.ref (He.ga K "NoDifference")) (.ref (He.ga K "NoCell")) = some false) && (decide (PySem.W.subIn K (.ref (He.ga K "NoDifference")) (.ref (He.ga K "NoStretch")) = some false) && (decide (PySem.W.subIn K (.ref (He.ga K "NoDifference")) (.ref (He.ga K "NoDifference")) = some true) && (decide (PySem.W.subIn K (.ref (He.ga K "NoDifference")) (.ref (He.ga K "Clash")) = some false) && ((He.Fa.glo "Clash").ok K && (He.eqO (PySem.W.findIn K (.ref (He.ga K "Clash")) "__getattribute__") (some (some (.builtin "BaseException.__getattribute__"))))))))))))))
def gH12 (K : PySem.W.Frag) : Bool := He.eqO (PySem.W.findIn K (.ref (He.ga K "Clash")) "__getattr__") (some none) && (decide (PySem.W.subIn K (.ref (He.ga K "Clash")) (.type "BaseException") = some true) && (PySem.W.hasDictIn K (He.ga K "Clash") && (He.eqO (PySem.W.findIn K (.ref (He.ga K "Clash")) "__class__") (some (some (.builtin "object.__class__"))) && (decide (PySem.W.mroIn K (He.ga K "Clash") (.type "object") = some true) && (decide (PySem.W.typeIn K (.ref (He.ga K "Clash")) = some (.type "type")) && (PySem.W.keepIn K (.ref (He.ga K "Clash")) && (decide (PySem.W.subIn K (.ref (He.ga K "Clash")) (.ref (He.ga K "ForkError")) = some false) && (decide (PySem.W.subIn K (.ref (He.ga K "Clash")) (.ref (He.ga K "NoSize")) = some false) && (decide (PySem.W.subIn K (.ref (He.ga K "Clash")) (.ref (He.ga K "NoNumber")) = some false) && (decide (PySem.W.subIn K (.ref (He.ga K "Clash")) (.ref (He.ga K "NoCell")) = some false) && (decide (PySem.W.subIn K (.ref (He.ga K "Clash")) (.ref (He.ga K "NoStretch")) = some false))))))))))))
def gH13 (K : PySem.W.Frag) : Bool := decide (PySem.W.subIn K (.ref (He.ga K "Clash")) (.ref (He.ga K "NoDifference")) = some false) && (decide (PySem.W.subIn K (.ref (He.ga K "Clash")) (.ref (He.ga K "Clash")) = some true) && ((He.Fa.meth "Clash" "__init__").ok K && (decide (PySem.W.typeIn K (.ref (He.ma K (He.ga K "Clash") "__init__")) = some (.type "function")) && (excB K (He.ga K "Clash") [.type "RuntimeError", .type "Exception", .type "BaseException", .type "object"] "RuntimeError.__new__" && (He.eqO (PySem.W.findIn K (.ref (He.ga K "Clash")) "__setattr__") (some (some (.builtin "object.__setattr__"))) && (He.eqO (PySem.W.findIn K (.ref (He.ga K "Clash")) "cell") (some none) && (foundB "RuntimeError.__init__" (PySem.W.findCls K (.type "RuntimeError") (.type "type") "__init__") && ((He.Fa.int "LARGEST" 1000000000000000000).ok K && ((He.Fa.free "RuntimeError").ok K && ((He.Fa.free "ValueError").ok K && ((He.Fa.free "abs").ok K)))))))))))
def gH14 (K : PySem.W.Frag) : Bool := (He.Fa.free "all").ok K && ((He.Fa.free "any").ok K && ((He.Fa.free "bool").ok K && ((He.Fa.free "divmod").ok K && ((He.Fa.free "int").ok K && ((He.Fa.free "isinstance").ok K && ((He.Fa.free "len").ok K && ((He.Fa.free "list").ok K && ((He.Fa.free "max").ok K && ((He.Fa.free "min").ok K && ((He.Fa.free "range").ok K && ((He.Fa.free "sum").ok K)))))))))))
def gH15 (K : PySem.W.Frag) : Bool := (He.Fa.free "tuple").ok K && ((He.Fa.free "zip").ok K)
def exH (K : PySem.W.Frag) : Bool := gH0 K && (gH1 K && (gH2 K && (gH3 K && (gH4 K && (gH5 K && (gH6 K && (gH7 K && (gH8 K && (gH9 K && (gH10 K && (gH11 K && (gH12 K && (gH13 K && (gH14 K && (gH15 K)))))))))))))))
def exT (K K2 : PySem.W.Frag) : Bool := (tabB K (cdOf K (He.ga K "_law_errors_right")) (tbOf K (cdOf K (He.ga K "_law_errors_right"))) && (emptyB K2 (tbOf K (cdOf K (He.ga K "_law_errors_right"))) && (K.lookup (tbOf K (cdOf K (He.ga K "_law_errors_right")))).isNone)) && ((decide ([tbOf K (cdOf K (He.ga K "_law_errors_right"))] : List Addr).Nodup))
def tbsH (K : PySem.W.Frag) : List Addr := [tbOf K (cdOf K (He.ga K "_law_errors_right"))]
abbrev RwH : PySem.W.OpenRow := PySem.W.OpenLaw.row PySem.Challenge.rw_forkthrift_k10_calls_by_names
/-- what the names reach in n steps -/
def lvM (g : Addr → Option Obj) : Nat → List Addr → List Addr
  | 0, as => as
  | n + 1, as => as ++ lvM g n (as.flatMap fun a => match g a with | some o => He.refsD o | none => [])
def frT (g : Addr → Option Obj) (n : Nat) : PySem.W.Frag := He.frG g ((lvM g n [mainGlobals]).filter fun a => match g a with | some o => !isTab o | none => false)
def hookM (n : Nat) (fn : List He.DefD) (ex : PySem.W.Frag → Bool) : PySem.W.Hook where
  α := He.AlD × Bool
  obs := fun s => (He.obsD [] fn (frT s.heap.get? n), ex (frT s.heap.get? n) && exT (frT s.heap.get? n) (He.frG s.heap.get? (tbsH (frT s.heap.get? n))))
  val := fun _ => (He.valD fn, true)
  says := fun _ h => ∃ K K2 : PySem.W.Frag, K.In h ∧ K2.In h ∧ He.SaysD [] fn K ∧ ex K = true ∧ exT K K2 = true
  of := fun _ _ e => ⟨_, _, He.frG_in, He.frG_in, congrArg Prod.fst e, (He.ba (congrArg Prod.snd e)).1, (He.ba (congrArg Prod.snd e)).2⟩
  keeps := fun _ _ _ ⟨K, K2, hK, hK2, c⟩ k => ⟨K, K2, PySem.W.Frag.In.keeps hK k, PySem.W.Frag.In.keeps hK2 k, c⟩
abbrev hkH : PySem.W.Hook := hookM 5 fnH exH
def obH (s : PySem.W.SharedT) : He.AlD × Bool := (He.obsD [] fnH (frT (HandSHeadRun.getT s) 5), exH (frT (HandSHeadRun.getT s) 5) && exT (frT (HandSHeadRun.getT s) 5) (He.frG (HandSHeadRun.getT s) (tbsH (frT (HandSHeadRun.getT s) 5))))
theorem obH_eq (s : PySem.W.SharedT) : obH s = hkH.obs s.abs := by
  have e : HandSHeadRun.getT s = s.abs.heap.get? := funext (HandSHeadRun.getT_eq s)
  unfold obH
  rw [e] <;> rfl
def lsH0 : List Str := ["__name__", "ForkError", "NoSize", "NoCell", "NoNumber", "NoStretch", "NoRuns", "Unlike", "NoDifference", "Clash", "LARGEST", "is_number", "is_whole", "is_size", "is_run", "are_runs", "joined", "cut_out", "want_size", "want_number", "want_cell", "want_stretch", "Memory", "memory_of"]
def lsH1 : List Str := ["side_by_side", "difference", "is_part", "is_difference", "turned", "want_fit", "carry", "_law_pot", "_law_draw", "_law_size", "_law_value", "_law_place", "_law_step", "_law_differences_right", "_law_runs_right", "_law_raised", "_law_errors_right"]
def lsH : List Str := lsH0 ++ lsH1
set_option maxHeartbeats 0 in
theorem runH (w : World) : HandSHeadRun.RunEq RwH (PySem.W.view RwH.prog [45]) hkH obH 200000 lsH w := by
  intro os
  kernel_rfl

/-! ### pots and draws -/
def sp_law_pot (K : PySem.W.Frag) : Sp := fun vs H Q _ => ∃ (a : Addr) (ns : List Int) (i : Nat),
  vs = [.ref a, .int i] ∧ SqL K H a (ns.map V.int) ∧ i ≤ 100 ∧
  ∀ p H', Fr H p → Kp [] H H' → PotAt H' p → Q (.ref p) H'
theorem sc_law_pot : FnScope ["_law_script", "_law_k", "_law_seed"] ["_law_script", "_law_k"] (defScope s_law_pot) :=
  ⟨rfl, rfl, rfl, by decide +kernel, rfl, by decide +kernel, by decide +kernel⟩
theorem ok_law_pot {P : Program} {w : World} {K : PySem.W.Frag} {mg : Str → Option Value} {base : Heap} (T : Txt K mg) :
    FnG P w K mg base 1 T.a_law_pot T.d_law_pot ["_law_script", "_law_k"] (sp_law_pot K) := by
  refine okD T.F_law_pot sc_law_pot (fun vs H Q E h => ?_) (fun cdv A outer s H vs Q E hr h => ?_)
  · first
      | (obtain ⟨_, rfl, _⟩ := h; rfl)
      | (obtain ⟨_, _, rfl, _⟩ := h; rfl)
      | (obtain ⟨_, _, _, rfl, _⟩ := h; rfl)
      | (obtain ⟨_, _, _, _, rfl, _⟩ := h; rfl)
      | (obtain ⟨_, _, _, _, _, rfl, _⟩ := h; rfl)
      | (obtain ⟨_, _, _, _, _, _, rfl, _⟩ := h; rfl)
      | (obtain ⟨_, _, _, _, _, _, _, rfl, _⟩ := h; rfl)
      | (obtain ⟨_, _, _, _, _, _, _, _, rfl, _⟩ := h; rfl)
      | (obtain ⟨_, _, _, _, _, _, _, _, _, rfl, _⟩ := h; rfl)
      | (obtain ⟨_, _, _, _, _, _, _, _, _, _, rfl, _⟩ := h; rfl)
      | (obtain ⟨_, _, _, _, _, _, _, _, _, _, _, rfl, _⟩ := h; rfl)
      | (obtain ⟨_, _, _, _, _, _, _, _, _, _, _, _, rfl, _⟩ := h; rfl)
      | (obtain ⟨_, _, _, _, _, _, _, _, _, _, _, _, _, rfl, _⟩ := h; rfl)
      | (obtain ⟨_, _, _, _, _, _, _, _, _, _, _, _, _, _, rfl, _⟩ := h; rfl)
      | (obtain ⟨_, _, _, _, _, _, _, _, _, _, _, _, _, _, _, rfl, _⟩ := h; rfl)
      | (obtain ⟨_, _, _, _, _, _, _, _, _, _, _, _, _, _, _, _, rfl, _⟩ := h; rfl)
      | (obtain ⟨_, _, _, _, _, _, _, _, _, _, _, _, _, _, _, _, _, rfl, _⟩ := h; rfl)
      | (obtain ⟨_, _, _, _, _, _, _, _, _, _, _, _, _, _, _, _, _, _, rfl, _⟩ := h; rfl)
      | (obtain ⟨_, _, _, _, _, _, _, _, _, _, _, _, _, _, _, _, _, _, _, rfl, _⟩ := h; rfl)
  · obtain ⟨a, ns, i, rfl, hsq, hi, k⟩ := h
    refine ⟨_, (pss_cons (ps_set (i := 2) sc_law_pot.nd rfl (Or.inl rfl) (pe_ifExp (pt_cmpR op_lt (pv 1) (pe_callB (k_len (K := K) rfl) (by rfl) T.n_len (by decide +kernel) (pa_cons (pv 0) pa_nil)) (nomark _)) (pe_ix (k_ix (K := K) rfl) (pv 0) (pv 1) (fun _ _ => rfl)) (pe_op (k_add (K := K) rfl) (pe_op o_mul pe_int (pv 1)) pe_int)))
      (pss_one (ps_ret (pe_lst (pa_cons (pe_callB (c_max2 rfl) (by rfl) T.n_max (by decide +kernel) (pa_cons pe_int (pa_cons (pe_op op_sub (pe_callB c_abs (by rfl) T.n_abs (by decide +kernel) (pa_cons (pv 2) pa_nil)) (pe_op o_pow pe_int pe_int)) pa_nil))) (pa_cons (pe_op (k_add (K := K) rfl) (pe_op (k_add (K := K) rfl) (pe_op o_mod (pe_callB c_abs (by rfl) T.n_abs (by decide +kernel) (pa_cons (pv 2) pa_nil)) pe_int) (pe_op o_mul pe_int (pv 1))) pe_int) pa_nil)))))), ?_⟩
    dsimp only [cxOf, st_1, st_2, st_3, st_4, st_5, st_6, List.length_cons, List.length_nil, List.replicate_succ, List.replicate_zero, Nat.reduceAdd, Nat.reduceSub]
    walk_at "gs"
    refine i_dec (fun h0 => ?_) (fun h0 => ?_)
    · rw [List.length_map] at h0
      have hx : (ns.map V.int)[i]? = some (V.int (ns[i]'(by omega))) := by simp
      have hat := atI_nat hx
      walk_at "gs"
      refine i_new fun p hp => ?_
      refine k p _ hp (Kp.new hp) ⟨_, _, upd_same, ?_, ?_, ?_⟩ <;> omega
    · walk_at "gs"
      refine i_new fun p hp => ?_
      refine k p _ hp (Kp.new hp) ⟨_, _, upd_same, ?_, ?_, ?_⟩ <;> omega
def sp_law_draw : Sp := fun vs H Q _ => ∃ (p : Addr) (n : Int), vs = [.ref p, .int n] ∧ PotAt H p ∧ 0 < n ∧
  n ≤ 10000000000000000000000000000000000000000000000000000000000000000000000 ∧
  ∀ r H', 0 ≤ r → r < n → PotAt H' p → Kp [p] H H' → Q (.int r) H'
theorem sc_law_draw : FnScope ["_law_pot_here", "_law_many", "_law_digit"] ["_law_pot_here", "_law_many"] (defScope s_law_draw) :=
  ⟨rfl, rfl, rfl, by decide +kernel, rfl, by decide +kernel, by decide +kernel⟩
theorem ok_law_draw {P : Program} {w : World} {K : PySem.W.Frag} {mg : Str → Option Value} {base : Heap} (T : Txt K mg) :
    FnG P w K mg base 1 T.a_law_draw T.d_law_draw ["_law_pot_here", "_law_many"] sp_law_draw := by
  refine okD T.F_law_draw sc_law_draw (fun vs H Q E h => ?_) (fun cdv A outer s H vs Q E hr h => ?_)
  · first
      | (obtain ⟨_, rfl, _⟩ := h; rfl)
      | (obtain ⟨_, _, rfl, _⟩ := h; rfl)
      | (obtain ⟨_, _, _, rfl, _⟩ := h; rfl)
      | (obtain ⟨_, _, _, _, rfl, _⟩ := h; rfl)
      | (obtain ⟨_, _, _, _, _, rfl, _⟩ := h; rfl)
      | (obtain ⟨_, _, _, _, _, _, rfl, _⟩ := h; rfl)
      | (obtain ⟨_, _, _, _, _, _, _, rfl, _⟩ := h; rfl)
      | (obtain ⟨_, _, _, _, _, _, _, _, rfl, _⟩ := h; rfl)
      | (obtain ⟨_, _, _, _, _, _, _, _, _, rfl, _⟩ := h; rfl)
      | (obtain ⟨_, _, _, _, _, _, _, _, _, _, rfl, _⟩ := h; rfl)
      | (obtain ⟨_, _, _, _, _, _, _, _, _, _, _, rfl, _⟩ := h; rfl)
      | (obtain ⟨_, _, _, _, _, _, _, _, _, _, _, _, rfl, _⟩ := h; rfl)
      | (obtain ⟨_, _, _, _, _, _, _, _, _, _, _, _, _, rfl, _⟩ := h; rfl)
      | (obtain ⟨_, _, _, _, _, _, _, _, _, _, _, _, _, _, rfl, _⟩ := h; rfl)
      | (obtain ⟨_, _, _, _, _, _, _, _, _, _, _, _, _, _, _, rfl, _⟩ := h; rfl)
      | (obtain ⟨_, _, _, _, _, _, _, _, _, _, _, _, _, _, _, _, rfl, _⟩ := h; rfl)
      | (obtain ⟨_, _, _, _, _, _, _, _, _, _, _, _, _, _, _, _, _, rfl, _⟩ := h; rfl)
      | (obtain ⟨_, _, _, _, _, _, _, _, _, _, _, _, _, _, _, _, _, _, rfl, _⟩ := h; rfl)
      | (obtain ⟨_, _, _, _, _, _, _, _, _, _, _, _, _, _, _, _, _, _, _, rfl, _⟩ := h; rfl)
  · obtain ⟨p, n, rfl, ⟨x, y, hp, hx, hy, hy2⟩, h0, h1, k⟩ := h
    refine ⟨_, (pss_cons (ps_if (pt_cmpR op_gt (pe_ix (k_ix (K := K) rfl) (pv 0) pe_int (fun _ _ => rfl)) pe_int (nomark _)) (pss_cons (ps_asg (pe_callB c_dm (by rfl) T.n_divmod (by decide +kernel) (pa_cons (pe_ix (k_ix (K := K) rfl) (pv 0) pe_int (fun _ _ => rfl)) (pa_cons (pv 1) pa_nil))) (k_gtup (K := K) 2 rfl rfl (pgs_cons (pg_sub (pv 0) pe_int set_list) (pgs_cons (pg_name (i := 2) sc_law_draw.nd rfl (Or.inl rfl)) pgs_nil))))
      (pss_one (ps_ret (pv 2)))) pss_nil)
      (pss_cons (ps_asg (pe_op o_mod (pe_op (k_add (K := K) rfl) (pe_op o_mul (pe_ix (k_ix (K := K) rfl) (pv 0) pe_int (fun _ _ => rfl)) pe_int) pe_int) pe_int) (pg_sub (pv 0) pe_int set_list))
      (pss_one (ps_ret (pe_op o_mod (pe_op o_div (pe_op o_mod (pe_op o_mul (pe_ix (k_ix (K := K) rfl) (pv 0) pe_int (fun _ _ => rfl)) (pe_ix (k_ix (K := K) rfl) (pv 0) pe_int (fun _ _ => rfl))) pe_int) pe_int) (pv 1)))))), ?_⟩
    dsimp only [cxOf, st_1, st_2, st_3, st_4, st_5, st_6, List.length_cons, List.length_nil, List.replicate_succ, List.replicate_zero, Nat.reduceAdd, Nat.reduceSub]
    walk_at "gs"
    refine i_dec (fun hx0 => ?_) (fun hx0 => ?_)
    · walk_at "gs"
      refine i_new fun q hq => ?_
      walk_at "gs"
      refine k _ _ (Int.emod_nonneg _ (by omega)) (Int.emod_lt_of_pos _ h0) ⟨_, _, upd_same, ?_, hy, hy2⟩ ?_
      · exact Int.ediv_nonneg hx (by omega)
      · walk_at "g_kp"
    · walk_at "gs"
      refine k _ _ (Int.emod_nonneg _ (by omega)) (Int.emod_lt_of_pos _ h0) ⟨_, _, upd_same, hx, ?_, ?_⟩ ?_
      · omega
      · omega
      · walk_at "g_kp"
theorem use_draw {H : Hp} {Q : VK} {E : XK} {p : Addr} {n : Int} (hp : PotAt H p) (h0 : 0 < n)
    (h1 : n ≤ 10000000000000000000000000000000000000000000000000000000000000000000000)
    (k : ∀ r H', 0 ≤ r → r < n → PotAt H' p → Kp [p] H H' → Q (.int r) H') :
    sp_law_draw [.ref p, .int n] H Q E := ⟨p, n, rfl, hp, h0, h1, k⟩

def sp_law_value : Sp := fun vs H Q _ => ∃ (p : Addr), vs = [.ref p] ∧ PotAt H p ∧
  ∀ r H', -1000000000000000000000000000000000000000000000000000000000000 ≤ r →
    r ≤ 1000000000000000000000000000000000000000000000000000000000000 → PotAt H' p → Kp [p] H H' → Q (.int r) H'
theorem sc_law_value : FnScope ["_law_pot_here", "_law_way"] ["_law_pot_here"] (defScope s_law_value) :=
  ⟨rfl, rfl, rfl, by decide +kernel, rfl, by decide +kernel, by decide +kernel⟩
theorem ok_law_value {P : Program} {w : World} {K : PySem.W.Frag} {mg : Str → Option Value} {base : Heap} (T : Txt K mg) :
    FnG P w K mg base 2 T.a_law_value T.d_law_value ["_law_pot_here"] sp_law_value := by
  refine okD T.F_law_value sc_law_value (fun vs H Q E h => ?_) (fun cdv A outer s H vs Q E hr h => ?_)
  · first
      | (obtain ⟨_, rfl, _⟩ := h; rfl)
      | (obtain ⟨_, _, rfl, _⟩ := h; rfl)
      | (obtain ⟨_, _, _, rfl, _⟩ := h; rfl)
      | (obtain ⟨_, _, _, _, rfl, _⟩ := h; rfl)
      | (obtain ⟨_, _, _, _, _, rfl, _⟩ := h; rfl)
      | (obtain ⟨_, _, _, _, _, _, rfl, _⟩ := h; rfl)
      | (obtain ⟨_, _, _, _, _, _, _, rfl, _⟩ := h; rfl)
      | (obtain ⟨_, _, _, _, _, _, _, _, rfl, _⟩ := h; rfl)
      | (obtain ⟨_, _, _, _, _, _, _, _, _, rfl, _⟩ := h; rfl)
      | (obtain ⟨_, _, _, _, _, _, _, _, _, _, rfl, _⟩ := h; rfl)
      | (obtain ⟨_, _, _, _, _, _, _, _, _, _, _, rfl, _⟩ := h; rfl)
      | (obtain ⟨_, _, _, _, _, _, _, _, _, _, _, _, rfl, _⟩ := h; rfl)
      | (obtain ⟨_, _, _, _, _, _, _, _, _, _, _, _, _, rfl, _⟩ := h; rfl)
      | (obtain ⟨_, _, _, _, _, _, _, _, _, _, _, _, _, _, rfl, _⟩ := h; rfl)
      | (obtain ⟨_, _, _, _, _, _, _, _, _, _, _, _, _, _, _, rfl, _⟩ := h; rfl)
      | (obtain ⟨_, _, _, _, _, _, _, _, _, _, _, _, _, _, _, _, rfl, _⟩ := h; rfl)
      | (obtain ⟨_, _, _, _, _, _, _, _, _, _, _, _, _, _, _, _, _, rfl, _⟩ := h; rfl)
      | (obtain ⟨_, _, _, _, _, _, _, _, _, _, _, _, _, _, _, _, _, _, rfl, _⟩ := h; rfl)
      | (obtain ⟨_, _, _, _, _, _, _, _, _, _, _, _, _, _, _, _, _, _, _, rfl, _⟩ := h; rfl)
  · obtain ⟨p, rfl, hp, k⟩ := h
    refine ⟨_, (pss_cons (ps_set (i := 1) sc_law_value.nd rfl (Or.inl rfl) (d1 (ok_law_draw T) (hr.mono (by decide)) (by rfl) T.m_law_draw T.F_law_draw.kp T.b_law_draw passL (pa_cons (pv 0) (pa_cons pe_int pa_nil))))
      (pss_one (ps_ret (pe_ifExp (pt_cmpR op_lt (pv 1) pe_int (nomark _)) (d1 (ok_law_draw T) (hr.mono (by decide)) (by rfl) T.m_law_draw T.F_law_draw.kp T.b_law_draw passL (pa_cons (pv 0) (pa_cons pe_int pa_nil))) (pe_op op_sub (d1 (ok_law_draw T) (hr.mono (by decide)) (by rfl) T.m_law_draw T.F_law_draw.kp T.b_law_draw passL (pa_cons (pv 0) (pa_cons (pe_op o_pow pe_int pe_int) pa_nil))) (pe_op o_pow pe_int pe_int)))))), ?_⟩
    dsimp only [cxOf, st_1, st_2, st_3, st_4, st_5, st_6, List.length_cons, List.length_nil, List.replicate_succ, List.replicate_zero, Nat.reduceAdd, Nat.reduceSub]
    walk_at "gs"
    refine use_draw hp (by decide) (by decide) (fun r H1 a1 a2 hp1 k1 => ?_)
    walk_at "gs"
    by_cases c : r < 2
    · rw [decide_eq_true c]
      walk_at "gs"
      refine use_draw hp1 (by decide) (by decide) (fun r2 H2 b1 b2 hp2 k2 => ?_)
      exact k _ _ (by omega) (by omega) hp2 (k1.trans k2)
    · rw [decide_eq_false c]
      walk_at "gs"
      refine use_draw hp1 (by decide) (by decide) (fun r2 H2 b1 b2 hp2 k2 => ?_)
      walk_at "gs"
      exact k _ _ (by omega) (by omega) hp2 (k1.trans k2)
theorem use_value {H : Hp} {Q : VK} {E : XK} {p : Addr} (hp : PotAt H p)
    (k : ∀ r H', -1000000000000000000000000000000000000000000000000000000000000 ≤ r →
      r ≤ 1000000000000000000000000000000000000000000000000000000000000 → PotAt H' p → Kp [p] H H' → Q (.int r) H') :
    sp_law_value [.ref p] H Q E := ⟨p, rfl, hp, k⟩

def sp_law_place : Sp := fun vs H Q _ => ∃ (p : Addr) (n : Int), vs = [.ref p, .int n] ∧ PotAt H p ∧ (0 ≤ n ∧ n ≤ 1000000000000000000) ∧
  ∀ r H', 0 ≤ r → r ≤ n → PotAt H' p → Kp [p] H H' → Q (.int r) H'
theorem sc_law_place : FnScope ["_law_pot_here", "_law_most", "_law_way"] ["_law_pot_here", "_law_most"] (defScope s_law_place) :=
  ⟨rfl, rfl, rfl, by decide +kernel, rfl, by decide +kernel, by decide +kernel⟩
theorem ok_law_place {P : Program} {w : World} {K : PySem.W.Frag} {mg : Str → Option Value} {base : Heap} (T : Txt K mg) :
    FnG P w K mg base 2 T.a_law_place T.d_law_place ["_law_pot_here", "_law_most"] sp_law_place := by
  refine okD T.F_law_place sc_law_place (fun vs H Q E h => ?_) (fun cdv A outer s H vs Q E hr h => ?_)
  · first
      | (obtain ⟨_, rfl, _⟩ := h; rfl)
      | (obtain ⟨_, _, rfl, _⟩ := h; rfl)
      | (obtain ⟨_, _, _, rfl, _⟩ := h; rfl)
      | (obtain ⟨_, _, _, _, rfl, _⟩ := h; rfl)
      | (obtain ⟨_, _, _, _, _, rfl, _⟩ := h; rfl)
      | (obtain ⟨_, _, _, _, _, _, rfl, _⟩ := h; rfl)
      | (obtain ⟨_, _, _, _, _, _, _, rfl, _⟩ := h; rfl)
      | (obtain ⟨_, _, _, _, _, _, _, _, rfl, _⟩ := h; rfl)
      | (obtain ⟨_, _, _, _, _, _, _, _, _, rfl, _⟩ := h; rfl)
      | (obtain ⟨_, _, _, _, _, _, _, _, _, _, rfl, _⟩ := h; rfl)
      | (obtain ⟨_, _, _, _, _, _, _, _, _, _, _, rfl, _⟩ := h; rfl)
      | (obtain ⟨_, _, _, _, _, _, _, _, _, _, _, _, rfl, _⟩ := h; rfl)
      | (obtain ⟨_, _, _, _, _, _, _, _, _, _, _, _, _, rfl, _⟩ := h; rfl)
      | (obtain ⟨_, _, _, _, _, _, _, _, _, _, _, _, _, _, rfl, _⟩ := h; rfl)
      | (obtain ⟨_, _, _, _, _, _, _, _, _, _, _, _, _, _, _, rfl, _⟩ := h; rfl)
      | (obtain ⟨_, _, _, _, _, _, _, _, _, _, _, _, _, _, _, _, rfl, _⟩ := h; rfl)
      | (obtain ⟨_, _, _, _, _, _, _, _, _, _, _, _, _, _, _, _, _, rfl, _⟩ := h; rfl)
      | (obtain ⟨_, _, _, _, _, _, _, _, _, _, _, _, _, _, _, _, _, _, rfl, _⟩ := h; rfl)
      | (obtain ⟨_, _, _, _, _, _, _, _, _, _, _, _, _, _, _, _, _, _, _, rfl, _⟩ := h; rfl)
  · obtain ⟨p, n, rfl, hp, hn, k⟩ := h
    refine ⟨_, (pss_cons (ps_set (i := 2) sc_law_place.nd rfl (Or.inl rfl) (d1 (ok_law_draw T) (hr.mono (by decide)) (by rfl) T.m_law_draw T.F_law_draw.kp T.b_law_draw passL (pa_cons (pv 0) (pa_cons pe_int pa_nil))))
      (pss_cons (ps_if (pt_cmpR op_lt (pv 2) pe_int (nomark _)) (pss_one (ps_ret (pe_ix (k_ix (K := K) rfl) (pe_lst (pa_cons pe_int (pa_cons (pv 1) pa_nil))) (pv 2) (fun _ _ => rfl)))) pss_nil)
      (pss_one (ps_ret (pe_ifExp (pt_cmpR op_lt (pv 2) pe_int (nomark _)) (pe_callB (c_min2 rfl) (by rfl) T.n_min (by decide +kernel) (pa_cons (pv 1) (pa_cons (d1 (ok_law_draw T) (hr.mono (by decide)) (by rfl) T.m_law_draw T.F_law_draw.kp T.b_law_draw passL (pa_cons (pv 0) (pa_cons pe_int pa_nil))) pa_nil))) (d1 (ok_law_draw T) (hr.mono (by decide)) (by rfl) T.m_law_draw T.F_law_draw.kp T.b_law_draw passL (pa_cons (pv 0) (pa_cons (pe_op (k_add (K := K) rfl) (pv 1) pe_int) pa_nil)))))))), ?_⟩
    dsimp only [cxOf, st_1, st_2, st_3, st_4, st_5, st_6, List.length_cons, List.length_nil, List.replicate_succ, List.replicate_zero, Nat.reduceAdd, Nat.reduceSub]
    walk_at "gs"
    refine use_draw hp (by decide) (by decide) (fun w H1 a1 a2 hp1 k1 => ?_)
    walk_at "gs"
    refine i_dec (fun c => ?_) (fun c => ?_)
    · walk_at "gs"
      refine i_new fun t ht => ?_
      obtain ⟨r, hat, hr⟩ : ∃ r : Int, atI [V.int 0, V.int n] w = some (.int r) ∧ (0 ≤ r ∧ r ≤ n) := by
        have e : w = 0 ∨ w = 1 := by omega
        rcases e with rfl | rfl
        · exact ⟨0, rfl, by omega⟩
        · exact ⟨n, rfl, by omega⟩
      walk_at "gs"
      exact k _ _ hr.1 hr.2 (by walk_at "g_pot") (by walk_at "g_kp")
    · walk_at "gs"
      refine i_dec (fun d => ?_) (fun d => ?_)
      · walk_at "gs"
        refine use_draw hp1 (by decide) (by decide) (fun r H2 b1 b2 hp2 k2 => ?_)
        walk_at "gs"
        exact k _ _ (by omega) (by omega) hp2 (by walk_at "g_kp")
      · walk_at "gs"
        refine use_draw hp1 (by omega) (by omega) (fun r H2 b1 b2 hp2 k2 => ?_)
        exact k _ _ (by omega) (by omega) hp2 (by walk_at "g_kp")
theorem use_place {H : Hp} {Q : VK} {E : XK} {p : Addr} {n : Int} (hp : PotAt H p) (h0 : 0 ≤ n) (h1 : n ≤ 1000000000000000000)
    (k : ∀ r H', 0 ≤ r → r ≤ n → PotAt H' p → Kp [p] H H' → Q (.int r) H') :
    sp_law_place [.ref p, .int n] H Q E := ⟨p, n, rfl, hp, ⟨h0, h1⟩, k⟩

def sp_law_size : Sp := fun vs H Q _ => ∃ (p : Addr), vs = [.ref p] ∧ PotAt H p ∧
  ∀ r H', 1 ≤ r → r ≤ 1000000000000000000 → PotAt H' p → Kp [p] H H' → Q (.int r) H'
theorem sc_law_size : FnScope ["_law_pot_here", "_law_way"] ["_law_pot_here"] (defScope s_law_size) :=
  ⟨rfl, rfl, rfl, by decide +kernel, rfl, by decide +kernel, by decide +kernel⟩
theorem ok_law_size {P : Program} {w : World} {K : PySem.W.Frag} {mg : Str → Option Value} {base : Heap} (T : Txt K mg) :
    FnG P w K mg base 2 T.a_law_size T.d_law_size ["_law_pot_here"] sp_law_size := by
  refine okD T.F_law_size sc_law_size (fun vs H Q E h => ?_) (fun cdv A outer s H vs Q E hr h => ?_)
  · first
      | (obtain ⟨_, rfl, _⟩ := h; rfl)
      | (obtain ⟨_, _, rfl, _⟩ := h; rfl)
      | (obtain ⟨_, _, _, rfl, _⟩ := h; rfl)
      | (obtain ⟨_, _, _, _, rfl, _⟩ := h; rfl)
      | (obtain ⟨_, _, _, _, _, rfl, _⟩ := h; rfl)
      | (obtain ⟨_, _, _, _, _, _, rfl, _⟩ := h; rfl)
      | (obtain ⟨_, _, _, _, _, _, _, rfl, _⟩ := h; rfl)
      | (obtain ⟨_, _, _, _, _, _, _, _, rfl, _⟩ := h; rfl)
      | (obtain ⟨_, _, _, _, _, _, _, _, _, rfl, _⟩ := h; rfl)
      | (obtain ⟨_, _, _, _, _, _, _, _, _, _, rfl, _⟩ := h; rfl)
      | (obtain ⟨_, _, _, _, _, _, _, _, _, _, _, rfl, _⟩ := h; rfl)
      | (obtain ⟨_, _, _, _, _, _, _, _, _, _, _, _, rfl, _⟩ := h; rfl)
      | (obtain ⟨_, _, _, _, _, _, _, _, _, _, _, _, _, rfl, _⟩ := h; rfl)
      | (obtain ⟨_, _, _, _, _, _, _, _, _, _, _, _, _, _, rfl, _⟩ := h; rfl)
      | (obtain ⟨_, _, _, _, _, _, _, _, _, _, _, _, _, _, _, rfl, _⟩ := h; rfl)
      | (obtain ⟨_, _, _, _, _, _, _, _, _, _, _, _, _, _, _, _, rfl, _⟩ := h; rfl)
      | (obtain ⟨_, _, _, _, _, _, _, _, _, _, _, _, _, _, _, _, _, rfl, _⟩ := h; rfl)
      | (obtain ⟨_, _, _, _, _, _, _, _, _, _, _, _, _, _, _, _, _, _, rfl, _⟩ := h; rfl)
      | (obtain ⟨_, _, _, _, _, _, _, _, _, _, _, _, _, _, _, _, _, _, _, rfl, _⟩ := h; rfl)
  · obtain ⟨p, rfl, hp, k⟩ := h
    refine ⟨_, (pss_cons (ps_set (i := 1) sc_law_size.nd rfl (Or.inl rfl) (d1 (ok_law_draw T) (hr.mono (by decide)) (by rfl) T.m_law_draw T.F_law_draw.kp T.b_law_draw passL (pa_cons (pv 0) (pa_cons pe_int pa_nil))))
      (pss_cons (ps_if (pt_cmpR (k_eq (K := K) rfl hr.r.units) (pv 1) pe_int (nomark _)) (pss_one (ps_ret (pe_op o_pow pe_int pe_int))) pss_nil)
      (pss_one (ps_ret (pe_op (k_add (K := K) rfl) pe_int (d1 (ok_law_draw T) (hr.mono (by decide)) (by rfl) T.m_law_draw T.F_law_draw.kp T.b_law_draw passL (pa_cons (pv 0) (pa_cons (pe_ix (k_ix (K := K) rfl) (pe_lst (pa_cons pe_int (pa_cons pe_int (pa_cons (pe_op o_pow pe_int pe_int) pa_nil)))) (pv 1) (fun _ _ => rfl)) pa_nil)))))))), ?_⟩
    dsimp only [cxOf, st_1, st_2, st_3, st_4, st_5, st_6, List.length_cons, List.length_nil, List.replicate_succ, List.replicate_zero, Nat.reduceAdd, Nat.reduceSub]
    walk_at "gs"
    refine use_draw hp (by decide) (by decide) (fun w H1 a1 a2 hp1 k1 => ?_)
    walk_at "gs"
    refine i_dec (fun c => ?_) (fun c => ?_)
    · walk_at "gs"
      exact k _ _ (by decide) (by decide) hp1 k1
    · walk_at "gs"
      refine i_new fun t ht => ?_
      obtain ⟨r, hat, hr⟩ : ∃ r : Int, atI [V.int 9, V.int 60, V.int 1000000000000000000] w = some (.int r) ∧ (0 < r ∧ r ≤ 1000000000000000000) := by
        have e : w = 0 ∨ w = 1 ∨ w = 2 := by omega
        rcases e with rfl | rfl | rfl
        · exact ⟨9, rfl, by omega⟩
        · exact ⟨60, rfl, by omega⟩
        · exact ⟨_, rfl, by omega⟩
      walk_at "gs"
      refine use_draw (by walk_at "g_pot") hr.1 (by omega) (fun u H2 b1 b2 hp2 k2 => ?_)
      walk_at "gs"
      exact k _ _ (by omega) (by omega) hp2 (by walk_at "g_kp")
theorem use_size {H : Hp} {Q : VK} {E : XK} {p : Addr} (hp : PotAt H p)
    (k : ∀ r H', 1 ≤ r → r ≤ 1000000000000000000 → PotAt H' p → Kp [p] H H' → Q (.int r) H') :
    sp_law_size [.ref p] H Q E := ⟨p, rfl, hp, k⟩

/-! ### joined -/
def jst (f : List (Int × Int)) (p : Int × Int) : List (Int × Int) :=
  if 0 < p.1 then
    match f.getLast? with
    | some q => if q.2 = p.2 then f.dropLast ++ [(q.1 + p.1, p.2)] else f ++ [p]
    | none => [p]
  else f
theorem jst_same {f0 : List (Int × Int)} {q0 p : Int × Int} (h0 : 0 < p.1) (h1 : q0.2 = p.2) :
    jst (f0 ++ [q0]) p = f0 ++ [(q0.1 + p.1, p.2)] := by
  unfold jst
  rw [if_pos h0]
  simp [h1]
theorem jst_other {f0 : List (Int × Int)} {q0 p : Int × Int} (h0 : 0 < p.1) (h1 : ¬ q0.2 = p.2) :
    jst (f0 ++ [q0]) p = f0 ++ [q0] ++ [p] := by
  unfold jst
  rw [if_pos h0]
  simp [h1]
theorem jst_nil {p : Int × Int} (h0 : 0 < p.1) : jst [] p = [p] := by
  unfold jst
  rw [if_pos h0]
  rfl
theorem jst_no {f : List (Int × Int)} {p : Int × Int} (h0 : ¬ 0 < p.1) : jst f p = f := by
  unfold jst
  rw [if_neg h0]
def jnd (ps : List (Int × Int)) : List (Int × Int) := ps.foldl jst []
theorem jst_len (f : List (Int × Int)) (p : Int × Int) : (jst f p).length ≤ f.length + 1 := by
  unfold jst
  split
  · split
    · split
      · rename_i q hq _
        simp only [List.length_append, List.length_dropLast, List.length_singleton]
        omega
      · simp
    · simp
  · omega
theorem jnd_take {ps : List (Int × Int)} {i : Nat} {p : Int × Int} (h : ps[i]? = some p) :
    jnd (ps.take (i + 1)) = jst (jnd (ps.take i)) p := by
  unfold jnd
  rw [List.take_add_one, h, List.foldl_append]
  rfl
theorem jnd_len : ∀ (ps : List (Int × Int)) (i : Nat), (jnd (ps.take i)).length ≤ i
  | ps, 0 => by simp [jnd]
  | ps, i + 1 => by
    cases h : ps[i]? with
    | none =>
      have e : ps.take (i + 1) = ps.take i := by
        rw [List.take_add_one, h]
        simp
      rw [e]
      have q := jnd_len ps i
      omega
    | some p =>
      rw [jnd_take h]
      have q := jnd_len ps i
      have q2 := jst_len (jnd (ps.take i)) p
      omega
def sp_joined (K : PySem.W.Frag) : Sp := fun vs H Q _ => ∃ (a : Addr) (ps : List (Int × Int)),
  vs = [.ref a] ∧ Dp K H (.ref a) (.list (ps.map d2)) ∧ ps.length ≤ 100000 ∧
  ∀ l H', Fr H l → Kp [] H H' → LD K H' l ((jnd ps).map d2) → Q (.ref l) H'
theorem sc_joined : FnScope ["pairs", "found", "many", "number"] ["pairs"] (defScope s_joined) :=
  ⟨rfl, rfl, rfl, by decide +kernel, rfl, by decide +kernel, by decide +kernel⟩
theorem ok_joined {P : Program} {w : World} {K : PySem.W.Frag} {mg : Str → Option Value} {base : Heap} (T : Txt K mg) :
    FnG P w K mg base 1 T.a_joined T.d_joined ["pairs"] (sp_joined K) := by
  refine okD T.F_joined sc_joined (fun vs H Q E h => ?_) (fun cdv A outer s H vs Q E hr h => ?_)
  · first
      | (obtain ⟨_, rfl, _⟩ := h; rfl)
      | (obtain ⟨_, _, rfl, _⟩ := h; rfl)
      | (obtain ⟨_, _, _, rfl, _⟩ := h; rfl)
      | (obtain ⟨_, _, _, _, rfl, _⟩ := h; rfl)
      | (obtain ⟨_, _, _, _, _, rfl, _⟩ := h; rfl)
      | (obtain ⟨_, _, _, _, _, _, rfl, _⟩ := h; rfl)
      | (obtain ⟨_, _, _, _, _, _, _, rfl, _⟩ := h; rfl)
      | (obtain ⟨_, _, _, _, _, _, _, _, rfl, _⟩ := h; rfl)
      | (obtain ⟨_, _, _, _, _, _, _, _, _, rfl, _⟩ := h; rfl)
      | (obtain ⟨_, _, _, _, _, _, _, _, _, _, rfl, _⟩ := h; rfl)
      | (obtain ⟨_, _, _, _, _, _, _, _, _, _, _, rfl, _⟩ := h; rfl)
      | (obtain ⟨_, _, _, _, _, _, _, _, _, _, _, _, rfl, _⟩ := h; rfl)
      | (obtain ⟨_, _, _, _, _, _, _, _, _, _, _, _, _, rfl, _⟩ := h; rfl)
      | (obtain ⟨_, _, _, _, _, _, _, _, _, _, _, _, _, _, rfl, _⟩ := h; rfl)
      | (obtain ⟨_, _, _, _, _, _, _, _, _, _, _, _, _, _, _, rfl, _⟩ := h; rfl)
      | (obtain ⟨_, _, _, _, _, _, _, _, _, _, _, _, _, _, _, _, rfl, _⟩ := h; rfl)
      | (obtain ⟨_, _, _, _, _, _, _, _, _, _, _, _, _, _, _, _, _, rfl, _⟩ := h; rfl)
      | (obtain ⟨_, _, _, _, _, _, _, _, _, _, _, _, _, _, _, _, _, _, rfl, _⟩ := h; rfl)
      | (obtain ⟨_, _, _, _, _, _, _, _, _, _, _, _, _, _, _, _, _, _, _, rfl, _⟩ := h; rfl)
  · obtain ⟨a, ps, rfl, ha, hps, k⟩ := h
    cases ha
    rename_i xs hsq hall
    have hlen := dpa_len hall
    rw [List.length_map] at hlen
    have cl_Memory := T.cl_Memory
    have na_Memory_pairs := T.na_Memory_pairs
    have na_Memory_wide := T.na_Memory_wide
    refine ⟨_, (pss_cons (ps_set (i := 1) sc_joined.nd rfl (Or.inl rfl) (pe_lst pa_nil))
      (pss_cons (ps_for (passes_of rfl) rfl (k_plist (K := K) rfl (pv 0)) (k_gtup (K := K) 2 rfl rfl (pgs_cons (pg_name (i := 2) sc_joined.nd rfl (Or.inl rfl)) (pgs_cons (pg_name (i := 3) sc_joined.nd rfl (Or.inl rfl)) pgs_nil)))
      (pss_one (ps_if (PW.pt (pw_and (pt_cmpR op_gt (pv 2) pe_int (nomark _)) (pw_and (pt_cmpR (k_ne (K := K) rfl hr.r.units) (pv 1) (pe_lst pa_nil) (nomark _)) (pw_and1 (pt_cmpR (k_eq (K := K) rfl hr.r.units) (pe_ix (k_ix (K := K) rfl) (pe_ix (k_ix (K := K) rfl) (pv 1) (pe_un un_neg pe_int) (fun _ _ => rfl)) pe_int (fun _ _ => rfl)) (pv 3) (nomark _)))))) (pss_one (ps_asg (pe_tup (pa_cons (pe_op (k_add (K := K) rfl) (pe_ix (k_ix (K := K) rfl) (pe_ix (k_ix (K := K) rfl) (pv 1) (pe_un un_neg pe_int) (fun _ _ => rfl)) pe_int (fun _ _ => rfl)) (pv 2)) (pa_cons (pv 3) pa_nil))) (pg_sub (pv 1) (pe_un un_neg pe_int) set_list))) (pss_one (ps_if (pt_cmpR op_gt (pv 2) pe_int (nomark _)) (pss_one (ps_expr (pe_bm PySem.F.plainAttrs_list PySem.F.slot_list_append PySem.F.type_list_append mt_append (pv 1) (pa_cons (pe_tup (pa_cons (pv 2) (pa_cons (pv 3) pa_nil))) pa_nil)))) pss_nil)))))
      (pss_one (ps_ret (pv 1))))), ?_⟩
    dsimp only [cxOf, st_1, st_2, st_3, st_4, st_5, st_6, List.length_cons, List.length_nil, List.replicate_succ, List.replicate_zero, Nat.reduceAdd, Nat.reduceSub]
    walk_at "gs"
    refine i_new fun l hl => ?_
    walk_at "gs"
    refine i_each ((Kp.new hl).seqL (ws := []) List.not_mem_nil hsq) (fun i σ H' => ∃ u v, σ = [some (.ref a), some (.ref l), u, v] ∧ Kp [] H H' ∧
      LD K H' l ((jnd (ps.take i)).map d2)) ?_ ?_ ?_ ?_
    · exact ⟨none, none, rfl, Kp.new hl, ⟨[], upd_same, .nil⟩⟩
    · rintro i σ H' _ ⟨u, v, rfl, kp, ld⟩
      exact kp.seqL List.not_mem_nil hsq
    · rintro i x σ H' hx ⟨u, v, rfl, kp, ld⟩
      obtain ⟨d, hd, hdp⟩ := dpa_getV hall hx
      obtain ⟨p, hp, rfl⟩ := map_get hd
      obtain ⟨pa, rfl, hpt⟩ := dp_pair hdp
      replace hpt := kp.seqT hpt
      obtain ⟨vs, hvs, hall2⟩ := id ld
      have hvl := dpa_len hall2
      rw [List.length_map] at hvl
      have hjl := jnd_len ps i
      have hil : i < ps.length := (List.getElem?_eq_some_iff.mp hp).1
      walk_at "gs"
      refine i_dec (fun h0 => ?_) (fun h0 => ?_)
      · walk_at "gs"
        refine i_new fun q hq => ?_
        walk_at "gs"
        refine ne_nil ld (imms_d2 _) (shaped_pairs _) hq ?_
        walk_at "gs"
        refine i_boN (fun e => ?_) (fun e => ?_)
        · obtain ⟨f0, q0, hF⟩ := list_last (l := jnd (ps.take i)) (by
            intro z
            rw [z] at e
            cases e)
          rw [hF, List.map_append] at hall2
          obtain ⟨us, x, rfl, hu, hx2⟩ := dpa_last hall2
          obtain ⟨qa, rfl, hqa⟩ := dp_pair hx2
          rw [List.length_append, List.length_singleton] at hvl
          walk_at "gs"
          refine i_dec (fun h1 => ?_) (fun h1 => ?_)
          · walk_at "gs"
            refine i_new fun t ht => ?_
            walk_at "gs"
            rw [set_last]
            refine ⟨_, _, rfl, ?_, _, upd_same, ?_⟩
            · walk_at "g_kp"
            · have kl : Kp [l] H' (upd (upd (upd H' q (.lst [])) t (.tup [.int (q0.1 + p.1), .int p.2])) l
                  (.lst (us ++ [V.ref t]))) := by walk_at "g_kp"
              rw [jnd_take hp, hF, jst_same h0 h1, List.map_append]
              exact dpa_app (dpa_imm kl _ _ (imms_d2 _) hu) (dpa_one (dp_mk2 (by walk_at "g_st")))
          · walk_at "gs"
            refine i_dec (fun _ => ?_) (fun z => absurd h0 z)
            walk_at "gs"
            refine i_new fun t ht => ?_
            walk_at "gs"
            refine ⟨_, _, rfl, ?_, _, upd_same, ?_⟩
            · walk_at "g_kp"
            · have kl : Kp [l] H' (upd (upd (upd H' q (.lst [])) t (.tup [.int p.1, .int p.2])) l
                  (.lst (us ++ [V.ref qa] ++ [V.ref t]))) := by walk_at "g_kp"
              rw [jnd_take hp, hF, jst_other h0 h1, List.map_append, List.map_append]
              exact dpa_app (dpa_app (dpa_imm kl _ _ (imms_d2 _) hu) (dpa_one (dp_imm kl _ _ rfl hx2))) (dpa_one (dp_mk2 (by walk_at "g_st")))
        · walk_at "gs"
          refine i_dec (fun _ => ?_) (fun z => absurd h0 z)
          walk_at "gs"
          refine i_new fun t ht => ?_
          walk_at "gs"
          have hF : jnd (ps.take i) = [] := by
            cases z : jnd (ps.take i) with
            | nil => rfl
            | cons x y =>
              rw [z] at e
              cases e
          rw [hF] at hall2
          cases hall2
          refine ⟨_, _, rfl, ?_, _, upd_same, ?_⟩
          · walk_at "g_kp"
          · rw [jnd_take hp, hF, jst_nil h0]
            exact dpa_one (dp_mk2 (by walk_at "g_st"))
      · walk_at "gs"
        refine i_dec (fun z => absurd z h0) (fun _ => ?_)
        walk_at "gs"
        refine ⟨_, _, rfl, kp, ?_⟩
        rw [jnd_take hp, jst_no h0]
        exact ld
    · rintro σ H' ⟨u, v, rfl, kp, ld⟩
      walk_at "gs"
      rw [List.take_of_length_le (by omega)] at ld
      exact k l H' hl kp ld

/-! ### counting from the back -/
def wst (f : List (Int × Int)) (p : Int × Int) : List (Int × Int) :=
  match f with
  | [] => [(0 + p.1, p.2)]
  | q :: t => if q.2 = p.2 then (q.1 + p.1, p.2) :: t else (0 + p.1, p.2) :: q :: t
def pos (p : Int × Int) : Bool := decide (0 < p.1)
def wrt (ps : List (Int × Int)) : List (Int × Int) := (ps.reverse.filter pos).foldl wst []
def wr : List (Int × Int) → List (Int × Int)
  | [] => []
  | p :: ps => if 0 < p.1 then wst (wr ps) p else wr ps
theorem wrt_eq (ps : List (Int × Int)) : wrt ps = wr ps := by
  induction ps with
  | nil => rfl
  | cons p ps ih =>
    unfold wrt at *
    rw [List.reverse_cons, List.filter_append, List.foldl_append, ih]
    by_cases h : 0 < p.1
    · simp [wr, h, pos]
    · simp [wr, h, pos]
/-- what is put ahead of the rest -/
def glue (f : List (Int × Int)) : List (Int × Int) → List (Int × Int)
  | [] => f
  | q :: t => jst f q ++ t
theorem wr_pos : ∀ (ps : List (Int × Int)) (q : Int × Int), q ∈ wr ps → 0 < q.1
  | [], _, h => nomatch h
  | p :: ps, q, h => by
    unfold wr at h
    by_cases hp : 0 < p.1
    · rw [if_pos hp] at h
      cases e : wr ps with
      | nil =>
        rw [e] at h
        simp only [wst, List.mem_singleton] at h
        rw [h]
        show 0 < 0 + p.1
        omega
      | cons x t =>
        have hx : 0 < x.1 := wr_pos ps x (by rw [e]; exact List.mem_cons_self)
        rw [e] at h
        unfold wst at h
        simp only at h
        by_cases hq : x.2 = p.2
        · rw [if_pos hq] at h
          rcases List.mem_cons.mp h with z | z
          · rw [z]
            show 0 < x.1 + p.1
            omega
          · exact wr_pos ps q (by rw [e]; exact List.mem_cons_of_mem _ z)
        · rw [if_neg hq] at h
          rcases List.mem_cons.mp h with z | z
          · rw [z]
            show 0 < 0 + p.1
            omega
          · exact wr_pos ps q (by rw [e]; exact z)
    · rw [if_neg hp] at h
      exact wr_pos ps q h
theorem jst_cases (f : List (Int × Int)) (p : Int × Int) (h : 0 < p.1) :
    (∃ f0 q0, f = f0 ++ [q0] ∧ q0.2 = p.2 ∧ jst f p = f0 ++ [(q0.1 + p.1, p.2)]) ∨
    ((∀ f0 q0, f = f0 ++ [q0] → q0.2 ≠ p.2) ∧ jst f p = f ++ [p]) := by
  by_cases e : f = []
  · subst e
    exact .inr ⟨fun f0 q0 z => by simp at z, jst_nil h⟩
  · obtain ⟨f0, q0, rfl⟩ := list_last e
    by_cases c : q0.2 = p.2
    · exact .inl ⟨f0, q0, rfl, c, jst_same h c⟩
    · refine .inr ⟨fun g0 r0 z => ?_, jst_other h c⟩
      have z2 := List.append_inj_right' z rfl
      cases z2
      exact c
theorem jst_two (f : List (Int × Int)) (p q : Int × Int) (hp : 0 < p.1) (hq : 0 < q.1) (e : q.2 = p.2) :
    jst (jst f p) q = jst f (q.1 + p.1, p.2) := by
  have h3 : 0 < ((q.1 + p.1, p.2) : Int × Int).1 := by
    show 0 < q.1 + p.1
    omega
  rcases jst_cases f p hp with ⟨f0, q0, rfl, c, z⟩ | ⟨c, z⟩
  · rw [z, jst_same (q0 := (q0.1 + p.1, p.2)) (p := q) hq e.symm, jst_same h3 c]
    congr 2
    rw [e]
    congr 1
    show q0.1 + p.1 + q.1 = q0.1 + (q.1 + p.1)
    omega
  · rw [z, jst_same hq e.symm]
    rcases jst_cases f (q.1 + p.1, p.2) h3 with ⟨f0, q0, rfl, c2, z2⟩ | ⟨c2, z2⟩
    · exact absurd c2 (c f0 q0 rfl)
    · rw [z2, e]
      congr 3
      omega
theorem fold_glue : ∀ (ps f : List (Int × Int)), ps.foldl jst f = glue f (wr ps)
  | [], f => rfl
  | p :: ps, f => by
    rw [List.foldl_cons, fold_glue ps (jst f p)]
    by_cases hp : 0 < p.1
    · have e : wr (p :: ps) = wst (wr ps) p := by
        show (if 0 < p.1 then wst (wr ps) p else wr ps) = _
        rw [if_pos hp]
      rw [e]
      cases h : wr ps with
      | nil =>
        show jst f p = jst f (0 + p.1, p.2) ++ []
        rw [Int.zero_add, List.append_nil]
      | cons q t =>
        have hq : 0 < q.1 := wr_pos ps q (by rw [h]; exact List.mem_cons_self)
        unfold wst
        simp only
        by_cases c : q.2 = p.2
        · rw [if_pos c]
          show jst (jst f p) q ++ t = jst f (q.1 + p.1, p.2) ++ t
          rw [jst_two f p q hp hq c]
        · rw [if_neg c]
          show jst (jst f p) q ++ t = jst f (0 + p.1, p.2) ++ (q :: t)
          rw [Int.zero_add]
          have z : jst (jst f p) q = jst f p ++ [q] := by
            rcases jst_cases f p hp with ⟨f0, q0, rfl, d, z⟩ | ⟨d, z⟩
            · rw [z, jst_other (q0 := (q0.1 + p.1, p.2)) (p := q) hq (fun k => c k.symm)]
            · rw [z, jst_other hq (fun k => c k.symm)]
          rw [z, List.append_assoc]
          rfl
    · have e : wr (p :: ps) = wr ps := by
        show (if 0 < p.1 then wst (wr ps) p else wr ps) = _
        rw [if_neg hp]
      rw [e, jst_no hp]
theorem jnd_wr (ps : List (Int × Int)) : jnd ps = wr ps := by
  unfold jnd
  rw [fold_glue]
  cases h : wr ps with
  | nil => rfl
  | cons q t =>
    have hq : 0 < q.1 := wr_pos ps q (by rw [h]; exact List.mem_cons_self)
    show jst [] q ++ t = q :: t
    rw [jst_nil hq]
    rfl
theorem wr_len : ∀ ps : List (Int × Int), (wr ps).length ≤ ps.length
  | [] => Nat.le_refl _
  | p :: ps => by
    have q := wr_len ps
    unfold wr
    split
    · cases h : wr ps with
      | nil => simp [wst]
      | cons x t =>
        rw [h] at q
        simp only [wst, List.length_cons] at *
        split <;> simp only [List.length_cons] <;> omega
    · rw [List.length_cons]
      omega
/-- told again of what was told it is the same -/
theorem wst_wr (f : List (Int × Int)) (p : Int × Int) (hp : 0 < p.1) (hf : wr f = f)
    (hpos : ∀ q ∈ f, 0 < q.1) : wr (wst f p) = wst f p := by
  cases f with
  | nil =>
    show (if 0 < 0 + p.1 then wst [] (0 + p.1, p.2) else []) = [(0 + p.1, p.2)]
    rw [Int.zero_add, if_pos hp]
    simp [wst]
  | cons q t =>
    have hq := hpos q List.mem_cons_self
    have ht : wst (wr t) q = q :: t := by
      have z : (if 0 < q.1 then wst (wr t) q else wr t) = q :: t := hf
      rwa [if_pos hq] at z
    unfold wst
    simp only
    by_cases c : q.2 = p.2
    · rw [if_pos c]
      show (if 0 < q.1 + p.1 then wst (wr t) (q.1 + p.1, p.2) else wr t) = _
      rw [if_pos (by omega)]
      cases e : wr t with
      | nil =>
        rw [e] at ht
        simp only [wst, List.cons.injEq] at ht
        simp [wst, ← ht.2]
      | cons x u =>
        rw [e] at ht
        unfold wst at ht ⊢
        simp only at ht ⊢
        by_cases d : x.2 = q.2
        · rw [if_pos d] at ht
          have hu : wr t = t := by
            have l1 := wr_len t
            rw [e] at l1
            have l2 := congrArg List.length ht
            simp only [List.length_cons] at l1 l2
            omega
          rw [hu] at e
          subst e
          have l2 := congrArg List.length ht
          simp only [List.length_cons] at l2
          omega
        · rw [if_neg d] at ht
          rw [if_neg (by rw [← c]; exact d)]
          rw [Int.zero_add]
          have z := (List.cons.inj ht).2
          rw [z]
    · rw [if_neg c]
      show (if 0 < 0 + p.1 then wst (wr (q :: t)) (0 + p.1, p.2) else wr (q :: t)) = _
      rw [Int.zero_add, if_pos hp, hf]
      unfold wst
      simp only
      rw [if_neg c, Int.zero_add]
theorem wr_wr : ∀ ps : List (Int × Int), wr (wr ps) = wr ps
  | [] => rfl
  | p :: ps => by
    have e : wr (p :: ps) = if 0 < p.1 then wst (wr ps) p else wr ps := rfl
    rw [e]
    split
    · exact wst_wr _ _ (by assumption) (wr_wr ps) (wr_pos ps)
    · exact wr_wr ps

/-! ### runs and cells -/
def rle (cs : List Int) : List (Int × Int) := wr (cs.map tag)
theorem cells_nil : cells [] = [] := rfl
theorem cells_cons (p : Int × Int) (ps : List (Int × Int)) : cells (p :: ps) = List.replicate p.1.toNat p.2 ++ cells ps := rfl
theorem cells_app (ps qs : List (Int × Int)) : cells (ps ++ qs) = cells ps ++ cells qs := List.flatMap_append
theorem cells_tag : ∀ cs : List Int, cells (cs.map tag) = cs
  | [] => rfl
  | c :: cs => by
    rw [List.map_cons, cells_cons, cells_tag cs]
    rfl
theorem cells_wst (f : List (Int × Int)) (p : Int × Int) (hp : 0 < p.1) (hf : ∀ q ∈ f, 0 < q.1) :
    cells (wst f p) = List.replicate p.1.toNat p.2 ++ cells f := by
  cases f with
  | nil => simp [wst, cells_cons]
  | cons q t =>
    have hq := hf q List.mem_cons_self
    unfold wst
    simp only
    by_cases c : q.2 = p.2
    · rw [if_pos c, cells_cons, cells_cons]
      show List.replicate (q.1 + p.1).toNat p.2 ++ cells t = _
      have e : (q.1 + p.1).toNat = p.1.toNat + q.1.toNat := by omega
      rw [e, ← List.replicate_append_replicate, List.append_assoc, c]
    · rw [if_neg c, cells_cons]
      show List.replicate (0 + p.1).toNat p.2 ++ _ = _
      rw [Int.zero_add]
theorem cells_wr : ∀ ps : List (Int × Int), cells (wr ps) = cells ps
  | [] => rfl
  | p :: ps => by
    rw [cells_cons]
    unfold wr
    by_cases hp : 0 < p.1
    · rw [if_pos hp, cells_wst _ _ hp (wr_pos ps), cells_wr ps]
    · rw [if_neg hp, cells_wr ps]
      have e : p.1.toNat = 0 := by omega
      rw [e]
      rfl
theorem wst_more (f : List (Int × Int)) (n v : Int) (hn : 0 < n) : wst (wst f (n, v)) (1, v) = wst f (n + 1, v) := by
  cases f with
  | nil =>
    show wst [(0 + n, v)] (1, v) = [(0 + (n + 1), v)]
    unfold wst
    simp only [if_true]
    congr 2
    omega
  | cons q t =>
    by_cases c : q.2 = v
    · have e1 : wst (q :: t) (n, v) = (q.1 + n, v) :: t := by simp [wst, c]
      have e2 : wst (q :: t) (n + 1, v) = (q.1 + (n + 1), v) :: t := by simp [wst, c]
      have e3 : wst ((q.1 + n, v) :: t) (1, v) = (q.1 + n + 1, v) :: t := by simp [wst]
      rw [e1, e2, e3]
      congr 2
      omega
    · have e1 : wst (q :: t) (n, v) = (0 + n, v) :: q :: t := by simp [wst, c]
      have e2 : wst (q :: t) (n + 1, v) = (0 + (n + 1), v) :: q :: t := by simp [wst, c]
      have e3 : wst ((0 + n, v) :: q :: t) (1, v) = (0 + n + 1, v) :: q :: t := by simp [wst]
      rw [e1, e2, e3]
      congr 2
      omega
theorem wst_one (f : List (Int × Int)) (c : Int) : wr (tag c :: f) = wst (wr f) (1, c) := by
  show (if (0 : Int) < 1 then wst (wr f) (1, c) else wr f) = _
  rw [if_pos (by decide)]
theorem rle_rep (v : Int) (cs : List Int) : ∀ n : Nat, rle (List.replicate (n + 1) v ++ cs) = wst (rle cs) ((n : Int) + 1, v)
  | 0 => by
    show wr (tag v :: cs.map tag) = _
    rw [wst_one]
    rfl
  | n + 1 => by
    have ih := rle_rep v cs n
    have e : rle (List.replicate (n + 1 + 1) v ++ cs) = wst (rle (List.replicate (n + 1) v ++ cs)) (1, v) := by
      show wr (tag v :: (List.replicate (n + 1) v ++ cs).map tag) = _
      rw [wst_one]
      rfl
    rw [e, ih, wst_more _ _ _ (by omega)]
    congr 2
theorem wr_rle : ∀ ps : List (Int × Int), wr ps = rle (cells ps)
  | [] => rfl
  | p :: ps => by
    have ih := wr_rle ps
    rw [cells_cons]
    unfold wr
    by_cases hp : 0 < p.1
    · obtain ⟨n, hn⟩ : ∃ n : Nat, p.1.toNat = n + 1 := ⟨p.1.toNat - 1, by omega⟩
      rw [if_pos hp, hn, rle_rep, ih]
      congr 1
      have e : ((n : Int) + 1) = p.1 := by omega
      rw [e]
    · rw [if_neg hp]
      have e : p.1.toNat = 0 := by omega
      rw [e]
      exact ih
theorem cells_rle (cs : List Int) : cells (rle cs) = cs := by
  unfold rle
  rw [cells_wr, cells_tag]
theorem rle_len (cs : List Int) : (rle cs).length ≤ cs.length := by
  have h := wr_len (cs.map tag)
  rw [List.length_map] at h
  exact h
theorem rle_pos (cs : List Int) : ∀ q ∈ rle cs, 0 < q.1 := wr_pos _
theorem jnd_rle (ps : List (Int × Int)) : jnd ps = rle (cells ps) := by rw [jnd_wr, wr_rle]
theorem rle_inj {cs ds : List Int} (h : rle cs = rle ds) : cs = ds := by
  rw [← cells_rle cs, h, cells_rle]
theorem rle_ne {cs : List Int} (h : cs ≠ []) : rle cs ≠ [] := fun z => h (by rw [← cells_rle cs, z]; rfl)
/-- what of the pairs, that begin at a, lies between b and e -/
def cutF (b e : Int) : Int → List (Int × Int) → List (Int × Int)
  | _, [] => []
  | a, p :: t => (if max b a < min e (a + p.1) then [(min e (a + p.1) - max b a, p.2)] else []) ++ cutF b e (a + p.1) t
def cut (b e : Int) (ps : List (Int × Int)) : List (Int × Int) := cutF b e 0 ps
theorem cutF_len (b e : Int) : ∀ (a : Int) (ps : List (Int × Int)), (cutF b e a ps).length ≤ ps.length
  | _, [] => Nat.le_refl _
  | a, p :: t => by
    have h := cutF_len b e (a + p.1) t
    unfold cutF
    rw [List.length_append, List.length_cons]
    split <;> simp <;> omega
theorem cut_len (b e : Int) (ps : List (Int × Int)) : (cut b e ps).length ≤ ps.length := cutF_len b e 0 ps
theorem cutF_pos (b e : Int) : ∀ (a : Int) (ps : List (Int × Int)) (q : Int × Int), q ∈ cutF b e a ps → 0 < q.1
  | _, [], _, h => nomatch h
  | a, p :: t, q, h => by
    unfold cutF at h
    rcases List.mem_append.mp h with h | h
    · split at h
      · rw [List.mem_singleton.mp h]
        show 0 < min e (a + p.1) - max b a
        omega
      · exact nomatch h
    · exact cutF_pos b e (a + p.1) t q h
def wide (ps : List (Int × Int)) : Int := (ps.map (·.1)).sum
theorem cutF_app (b e : Int) : ∀ (a : Int) (ps : List (Int × Int)) (p : Int × Int), cutF b e a (ps ++ [p]) =
    cutF b e a ps ++ (if max b (a + wide ps) < min e (a + wide ps + p.1) then [(min e (a + wide ps + p.1) - max b (a + wide ps), p.2)] else [])
  | a, [], p => by
    have e0 : a + wide [] = a := Int.add_zero a
    rw [e0]
    show (if max b a < min e (a + p.1) then [(min e (a + p.1) - max b a, p.2)] else []) ++ [] = [] ++ _
    rw [List.append_nil, List.nil_append]
  | a, q :: t, p => by
    have ih := cutF_app b e (a + q.1) t p
    have e0 : a + wide (q :: t) = a + q.1 + wide t := by
      show a + (q.1 + wide t) = _
      omega
    rw [List.cons_append, e0]
    conv => lhs; unfold cutF
    rw [ih]
    conv => rhs; unfold cutF
    rw [List.append_assoc]
theorem cut_take {b e : Int} {ps : List (Int × Int)} {i : Nat} {p : Int × Int} (h : ps[i]? = some p) :
    cut b e (ps.take (i + 1)) = cut b e (ps.take i) ++ (if max b (wide (ps.take i)) < min e (wide (ps.take i) + p.1)
      then [(min e (wide (ps.take i) + p.1) - max b (wide (ps.take i)), p.2)] else []) := by
  unfold cut
  rw [List.take_add_one, h]
  have k := cutF_app b e 0 (ps.take i) p
  rw [Int.zero_add] at k
  exact k
theorem wide_take {ps : List (Int × Int)} {i : Nat} {p : Int × Int} (h : ps[i]? = some p) :
    wide (ps.take (i + 1)) = wide (ps.take i) + p.1 := by
  unfold wide
  rw [List.take_add_one, h, List.map_append, List.sum_append]
  simp
theorem cells_cutF (b e : Int) : ∀ (a : Int) (ps : List (Int × Int)), (∀ q ∈ ps, 0 ≤ q.1) →
    cells (cutF b e a ps) = ((cells ps).drop (b - a).toNat).take ((e - a).toNat - (b - a).toNat)
  | a, [], _ => by simp [cutF, cells]
  | a, p :: t, h => by
    have hp := h p List.mem_cons_self
    have ih := cells_cutF b e (a + p.1) t fun q hq => h q (List.mem_cons_of_mem _ hq)
    unfold cutF
    rw [cells_app, ih, cells_cons, List.drop_append, List.take_append, List.drop_replicate, List.take_replicate, List.length_replicate, List.length_replicate]
    congr 1
    · split
      · rw [cells_cons, cells_nil, List.append_nil]
        show List.replicate (min e (a + p.1) - max b a).toNat p.2 = _
        congr 1
        omega
      · have e0 : min ((e - a).toNat - (b - a).toNat) (p.1.toNat - (b - a).toNat) = 0 := by omega
        rw [e0]
        rfl
    · have e1 : (b - (a + p.1)).toNat = (b - a).toNat - p.1.toNat := by omega
      have e2 : (e - (a + p.1)).toNat - (b - (a + p.1)).toNat = (e - a).toNat - (b - a).toNat - (p.1.toNat - (b - a).toNat) := by omega
      rw [e2, e1]
theorem cells_cut {b e : Int} {ps : List (Int × Int)} (h : ∀ q ∈ ps, 0 ≤ q.1) :
    cells (cut b e ps) = ((cells ps).drop b.toNat).take (e.toNat - b.toNat) := by
  have k := cells_cutF b e 0 ps h
  rw [Int.sub_zero, Int.sub_zero] at k
  exact k
theorem cut_rle {b e : Int} {cs : List Int} : cells (cut b e (rle cs)) = (cs.drop b.toNat).take (e.toNat - b.toNat) := by
  rw [cells_cut fun q hq => Int.le_of_lt (rle_pos cs q hq), cells_rle]
theorem one_cell {ps : List (Int × Int)} {v : Int} (hp : ∀ q ∈ ps, 0 < q.1) (h : cells ps = [v]) : ps = [(1, v)] := by
  cases ps with
  | nil => cases h
  | cons p t =>
    have h0 := hp p List.mem_cons_self
    rw [cells_cons] at h
    have hl := congrArg List.length h
    rw [List.length_append, List.length_replicate, List.length_singleton] at hl
    have e1 : p.1.toNat = 1 := by omega
    have e2 : t = [] := by
      cases t with
      | nil => rfl
      | cons q u =>
        have h1 := hp q (List.mem_cons_of_mem _ List.mem_cons_self)
        rw [cells_cons, List.length_append, List.length_replicate] at hl
        omega
    rw [e1, e2, cells_nil, List.append_nil] at h
    cases h
    rw [e2]
    congr 1
    have e3 : p.1 = 1 := by omega
    rw [← e3]
theorem cut_at {cs : List Int} {c : Nat} {v : Int} (h : cs[c]? = some v) : cut c (c + 1) (rle cs) = [(1, v)] := by
  refine one_cell (cutF_pos _ _ _ _) ?_
  rw [cut_rle]
  obtain ⟨hc, e⟩ := List.getElem?_eq_some_iff.mp h
  have e1 : ((c : Int)).toNat = c := by omega
  have e2 : ((c : Int) + 1).toNat - c = 1 := by omega
  rw [e1, e2, List.drop_eq_getElem_cons hc, e]
  rfl
/-- laid over -/
def laid (cs : List Int) (b : Nat) (xs : List Int) (e : Nat) : List Int := cs.take b ++ xs ++ cs.drop e
theorem laid_rle {cs : List Int} {b e : Int} {ps : List (Int × Int)} :
    jnd (cut 0 b (rle cs) ++ ps ++ cut e cs.length (rle cs)) = rle (laid cs b.toNat (cells ps) e.toNat) := by
  rw [jnd_rle, cells_app, cells_app, cut_rle, cut_rle]
  unfold laid
  rw [List.take_of_length_le (l := cs.drop e.toNat) (by rw [List.length_drop]; omega)]
  rfl
theorem laid_len {cs xs : List Int} {b e : Nat} (h : b ≤ e) (he : e ≤ cs.length) (hx : xs.length = e - b) :
    (laid cs b xs e).length = cs.length := by
  unfold laid
  rw [List.length_append, List.length_append, List.length_take, List.length_drop, hx]
  omega
theorem cells_len : ∀ ps : List (Int × Int), (∀ q ∈ ps, 0 < q.1) → ((cells ps).length : Int) = wide ps
  | [], _ => rfl
  | p :: ps, h => by
    have ih := cells_len ps fun q hq => h q (List.mem_cons_of_mem _ hq)
    have hp := h p List.mem_cons_self
    rw [cells_cons, List.length_append, List.length_replicate]
    show ((p.1.toNat + (cells ps).length : Nat) : Int) = p.1 + wide ps
    omega

/-! ### numbers -/
def sp_is_number : Sp := fun vs H Q _ => ∃ n : Int, vs = [.int n] ∧ Q (.bl true) H
theorem sc_is_number : FnScope ["thing"] ["thing"] (defScope s_is_number) :=
  ⟨rfl, rfl, rfl, by decide +kernel, rfl, by decide +kernel, by decide +kernel⟩
theorem ok_is_number {P : Program} {w : World} {K : PySem.W.Frag} {mg : Str → Option Value} {base : Heap} (T : Txt K mg) :
    FnG P w K mg base 1 T.a_is_number T.d_is_number ["thing"] sp_is_number := by
  refine okD T.F_is_number sc_is_number (fun vs H Q E h => ?_) (fun cdv A outer s H vs Q E hr h => ?_)
  · first
      | (obtain ⟨_, rfl, _⟩ := h; rfl)
      | (obtain ⟨_, _, rfl, _⟩ := h; rfl)
      | (obtain ⟨_, _, _, rfl, _⟩ := h; rfl)
      | (obtain ⟨_, _, _, _, rfl, _⟩ := h; rfl)
      | (obtain ⟨_, _, _, _, _, rfl, _⟩ := h; rfl)
      | (obtain ⟨_, _, _, _, _, _, rfl, _⟩ := h; rfl)
      | (obtain ⟨_, _, _, _, _, _, _, rfl, _⟩ := h; rfl)
      | (obtain ⟨_, _, _, _, _, _, _, _, rfl, _⟩ := h; rfl)
      | (obtain ⟨_, _, _, _, _, _, _, _, _, rfl, _⟩ := h; rfl)
      | (obtain ⟨_, _, _, _, _, _, _, _, _, _, rfl, _⟩ := h; rfl)
      | (obtain ⟨_, _, _, _, _, _, _, _, _, _, _, rfl, _⟩ := h; rfl)
      | (obtain ⟨_, _, _, _, _, _, _, _, _, _, _, _, rfl, _⟩ := h; rfl)
      | (obtain ⟨_, _, _, _, _, _, _, _, _, _, _, _, _, rfl, _⟩ := h; rfl)
      | (obtain ⟨_, _, _, _, _, _, _, _, _, _, _, _, _, _, rfl, _⟩ := h; rfl)
      | (obtain ⟨_, _, _, _, _, _, _, _, _, _, _, _, _, _, _, rfl, _⟩ := h; rfl)
      | (obtain ⟨_, _, _, _, _, _, _, _, _, _, _, _, _, _, _, _, rfl, _⟩ := h; rfl)
      | (obtain ⟨_, _, _, _, _, _, _, _, _, _, _, _, _, _, _, _, _, rfl, _⟩ := h; rfl)
      | (obtain ⟨_, _, _, _, _, _, _, _, _, _, _, _, _, _, _, _, _, _, rfl, _⟩ := h; rfl)
      | (obtain ⟨_, _, _, _, _, _, _, _, _, _, _, _, _, _, _, _, _, _, _, rfl, _⟩ := h; rfl)
  · obtain ⟨n, rfl, k⟩ := h
    refine ⟨_, (pss_one (ps_ret (pe_and (pe_callB (k_isi (K := K) rfl) (by rfl) T.n_isinstance (by decide +kernel) (pa_cons (pv 0) (pa_cons (pe_bltn (v := .ty "int") (by rfl) T.n_int (by decide +kernel) rfl) pa_nil))) (pe_one (pe_not (pe_callB (k_isi (K := K) rfl) (by rfl) T.n_isinstance (by decide +kernel) (pa_cons (pv 0) (pa_cons (pe_bltn (v := .ty "bool") (by rfl) T.n_bool (by decide +kernel) rfl) pa_nil)))))))), ?_⟩
    dsimp only [cxOf, st_1, st_2, st_3, st_4, st_5, st_6, List.length_cons, List.length_nil, List.replicate_succ, List.replicate_zero, Nat.reduceAdd, Nat.reduceSub]
    walk_at "gs"
    refine i_isD (.int n) (show kitB "int" "int" = some true by decide +kernel) ?_
    walk_at "gs"
    refine i_isD (.int n) (show kitB "int" "bool" = some false by decide +kernel) ?_
    walk_at "gs"
    exact k
def sp_is_whole : Sp := fun vs H Q _ => ∃ n a b : Int, vs = [.int n, .int a, .int b] ∧ Q (.bl (decide (a ≤ n ∧ n ≤ b))) H
theorem sc_is_whole : FnScope ["thing", "least", "most"] ["thing", "least", "most"] (defScope s_is_whole) :=
  ⟨rfl, rfl, rfl, by decide +kernel, rfl, by decide +kernel, by decide +kernel⟩
theorem ok_is_whole {P : Program} {w : World} {K : PySem.W.Frag} {mg : Str → Option Value} {base : Heap} (T : Txt K mg) :
    FnG P w K mg base 2 T.a_is_whole T.d_is_whole ["thing", "least", "most"] sp_is_whole := by
  refine okD T.F_is_whole sc_is_whole (fun vs H Q E h => ?_) (fun cdv A outer s H vs Q E hr h => ?_)
  · first
      | (obtain ⟨_, rfl, _⟩ := h; rfl)
      | (obtain ⟨_, _, rfl, _⟩ := h; rfl)
      | (obtain ⟨_, _, _, rfl, _⟩ := h; rfl)
      | (obtain ⟨_, _, _, _, rfl, _⟩ := h; rfl)
      | (obtain ⟨_, _, _, _, _, rfl, _⟩ := h; rfl)
      | (obtain ⟨_, _, _, _, _, _, rfl, _⟩ := h; rfl)
      | (obtain ⟨_, _, _, _, _, _, _, rfl, _⟩ := h; rfl)
      | (obtain ⟨_, _, _, _, _, _, _, _, rfl, _⟩ := h; rfl)
      | (obtain ⟨_, _, _, _, _, _, _, _, _, rfl, _⟩ := h; rfl)
      | (obtain ⟨_, _, _, _, _, _, _, _, _, _, rfl, _⟩ := h; rfl)
      | (obtain ⟨_, _, _, _, _, _, _, _, _, _, _, rfl, _⟩ := h; rfl)
      | (obtain ⟨_, _, _, _, _, _, _, _, _, _, _, _, rfl, _⟩ := h; rfl)
      | (obtain ⟨_, _, _, _, _, _, _, _, _, _, _, _, _, rfl, _⟩ := h; rfl)
      | (obtain ⟨_, _, _, _, _, _, _, _, _, _, _, _, _, _, rfl, _⟩ := h; rfl)
      | (obtain ⟨_, _, _, _, _, _, _, _, _, _, _, _, _, _, _, rfl, _⟩ := h; rfl)
      | (obtain ⟨_, _, _, _, _, _, _, _, _, _, _, _, _, _, _, _, rfl, _⟩ := h; rfl)
      | (obtain ⟨_, _, _, _, _, _, _, _, _, _, _, _, _, _, _, _, _, rfl, _⟩ := h; rfl)
      | (obtain ⟨_, _, _, _, _, _, _, _, _, _, _, _, _, _, _, _, _, _, rfl, _⟩ := h; rfl)
      | (obtain ⟨_, _, _, _, _, _, _, _, _, _, _, _, _, _, _, _, _, _, _, rfl, _⟩ := h; rfl)
  · obtain ⟨n, a, b, rfl, k⟩ := h
    refine ⟨_, (pss_one (ps_ret (pe_and (d1 (ok_is_number T) (hr.mono (by decide)) (by rfl) T.m_is_number T.F_is_number.kp T.b_is_number passL (pa_cons (pv 0) pa_nil)) (pe_one (pe_chain op_le op_le (pv 1) (pv 0) (pv 2)))))), ?_⟩
    dsimp only [cxOf, st_1, st_2, st_3, st_4, st_5, st_6, List.length_cons, List.length_nil, List.replicate_succ, List.replicate_zero, Nat.reduceAdd, Nat.reduceSub]
    walk_at "gs"
    refine ⟨n, rfl, ?_⟩
    walk_at "gs"
    refine i_dec (fun c => ?_) (fun c => ?_)
    · walk_at "gs"
      have e : decide (n ≤ b) = decide (a ≤ n ∧ n ≤ b) := by simp only [c, true_and]
      rw [e]
      exact k
    · have e : false = decide (a ≤ n ∧ n ≤ b) := by simp only [c, false_and, decide_false]
      rw [e]
      exact k
def sp_is_size : Sp := fun vs H Q _ => ∃ n : Int, vs = [.int n] ∧ Q (.bl (decide (1 ≤ n ∧ n ≤ 1000000000000000000))) H
theorem sc_is_size : FnScope ["thing"] ["thing"] (defScope s_is_size) :=
  ⟨rfl, rfl, rfl, by decide +kernel, rfl, by decide +kernel, by decide +kernel⟩
theorem ok_is_size {P : Program} {w : World} {K : PySem.W.Frag} {mg : Str → Option Value} {base : Heap} (T : Txt K mg) :
    FnG P w K mg base 3 T.a_is_size T.d_is_size ["thing"] sp_is_size := by
  refine okD T.F_is_size sc_is_size (fun vs H Q E h => ?_) (fun cdv A outer s H vs Q E hr h => ?_)
  · first
      | (obtain ⟨_, rfl, _⟩ := h; rfl)
      | (obtain ⟨_, _, rfl, _⟩ := h; rfl)
      | (obtain ⟨_, _, _, rfl, _⟩ := h; rfl)
      | (obtain ⟨_, _, _, _, rfl, _⟩ := h; rfl)
      | (obtain ⟨_, _, _, _, _, rfl, _⟩ := h; rfl)
      | (obtain ⟨_, _, _, _, _, _, rfl, _⟩ := h; rfl)
      | (obtain ⟨_, _, _, _, _, _, _, rfl, _⟩ := h; rfl)
      | (obtain ⟨_, _, _, _, _, _, _, _, rfl, _⟩ := h; rfl)
      | (obtain ⟨_, _, _, _, _, _, _, _, _, rfl, _⟩ := h; rfl)
      | (obtain ⟨_, _, _, _, _, _, _, _, _, _, rfl, _⟩ := h; rfl)
      | (obtain ⟨_, _, _, _, _, _, _, _, _, _, _, rfl, _⟩ := h; rfl)
      | (obtain ⟨_, _, _, _, _, _, _, _, _, _, _, _, rfl, _⟩ := h; rfl)
      | (obtain ⟨_, _, _, _, _, _, _, _, _, _, _, _, _, rfl, _⟩ := h; rfl)
      | (obtain ⟨_, _, _, _, _, _, _, _, _, _, _, _, _, _, rfl, _⟩ := h; rfl)
      | (obtain ⟨_, _, _, _, _, _, _, _, _, _, _, _, _, _, _, rfl, _⟩ := h; rfl)
      | (obtain ⟨_, _, _, _, _, _, _, _, _, _, _, _, _, _, _, _, rfl, _⟩ := h; rfl)
      | (obtain ⟨_, _, _, _, _, _, _, _, _, _, _, _, _, _, _, _, _, rfl, _⟩ := h; rfl)
      | (obtain ⟨_, _, _, _, _, _, _, _, _, _, _, _, _, _, _, _, _, _, rfl, _⟩ := h; rfl)
      | (obtain ⟨_, _, _, _, _, _, _, _, _, _, _, _, _, _, _, _, _, _, _, rfl, _⟩ := h; rfl)
  · obtain ⟨n, rfl, k⟩ := h
    refine ⟨_, (pss_one (ps_ret (d1 (ok_is_whole T) (hr.mono (by decide)) (by rfl) T.m_is_whole T.F_is_whole.kp T.b_is_whole passL (pa_cons (pv 0) (pa_cons pe_int (pa_cons (pe_glob (v := V.int 1000000000000000000) rfl T.g_LARGEST ⟨_, rfl⟩) pa_nil)))))), ?_⟩
    dsimp only [cxOf, st_1, st_2, st_3, st_4, st_5, st_6, List.length_cons, List.length_nil, List.replicate_succ, List.replicate_zero, Nat.reduceAdd, Nat.reduceSub]
    walk_at "gs"
    exact ⟨n, 1, _, rfl, k⟩
def sp_want_number : Sp := fun vs H Q _ => ∃ n : Int, vs = [.int n] ∧ Q .non H
theorem sc_want_number : FnScope ["thing"] ["thing"] (defScope s_want_number) :=
  ⟨rfl, rfl, rfl, by decide +kernel, rfl, by decide +kernel, by decide +kernel⟩
theorem ok_want_number {P : Program} {w : World} {K : PySem.W.Frag} {mg : Str → Option Value} {base : Heap} (T : Txt K mg) :
    FnG P w K mg base 2 T.a_want_number T.d_want_number ["thing"] sp_want_number := by
  refine okD T.F_want_number sc_want_number (fun vs H Q E h => ?_) (fun cdv A outer s H vs Q E hr h => ?_)
  · first
      | (obtain ⟨_, rfl, _⟩ := h; rfl)
      | (obtain ⟨_, _, rfl, _⟩ := h; rfl)
      | (obtain ⟨_, _, _, rfl, _⟩ := h; rfl)
      | (obtain ⟨_, _, _, _, rfl, _⟩ := h; rfl)
      | (obtain ⟨_, _, _, _, _, rfl, _⟩ := h; rfl)
      | (obtain ⟨_, _, _, _, _, _, rfl, _⟩ := h; rfl)
      | (obtain ⟨_, _, _, _, _, _, _, rfl, _⟩ := h; rfl)
      | (obtain ⟨_, _, _, _, _, _, _, _, rfl, _⟩ := h; rfl)
      | (obtain ⟨_, _, _, _, _, _, _, _, _, rfl, _⟩ := h; rfl)
      | (obtain ⟨_, _, _, _, _, _, _, _, _, _, rfl, _⟩ := h; rfl)
      | (obtain ⟨_, _, _, _, _, _, _, _, _, _, _, rfl, _⟩ := h; rfl)
      | (obtain ⟨_, _, _, _, _, _, _, _, _, _, _, _, rfl, _⟩ := h; rfl)
      | (obtain ⟨_, _, _, _, _, _, _, _, _, _, _, _, _, rfl, _⟩ := h; rfl)
      | (obtain ⟨_, _, _, _, _, _, _, _, _, _, _, _, _, _, rfl, _⟩ := h; rfl)
      | (obtain ⟨_, _, _, _, _, _, _, _, _, _, _, _, _, _, _, rfl, _⟩ := h; rfl)
      | (obtain ⟨_, _, _, _, _, _, _, _, _, _, _, _, _, _, _, _, rfl, _⟩ := h; rfl)
      | (obtain ⟨_, _, _, _, _, _, _, _, _, _, _, _, _, _, _, _, _, rfl, _⟩ := h; rfl)
      | (obtain ⟨_, _, _, _, _, _, _, _, _, _, _, _, _, _, _, _, _, _, rfl, _⟩ := h; rfl)
      | (obtain ⟨_, _, _, _, _, _, _, _, _, _, _, _, _, _, _, _, _, _, _, rfl, _⟩ := h; rfl)
  · obtain ⟨n, rfl, k⟩ := h
    refine ⟨_, (pss_one (ps_if (pt_not (pt_val (d1 (ok_is_number T) (hr.mono (by decide)) (by rfl) T.m_is_number T.F_is_number.kp T.b_is_number passL (pa_cons (pv 0) pa_nil)))) (pss_one ps_never) pss_nil)), ?_⟩
    dsimp only [cxOf, st_1, st_2, st_3, st_4, st_5, st_6, List.length_cons, List.length_nil, List.replicate_succ, List.replicate_zero, Nat.reduceAdd, Nat.reduceSub]
    walk_at "gs"
    refine ⟨n, rfl, ?_⟩
    walk_at "gs"
    exact k
/-! ### what refuses -/
def sp_want_size (X : Addr) : Sp := fun vs H Q E => ∃ n : Int, vs = [.int n] ∧ ((1 ≤ n ∧ n ≤ 1000000000000000000) → Q .non H) ∧ (¬(1 ≤ n ∧ n ≤ 1000000000000000000) → E (.ref X) none H)
theorem sc_want_size : FnScope ["thing"] ["thing"] (defScope s_want_size) :=
  ⟨rfl, rfl, rfl, by decide +kernel, rfl, by decide +kernel, by decide +kernel⟩
theorem ok_want_size {P : Program} {w : World} {K : PySem.W.Frag} {mg : Str → Option Value} {base : Heap} (T : Txt K mg) :
    FnG P w K mg base 4 T.a_want_size T.d_want_size ["thing"] (sp_want_size T.x_NoSize) := by
  refine okD T.F_want_size sc_want_size (fun vs H Q E h => ?_) (fun cdv A outer s H vs Q E hr h => ?_)
  · first
      | (obtain ⟨_, rfl, _⟩ := h; rfl)
      | (obtain ⟨_, _, rfl, _⟩ := h; rfl)
      | (obtain ⟨_, _, _, rfl, _⟩ := h; rfl)
      | (obtain ⟨_, _, _, _, rfl, _⟩ := h; rfl)
      | (obtain ⟨_, _, _, _, _, rfl, _⟩ := h; rfl)
      | (obtain ⟨_, _, _, _, _, _, rfl, _⟩ := h; rfl)
      | (obtain ⟨_, _, _, _, _, _, _, rfl, _⟩ := h; rfl)
      | (obtain ⟨_, _, _, _, _, _, _, _, rfl, _⟩ := h; rfl)
      | (obtain ⟨_, _, _, _, _, _, _, _, _, rfl, _⟩ := h; rfl)
      | (obtain ⟨_, _, _, _, _, _, _, _, _, _, rfl, _⟩ := h; rfl)
      | (obtain ⟨_, _, _, _, _, _, _, _, _, _, _, rfl, _⟩ := h; rfl)
      | (obtain ⟨_, _, _, _, _, _, _, _, _, _, _, _, rfl, _⟩ := h; rfl)
      | (obtain ⟨_, _, _, _, _, _, _, _, _, _, _, _, _, rfl, _⟩ := h; rfl)
      | (obtain ⟨_, _, _, _, _, _, _, _, _, _, _, _, _, _, rfl, _⟩ := h; rfl)
      | (obtain ⟨_, _, _, _, _, _, _, _, _, _, _, _, _, _, _, rfl, _⟩ := h; rfl)
      | (obtain ⟨_, _, _, _, _, _, _, _, _, _, _, _, _, _, _, _, rfl, _⟩ := h; rfl)
      | (obtain ⟨_, _, _, _, _, _, _, _, _, _, _, _, _, _, _, _, _, rfl, _⟩ := h; rfl)
      | (obtain ⟨_, _, _, _, _, _, _, _, _, _, _, _, _, _, _, _, _, _, rfl, _⟩ := h; rfl)
      | (obtain ⟨_, _, _, _, _, _, _, _, _, _, _, _, _, _, _, _, _, _, _, rfl, _⟩ := h; rfl)
  · obtain ⟨n, rfl, k, r⟩ := h
    refine ⟨_, (pss_one (ps_if (pt_not (pt_val (d1 (ok_is_size T) (hr.mono (by decide)) (by rfl) T.m_is_size T.F_is_size.kp T.b_is_size passL (pa_cons (pv 0) pa_nil)))) (pss_one (ps_raise rfl (takes_of rfl rfl rfl rfl) (pmk_own PySem.F.excBase_ValueError T.en_NoSize T.mx_NoSize T.ek_NoSize (raises_own T.ec_NoSize.hs T.et_NoSize) rfl))) pss_nil)), ?_⟩
    dsimp only [cxOf, st_1, st_2, st_3, st_4, st_5, st_6, List.length_cons, List.length_nil, List.replicate_succ, List.replicate_zero, Nat.reduceAdd, Nat.reduceSub]
    walk_at "gs"
    refine ⟨n, rfl, ?_⟩
    walk_at "gs"
    refine i_decN (fun c => ?_) (fun c => ?_)
    · walk_at "gs"
      exact r c
    · walk_at "gs"
      exact k c
def sp_want_cell (X : Addr) : Sp := fun vs H Q E => ∃ c n : Int, vs = [.int c, .int n] ∧ ((0 ≤ c ∧ c < n) → Q .non H) ∧ (¬(0 ≤ c ∧ c < n) → E (.ref X) none H)
theorem sc_want_cell : FnScope ["thing", "size"] ["thing", "size"] (defScope s_want_cell) :=
  ⟨rfl, rfl, rfl, by decide +kernel, rfl, by decide +kernel, by decide +kernel⟩
theorem ok_want_cell {P : Program} {w : World} {K : PySem.W.Frag} {mg : Str → Option Value} {base : Heap} (T : Txt K mg) :
    FnG P w K mg base 3 T.a_want_cell T.d_want_cell ["thing", "size"] (sp_want_cell T.x_NoCell) := by
  refine okD T.F_want_cell sc_want_cell (fun vs H Q E h => ?_) (fun cdv A outer s H vs Q E hr h => ?_)
  · first
      | (obtain ⟨_, rfl, _⟩ := h; rfl)
      | (obtain ⟨_, _, rfl, _⟩ := h; rfl)
      | (obtain ⟨_, _, _, rfl, _⟩ := h; rfl)
      | (obtain ⟨_, _, _, _, rfl, _⟩ := h; rfl)
      | (obtain ⟨_, _, _, _, _, rfl, _⟩ := h; rfl)
      | (obtain ⟨_, _, _, _, _, _, rfl, _⟩ := h; rfl)
      | (obtain ⟨_, _, _, _, _, _, _, rfl, _⟩ := h; rfl)
      | (obtain ⟨_, _, _, _, _, _, _, _, rfl, _⟩ := h; rfl)
      | (obtain ⟨_, _, _, _, _, _, _, _, _, rfl, _⟩ := h; rfl)
      | (obtain ⟨_, _, _, _, _, _, _, _, _, _, rfl, _⟩ := h; rfl)
      | (obtain ⟨_, _, _, _, _, _, _, _, _, _, _, rfl, _⟩ := h; rfl)
      | (obtain ⟨_, _, _, _, _, _, _, _, _, _, _, _, rfl, _⟩ := h; rfl)
      | (obtain ⟨_, _, _, _, _, _, _, _, _, _, _, _, _, rfl, _⟩ := h; rfl)
      | (obtain ⟨_, _, _, _, _, _, _, _, _, _, _, _, _, _, rfl, _⟩ := h; rfl)
      | (obtain ⟨_, _, _, _, _, _, _, _, _, _, _, _, _, _, _, rfl, _⟩ := h; rfl)
      | (obtain ⟨_, _, _, _, _, _, _, _, _, _, _, _, _, _, _, _, rfl, _⟩ := h; rfl)
      | (obtain ⟨_, _, _, _, _, _, _, _, _, _, _, _, _, _, _, _, _, rfl, _⟩ := h; rfl)
      | (obtain ⟨_, _, _, _, _, _, _, _, _, _, _, _, _, _, _, _, _, _, rfl, _⟩ := h; rfl)
      | (obtain ⟨_, _, _, _, _, _, _, _, _, _, _, _, _, _, _, _, _, _, _, rfl, _⟩ := h; rfl)
  · obtain ⟨c, n, rfl, k, r⟩ := h
    refine ⟨_, (pss_one (ps_if (pt_not (pt_val (d1 (ok_is_whole T) (hr.mono (by decide)) (by rfl) T.m_is_whole T.F_is_whole.kp T.b_is_whole passL (pa_cons (pv 0) (pa_cons pe_int (pa_cons (pe_op op_sub (pv 1) pe_int) pa_nil)))))) (pss_one (ps_raise rfl (takes_of rfl rfl rfl rfl) (pmk_own PySem.F.excBase_ValueError T.en_NoCell T.mx_NoCell T.ek_NoCell (raises_own T.ec_NoCell.hs T.et_NoCell) rfl))) pss_nil)), ?_⟩
    dsimp only [cxOf, st_1, st_2, st_3, st_4, st_5, st_6, List.length_cons, List.length_nil, List.replicate_succ, List.replicate_zero, Nat.reduceAdd, Nat.reduceSub]
    walk_at "gs"
    refine ⟨c, 0, n - 1, rfl, ?_⟩
    walk_at "gs"
    refine i_decN (fun d => ?_) (fun d => ?_)
    · walk_at "gs"
      exact r (by omega)
    · walk_at "gs"
      exact k (by omega)
def sp_want_stretch (X : Addr) : Sp := fun vs H Q E => ∃ b e n : Int, vs = [.int b, .int e, .int n] ∧ ((0 ≤ b ∧ b ≤ e ∧ e ≤ n) → Q .non H) ∧ (¬(0 ≤ b ∧ b ≤ e ∧ e ≤ n) → E (.ref X) none H)
theorem sc_want_stretch : FnScope ["begin", "end", "size"] ["begin", "end", "size"] (defScope s_want_stretch) :=
  ⟨rfl, rfl, rfl, by decide +kernel, rfl, by decide +kernel, by decide +kernel⟩
theorem ok_want_stretch {P : Program} {w : World} {K : PySem.W.Frag} {mg : Str → Option Value} {base : Heap} (T : Txt K mg) :
    FnG P w K mg base 3 T.a_want_stretch T.d_want_stretch ["begin", "end", "size"] (sp_want_stretch T.x_NoStretch) := by
  refine okD T.F_want_stretch sc_want_stretch (fun vs H Q E h => ?_) (fun cdv A outer s H vs Q E hr h => ?_)
  · first
      | (obtain ⟨_, rfl, _⟩ := h; rfl)
      | (obtain ⟨_, _, rfl, _⟩ := h; rfl)
      | (obtain ⟨_, _, _, rfl, _⟩ := h; rfl)
      | (obtain ⟨_, _, _, _, rfl, _⟩ := h; rfl)
      | (obtain ⟨_, _, _, _, _, rfl, _⟩ := h; rfl)
      | (obtain ⟨_, _, _, _, _, _, rfl, _⟩ := h; rfl)
      | (obtain ⟨_, _, _, _, _, _, _, rfl, _⟩ := h; rfl)
      | (obtain ⟨_, _, _, _, _, _, _, _, rfl, _⟩ := h; rfl)
      | (obtain ⟨_, _, _, _, _, _, _, _, _, rfl, _⟩ := h; rfl)
      | (obtain ⟨_, _, _, _, _, _, _, _, _, _, rfl, _⟩ := h; rfl)
      | (obtain ⟨_, _, _, _, _, _, _, _, _, _, _, rfl, _⟩ := h; rfl)
      | (obtain ⟨_, _, _, _, _, _, _, _, _, _, _, _, rfl, _⟩ := h; rfl)
      | (obtain ⟨_, _, _, _, _, _, _, _, _, _, _, _, _, rfl, _⟩ := h; rfl)
      | (obtain ⟨_, _, _, _, _, _, _, _, _, _, _, _, _, _, rfl, _⟩ := h; rfl)
      | (obtain ⟨_, _, _, _, _, _, _, _, _, _, _, _, _, _, _, rfl, _⟩ := h; rfl)
      | (obtain ⟨_, _, _, _, _, _, _, _, _, _, _, _, _, _, _, _, rfl, _⟩ := h; rfl)
      | (obtain ⟨_, _, _, _, _, _, _, _, _, _, _, _, _, _, _, _, _, rfl, _⟩ := h; rfl)
      | (obtain ⟨_, _, _, _, _, _, _, _, _, _, _, _, _, _, _, _, _, _, rfl, _⟩ := h; rfl)
      | (obtain ⟨_, _, _, _, _, _, _, _, _, _, _, _, _, _, _, _, _, _, _, rfl, _⟩ := h; rfl)
  · obtain ⟨b, e, n, rfl, k, r⟩ := h
    refine ⟨_, (pss_one (ps_if (PW.pt (pw_or (pt_not (pt_val (d1 (ok_is_whole T) (hr.mono (by decide)) (by rfl) T.m_is_whole T.F_is_whole.kp T.b_is_whole passL (pa_cons (pv 0) (pa_cons pe_int (pa_cons (pv 2) pa_nil)))))) (pw_or1 (pt_not (pt_val (d1 (ok_is_whole T) (hr.mono (by decide)) (by rfl) T.m_is_whole T.F_is_whole.kp T.b_is_whole passL (pa_cons (pv 1) (pa_cons (pv 0) (pa_cons (pv 2) pa_nil))))))))) (pss_one (ps_raise rfl (takes_of rfl rfl rfl rfl) (pmk_own PySem.F.excBase_ValueError T.en_NoStretch T.mx_NoStretch T.ek_NoStretch (raises_own T.ec_NoStretch.hs T.et_NoStretch) rfl))) pss_nil)), ?_⟩
    dsimp only [cxOf, st_1, st_2, st_3, st_4, st_5, st_6, List.length_cons, List.length_nil, List.replicate_succ, List.replicate_zero, Nat.reduceAdd, Nat.reduceSub]
    walk_at "gs"
    refine ⟨b, 0, n, rfl, ?_⟩
    walk_at "gs"
    refine i_decN (fun d => ?_) (fun d => ?_)
    · walk_at "gs"
      exact r (by omega)
    walk_at "gs"
    refine ⟨e, b, n, rfl, ?_⟩
    walk_at "gs"
    refine i_decN (fun d2 => ?_) (fun d2 => ?_)
    · walk_at "gs"
      exact r (by omega)
    · walk_at "gs"
      exact k (by omega)
--%%M
local macro_rules | `(tactic| walk_at "g_own") => `(tactic| first
  | (with_reducible refine i_callX0 ?_)
  | (with_reducible refine i_callX ?_))
--%%E

/-! ### cutting out -/
def sp_cut_out (K : PySem.W.Frag) : Sp := fun vs H Q _ => ∃ (a : Addr) (b e : Int) (ps : List (Int × Int)),
  vs = [.ref a, .int b, .int e] ∧ Dp K H (.ref a) (.list (ps.map d2)) ∧ ps.length ≤ 100000 ∧
  ∀ l H', Fr H l → Kp [] H H' → LD K H' l ((cut b e ps).map d2) → Q (.ref l) H'
theorem sc_cut_out : FnScope ["pairs", "begin", "end", "found", "at", "many", "number", "low", "high"] ["pairs", "begin", "end"] (defScope s_cut_out) :=
  ⟨rfl, rfl, rfl, by decide +kernel, rfl, by decide +kernel, by decide +kernel⟩
theorem ok_cut_out {P : Program} {w : World} {K : PySem.W.Frag} {mg : Str → Option Value} {base : Heap} (T : Txt K mg) :
    FnG P w K mg base 1 T.a_cut_out T.d_cut_out ["pairs", "begin", "end"] (sp_cut_out K) := by
  refine okD T.F_cut_out sc_cut_out (fun vs H Q E h => ?_) (fun cdv A outer s H vs Q E hr h => ?_)
  · first
      | (obtain ⟨_, rfl, _⟩ := h; rfl)
      | (obtain ⟨_, _, rfl, _⟩ := h; rfl)
      | (obtain ⟨_, _, _, rfl, _⟩ := h; rfl)
      | (obtain ⟨_, _, _, _, rfl, _⟩ := h; rfl)
      | (obtain ⟨_, _, _, _, _, rfl, _⟩ := h; rfl)
      | (obtain ⟨_, _, _, _, _, _, rfl, _⟩ := h; rfl)
      | (obtain ⟨_, _, _, _, _, _, _, rfl, _⟩ := h; rfl)
      | (obtain ⟨_, _, _, _, _, _, _, _, rfl, _⟩ := h; rfl)
      | (obtain ⟨_, _, _, _, _, _, _, _, _, rfl, _⟩ := h; rfl)
      | (obtain ⟨_, _, _, _, _, _, _, _, _, _, rfl, _⟩ := h; rfl)
      | (obtain ⟨_, _, _, _, _, _, _, _, _, _, _, rfl, _⟩ := h; rfl)
      | (obtain ⟨_, _, _, _, _, _, _, _, _, _, _, _, rfl, _⟩ := h; rfl)
      | (obtain ⟨_, _, _, _, _, _, _, _, _, _, _, _, _, rfl, _⟩ := h; rfl)
      | (obtain ⟨_, _, _, _, _, _, _, _, _, _, _, _, _, _, rfl, _⟩ := h; rfl)
      | (obtain ⟨_, _, _, _, _, _, _, _, _, _, _, _, _, _, _, rfl, _⟩ := h; rfl)
      | (obtain ⟨_, _, _, _, _, _, _, _, _, _, _, _, _, _, _, _, rfl, _⟩ := h; rfl)
      | (obtain ⟨_, _, _, _, _, _, _, _, _, _, _, _, _, _, _, _, _, rfl, _⟩ := h; rfl)
      | (obtain ⟨_, _, _, _, _, _, _, _, _, _, _, _, _, _, _, _, _, _, rfl, _⟩ := h; rfl)
      | (obtain ⟨_, _, _, _, _, _, _, _, _, _, _, _, _, _, _, _, _, _, _, rfl, _⟩ := h; rfl)
  · obtain ⟨a, b, e, ps, rfl, ha, hps, k⟩ := h
    cases ha
    rename_i xs hsq hall
    have hlen := dpa_len hall
    rw [List.length_map] at hlen
    have cl_Memory := T.cl_Memory
    have na_Memory_pairs := T.na_Memory_pairs
    have na_Memory_wide := T.na_Memory_wide
    refine ⟨_, (pss_cons (ps_set (i := 3) sc_cut_out.nd rfl (Or.inl rfl) (pe_lst pa_nil))
      (pss_cons (ps_set (i := 4) sc_cut_out.nd rfl (Or.inl rfl) pe_int)
      (pss_cons (ps_for (passes_of rfl) rfl (k_plist (K := K) rfl (pv 0)) (k_gtup (K := K) 2 rfl rfl (pgs_cons (pg_name (i := 5) sc_cut_out.nd rfl (Or.inl rfl)) (pgs_cons (pg_name (i := 6) sc_cut_out.nd rfl (Or.inl rfl)) pgs_nil)))
      (pss_cons (ps_par (i := 7) (j := 8) (by rfl) sc_cut_out.nd rfl rfl (by decide) rfl rfl (pa_cons (pe_callB (c_max2 rfl) (by rfl) T.n_max (by decide +kernel) (pa_cons (pv 1) (pa_cons (pv 4) pa_nil))) (pa_cons (pe_callB (c_min2 rfl) (by rfl) T.n_min (by decide +kernel) (pa_cons (pv 2) (pa_cons (pe_op (k_add (K := K) rfl) (pv 4) (pv 5)) pa_nil))) pa_nil)) (by rfl))
      (pss_cons (ps_if (pt_cmpR op_lt (pv 7) (pv 8) (nomark _)) (pss_one (ps_expr (pe_bm PySem.F.plainAttrs_list PySem.F.slot_list_append PySem.F.type_list_append mt_append (pv 3) (pa_cons (pe_tup (pa_cons (pe_op op_sub (pv 8) (pv 7)) (pa_cons (pv 6) pa_nil))) pa_nil)))) pss_nil)
      (pss_one (ps_aug (i := 4) sc_cut_out.nd rfl (Or.inl rfl) (pv 5) ip_add)))))
      (pss_one (ps_ret (pv 3)))))), ?_⟩
    dsimp only [cxOf, st_1, st_2, st_3, st_4, st_5, st_6, List.length_cons, List.length_nil, List.replicate_succ, List.replicate_zero, Nat.reduceAdd, Nat.reduceSub]
    walk_at "gs"
    refine i_new fun l hl => ?_
    walk_at "gs"
    refine i_each ((Kp.new hl).seqL (ws := []) List.not_mem_nil hsq) (fun i σ H' => ∃ u v w x, σ = [some (.ref a), some (.int b), some (.int e), some (.ref l), some (.int (wide (ps.take i))), u, v, w, x] ∧ Kp [] H H' ∧
      LD K H' l ((cut b e (ps.take i)).map d2)) ?_ ?_ ?_ ?_
    · exact ⟨none, none, none, none, rfl, Kp.new hl, ⟨[], upd_same, .nil⟩⟩
    · rintro i σ H' _ ⟨u, v, w, x, rfl, kp, ld⟩
      exact kp.seqL List.not_mem_nil hsq
    · rintro i x σ H' hx ⟨u, v, w, y, rfl, kp, ld⟩
      obtain ⟨d, hd, hdp⟩ := dpa_getV hall hx
      obtain ⟨p, hp, rfl⟩ := map_get hd
      obtain ⟨pa, rfl, hpt⟩ := dp_pair hdp
      replace hpt := kp.seqT hpt
      obtain ⟨vs, hvs, hall2⟩ := id ld
      have hvl := dpa_len hall2
      rw [List.length_map] at hvl
      have hcl := cut_len b e (ps.take i)
      rw [List.length_take] at hcl
      have hil : i < ps.length := (List.getElem?_eq_some_iff.mp hp).1
      walk_at "gs"
      refine i_dec (fun c => ?_) (fun c => ?_)
      · walk_at "gs"
        refine i_new fun t ht => ?_
        walk_at "gs"
        rw [wide_take hp, cut_take hp, if_pos c, List.map_append]
        refine ⟨_, _, _, _, rfl, by walk_at "g_kp", ?_⟩
        exact ld_push (ws := [l]) (H0 := H') (by walk_at "g_kp") hall2 (imms_d2 _) upd_same (dp_mk2 (m := min e (wide (ps.take i) + p.1) - max b (wide (ps.take i))) (n := p.2) (by walk_at "g_st"))
      · walk_at "gs"
        rw [wide_take hp, cut_take hp, if_neg c, List.append_nil]
        exact ⟨_, _, _, _, rfl, kp, ld⟩
    · rintro σ H' ⟨u, v, w, x, rfl, kp, ld⟩
      walk_at "gs"
      rw [List.take_of_length_le (by omega)] at ld
      exact k l H' hl kp ld

/-! ### comprehensions that change nothing -/
theorem dpa_tail {K : PySem.W.Frag} {H : Hp} : ∀ {ds : List PyData} {vs : List V}, DpAll K H vs ds → DpAll K H vs.tail ds.tail
  | [], _, h => by cases h; exact .nil
  | _ :: _, _, h => by
    cases h with
    | cons _ h2 => exact h2
section
variable {K : PySem.W.Frag} {σ : L2.St} {H : Hp} {Q : VK} {a b : Addr} {xs ys us : List V} {g : TG} {te : TE} {vs : List Nat} {ds : List PyData}
theorem i_mapL (hs : SqL K H a xs) (ys : List V) (hl : ys.length = xs.length) (hz : xs.length ≤ 1000000)
    (st : ∀ (D : Addr) (i : Nat) (x y : V) (H' : Hp) (Q' : VK), Fr H D → xs[i]? = some x → ys[i]? = some y → Kp [] H H' → (∀ H4, Kp [] H' H4 → Q' y H4) →
      g x (wipe σ vs) H' fun σ2 H2 => wipe σ2 vs = wipe σ vs ∧ te σ2 H2 Q')
    (hd : ∀ D H', Fr H D → Kp [] H H' → H' D = some (.lst ys) → Q (.ref D) H') : LcL K (.ref a) g tYes te vs σ H Q := by
  refine i_elts hs (fun D i H' => Kp [] H H' ∧ H' D = some (.lst (ys.take i))) (fun D fD => ⟨Kp.new fD, by rw [List.take_zero]; exact upd_same⟩)
    (fun D i H' _ _ z => z.1.seqL not_nil hs) ?_ ?_
  · rintro D i x H' fD hx ⟨k, e⟩
    have hi := (List.getElem?_eq_some_iff.mp hx).1
    obtain ⟨y, hy⟩ : ∃ y, ys[i]? = some y := ⟨_, List.getElem?_eq_getElem (by omega)⟩
    have q := st D i x y H' (fun y' H4 => ∃ acc, H4 D = some (.lst acc) ∧ acc.length < sizeLine ∧
      (Kp [] H (upd H4 D (.lst (acc ++ [y']))) ∧ upd H4 D (.lst (acc ++ [y'])) D = some (.lst (ys.take (i + 1))))) fD hx hy k (fun H4 k4 => by
        refine ⟨_, k4.at_ _ _ e not_nil, small_sz (by rw [List.length_take]; omega), Kp.upd (Kp.trans k k4) fD, ?_⟩
        rw [List.take_add_one, hy]
        exact upd_same)
    exact q
  · rintro D H' fD ⟨k, e⟩
    rw [List.take_of_length_le (by omega)] at e
    exact hd D H' fD k e
theorem i_mapD (hs : SqL K H a xs) (ds : List PyData) (hi : imms ds = true) (hl : ds.length = xs.length) (hz : xs.length ≤ 1000000)
    (st : ∀ (D : Addr) (i : Nat) (x : V) (d : PyData) (H' : Hp) (Q' : VK), Fr H D → xs[i]? = some x → ds[i]? = some d → Kp [] H H' → (∀ y H4, Kp [] H' H4 → Dp K H4 y d → Q' y H4) →
      g x (wipe σ vs) H' fun σ2 H2 => wipe σ2 vs = wipe σ vs ∧ te σ2 H2 Q')
    (hd : ∀ D H', Fr H D → Kp [] H H' → LD K H' D ds → Q (.ref D) H') : LcL K (.ref a) g tYes te vs σ H Q := by
  have imt : ∀ (l : List PyData) i, imms l = true → imms (l.take i) = true := by
    intro l
    induction l with
    | nil => intro i h; rw [List.take_nil]; rfl
    | cons d l ih =>
      intro i h
      simp only [imms, Bool.and_eq_true] at h
      cases i with
      | zero => rfl
      | succ i =>
        rw [List.take_succ_cons]
        simp only [imms, Bool.and_eq_true]
        exact ⟨h.1, ih i h.2⟩
  have img : ∀ (l : List PyData) (i : Nat) (d : PyData), imms l = true → l[i]? = some d → imm d = true := by
    intro l
    induction l with
    | nil => intro i d _ e; cases e
    | cons d0 l ih =>
      intro i d h e
      simp only [imms, Bool.and_eq_true] at h
      cases i with
      | zero => cases e; exact h.1
      | succ i => exact ih i d h.2 e
  refine i_elts hs (fun D i H' => Kp [] H H' ∧ LD K H' D (ds.take i)) (fun D fD => ⟨Kp.new fD, [], upd_same, by rw [List.take_zero]; exact .nil⟩)
    (fun D i H' _ _ z => z.1.seqL not_nil hs) ?_ ?_
  · rintro D i x H' fD hx ⟨k, ld⟩
    have hi2 := (List.getElem?_eq_some_iff.mp hx).1
    obtain ⟨d, hd2⟩ : ∃ d, ds[i]? = some d := ⟨_, List.getElem?_eq_getElem (by omega)⟩
    have q := st D i x d H' (fun y' H4 => ∃ acc, H4 D = some (.lst acc) ∧ acc.length < sizeLine ∧
      (Kp [] H (upd H4 D (.lst (acc ++ [y']))) ∧ LD K (upd H4 D (.lst (acc ++ [y']))) D (ds.take (i + 1)))) fD hx hd2 k (fun y H4 k4 hy => by
        obtain ⟨acc, e, ha⟩ := ld.kp k4 (imt _ _ hi) not_nil
        have hl2 := dpa_len ha
        rw [List.length_take] at hl2
        refine ⟨acc, e, small_sz (by omega), Kp.upd (Kp.trans k k4) fD, ?_⟩
        rw [List.take_add_one, hd2]
        exact ld_app ha e (imt _ _ hi) hy (img _ _ _ hi hd2))
    exact q
  · rintro D H' fD ⟨k, ld⟩
    rw [List.take_of_length_le (by omega)] at ld
    exact hd D H' fD k ld
theorem i_mapZ (hx : SqL K H a xs) (hy : SqL K H b us) (ys : List V) (hl : ys.length = min xs.length us.length) (hz : ys.length ≤ 1000000)
    (st : ∀ (D : Addr) (i : Nat) (x u y : V) (T : Addr) (H' : Hp) (Q' : VK), Fr H D → xs[i]? = some x → us[i]? = some u → ys[i]? = some y → Kp [] H H' → Fr H' T → (∀ H4, Kp [] H' H4 → Q' y H4) →
      g (.ref T) (wipe σ vs) (upd H' T (.tup [x, u])) fun σ2 H2 => wipe σ2 vs = wipe σ vs ∧ te σ2 H2 Q')
    (hd : ∀ D H', Fr H D → Kp [] H H' → H' D = some (.lst ys) → Q (.ref D) H') : LcZ K [.ref a, .ref b] g tYes te vs σ H Q := by
  refine i_eltz hx hy (fun D i H' => Kp [] H H' ∧ H' D = some (.lst (ys.take i))) (fun D fD => ⟨Kp.new fD, by rw [List.take_zero]; exact upd_same⟩)
    (fun D i H' _ z => ⟨z.1.seqL not_nil hx, z.1.seqL not_nil hy⟩) ?_ ?_
  · rintro D i x u T H' fD hx2 hu ⟨k, e⟩ fT
    have h1 := (List.getElem?_eq_some_iff.mp hx2).1
    have h2 := (List.getElem?_eq_some_iff.mp hu).1
    obtain ⟨y, hy⟩ : ∃ y, ys[i]? = some y := ⟨_, List.getElem?_eq_getElem (by omega)⟩
    have q := st D i x u y T H' (fun y' H4 => ∃ acc, H4 D = some (.lst acc) ∧ acc.length < sizeLine ∧
      (Kp [] H (upd H4 D (.lst (acc ++ [y']))) ∧ upd H4 D (.lst (acc ++ [y'])) D = some (.lst (ys.take (i + 1))))) fD hx2 hu hy k fT (fun H4 k4 => by
        refine ⟨_, k4.at_ _ _ e not_nil, small_sz (by rw [List.length_take]; omega), Kp.upd (Kp.trans k k4) fD, ?_⟩
        rw [List.take_add_one, hy]
        exact upd_same)
    exact q
  · rintro D H' fD ⟨k, e⟩
    rw [List.take_of_length_le (by omega)] at e
    exact hd D H' fD k e
end

/-- no two neighbours of one number -/
def apart : List (Int × Int) → Prop
  | [] => True
  | [_] => True
  | p :: q :: t => p.2 ≠ q.2 ∧ apart (q :: t)
theorem apart_wst (f : List (Int × Int)) (p : Int × Int) (h : apart f) : apart (wst f p) := by
  cases f with
  | nil => trivial
  | cons q t =>
    unfold wst
    simp only
    split
    · rename_i c
      cases t with
      | nil => trivial
      | cons r u => exact ⟨by rw [← c]; exact h.1, h.2⟩
    · rename_i c
      exact ⟨fun z => c z.symm, h⟩
theorem apart_wr : ∀ ps : List (Int × Int), apart (wr ps)
  | [] => trivial
  | p :: ps => by
    unfold wr
    split
    · exact apart_wst _ _ (apart_wr ps)
    · exact apart_wr ps
theorem apart_get : ∀ (ps : List (Int × Int)) (i : Nat) (p q : Int × Int), apart ps → ps[i]? = some p → ps.tail[i]? = some q → p.2 ≠ q.2
  | [], _, _, _, _, e, _ => by cases e
  | [_], i, _, _, _, _, e => by simp at e
  | a :: b :: t, 0, p, q, h, e1, e2 => by
    cases e1
    cases e2
    exact h.1
  | a :: b :: t, i + 1, p, q, h, e1, e2 => apart_get (b :: t) i p q h.2 e1 e2
theorem rep_get {n i : Nat} {v y : V} (h : (List.replicate n v)[i]? = some y) : y = v := by
  rw [List.getElem?_replicate] at h
  split at h
  · exact (Option.some.inj h).symm
  · cases h

def sp_is_run (K : PySem.W.Frag) : Sp := fun vs H Q _ => ∃ (t : Addr) (n v : Int), vs = [.ref t] ∧ SqT K H t [.int n, .int v] ∧ 0 < n ∧ Q (.bl true) H
theorem sc_is_run : FnScope ["thing", "many", "number"] ["thing"] (defScope s_is_run) :=
  ⟨rfl, rfl, rfl, by decide +kernel, rfl, by decide +kernel, by decide +kernel⟩
theorem ok_is_run {P : Program} {w : World} {K : PySem.W.Frag} {mg : Str → Option Value} {base : Heap} (T : Txt K mg) :
    FnG P w K mg base 2 T.a_is_run T.d_is_run ["thing"] (sp_is_run K) := by
  refine okD T.F_is_run sc_is_run (fun vs H Q E h => ?_) (fun cdv A outer s H vs Q E hr h => ?_)
  · first
      | (obtain ⟨_, rfl, _⟩ := h; rfl)
      | (obtain ⟨_, _, rfl, _⟩ := h; rfl)
      | (obtain ⟨_, _, _, rfl, _⟩ := h; rfl)
      | (obtain ⟨_, _, _, _, rfl, _⟩ := h; rfl)
      | (obtain ⟨_, _, _, _, _, rfl, _⟩ := h; rfl)
      | (obtain ⟨_, _, _, _, _, _, rfl, _⟩ := h; rfl)
      | (obtain ⟨_, _, _, _, _, _, _, rfl, _⟩ := h; rfl)
      | (obtain ⟨_, _, _, _, _, _, _, _, rfl, _⟩ := h; rfl)
      | (obtain ⟨_, _, _, _, _, _, _, _, _, rfl, _⟩ := h; rfl)
      | (obtain ⟨_, _, _, _, _, _, _, _, _, _, rfl, _⟩ := h; rfl)
      | (obtain ⟨_, _, _, _, _, _, _, _, _, _, _, rfl, _⟩ := h; rfl)
      | (obtain ⟨_, _, _, _, _, _, _, _, _, _, _, _, rfl, _⟩ := h; rfl)
      | (obtain ⟨_, _, _, _, _, _, _, _, _, _, _, _, _, rfl, _⟩ := h; rfl)
      | (obtain ⟨_, _, _, _, _, _, _, _, _, _, _, _, _, _, rfl, _⟩ := h; rfl)
      | (obtain ⟨_, _, _, _, _, _, _, _, _, _, _, _, _, _, _, rfl, _⟩ := h; rfl)
      | (obtain ⟨_, _, _, _, _, _, _, _, _, _, _, _, _, _, _, _, rfl, _⟩ := h; rfl)
      | (obtain ⟨_, _, _, _, _, _, _, _, _, _, _, _, _, _, _, _, _, rfl, _⟩ := h; rfl)
      | (obtain ⟨_, _, _, _, _, _, _, _, _, _, _, _, _, _, _, _, _, _, rfl, _⟩ := h; rfl)
      | (obtain ⟨_, _, _, _, _, _, _, _, _, _, _, _, _, _, _, _, _, _, _, rfl, _⟩ := h; rfl)
  · obtain ⟨t, n, v, rfl, hT, hn, k⟩ := h
    refine ⟨_, (pss_cons (ps_if (PW.pt (pw_or (pt_not (pt_val (pe_callB (k_isi (K := K) rfl) (by rfl) T.n_isinstance (by decide +kernel) (pa_cons (pv 0) (pa_cons (pe_bltn (v := .ty "tuple") (by rfl) T.n_tuple (by decide +kernel) rfl) pa_nil))))) (pw_or1 (pt_cmpR (k_ne (K := K) rfl hr.r.units) (pe_callB (k_len (K := K) rfl) (by rfl) T.n_len (by decide +kernel) (pa_cons (pv 0) pa_nil)) pe_int (nomark _))))) (pss_one (ps_ret pe_bl)) pss_nil)
      (pss_cons (ps_asg (pv 0) (k_gtup (K := K) 2 rfl rfl (pgs_cons (pg_name (i := 1) sc_is_run.nd rfl (Or.inl rfl)) (pgs_cons (pg_name (i := 2) sc_is_run.nd rfl (Or.inl rfl)) pgs_nil))))
      (pss_one (ps_ret (pe_and (d1 (ok_is_number T) (hr.mono (by decide)) (by rfl) T.m_is_number T.F_is_number.kp T.b_is_number passL (pa_cons (pv 1) pa_nil)) (pe_and (pe_cmpR op_gt (pv 1) pe_int (nomark _)) (pe_one (d1 (ok_is_number T) (hr.mono (by decide)) (by rfl) T.m_is_number T.F_is_number.kp T.b_is_number passL (pa_cons (pv 2) pa_nil))))))))), ?_⟩
    dsimp only [cxOf, st_1, st_2, st_3, st_4, st_5, st_6, List.length_cons, List.length_nil, List.replicate_succ, List.replicate_zero, Nat.reduceAdd, Nat.reduceSub]
    walk_at "gs"
    refine i_isD (dp_mk2 hT) (show kitB "tuple" "tuple" = some true by decide +kernel) ?_
    walk_at "gs"
    refine i_decN (fun z => absurd rfl z) (fun _ => ?_)
    walk_at "gs"
    refine ⟨n, rfl, ?_⟩
    walk_at "gs"
    refine i_dec (fun _ => ?_) (fun z => absurd hn z)
    walk_at "gs"
    exact ⟨v, rfl, k⟩
def sp_are_runs (K : PySem.W.Frag) : Sp := fun vs H Q _ => ∃ (l : Addr) (ps : List (Int × Int)) (n : Int), vs = [.ref l, .int n] ∧ Dp K H (.ref l) (.list (ps.map d2)) ∧
  (∀ q ∈ ps, 0 < q.1) ∧ apart ps ∧ ps.length ≤ 100000 ∧ wide ps = n ∧ ∀ H', Kp [] H H' → Q (.bl true) H'
theorem all_true (n : Nat) : ((List.replicate n true).all id) = true := by
  rw [List.all_eq_true]
  intro b hb
  rw [(List.mem_replicate.mp hb).2]
  rfl
theorem any_false (n : Nat) : ((List.replicate n false).any id) = false := by
  rw [List.any_eq_false]
  intro b hb
  rw [(List.mem_replicate.mp hb).2]
  simp
theorem sc_are_runs : FnScope ["thing", "size", "one", "other", "many", "number"] ["thing", "size"] (defScope s_are_runs) :=
  ⟨rfl, rfl, rfl, by decide +kernel, rfl, by decide +kernel, by decide +kernel⟩
theorem ok_are_runs {P : Program} {w : World} {K : PySem.W.Frag} {mg : Str → Option Value} {base : Heap} (T : Txt K mg) :
    FnG P w K mg base 3 T.a_are_runs T.d_are_runs ["thing", "size"] (sp_are_runs K) := by
  refine okD T.F_are_runs sc_are_runs (fun vs H Q E h => ?_) (fun cdv A outer s H vs Q E hr h => ?_)
  · first
      | (obtain ⟨_, rfl, _⟩ := h; rfl)
      | (obtain ⟨_, _, rfl, _⟩ := h; rfl)
      | (obtain ⟨_, _, _, rfl, _⟩ := h; rfl)
      | (obtain ⟨_, _, _, _, rfl, _⟩ := h; rfl)
      | (obtain ⟨_, _, _, _, _, rfl, _⟩ := h; rfl)
      | (obtain ⟨_, _, _, _, _, _, rfl, _⟩ := h; rfl)
      | (obtain ⟨_, _, _, _, _, _, _, rfl, _⟩ := h; rfl)
      | (obtain ⟨_, _, _, _, _, _, _, _, rfl, _⟩ := h; rfl)
      | (obtain ⟨_, _, _, _, _, _, _, _, _, rfl, _⟩ := h; rfl)
      | (obtain ⟨_, _, _, _, _, _, _, _, _, _, rfl, _⟩ := h; rfl)
      | (obtain ⟨_, _, _, _, _, _, _, _, _, _, _, rfl, _⟩ := h; rfl)
      | (obtain ⟨_, _, _, _, _, _, _, _, _, _, _, _, rfl, _⟩ := h; rfl)
      | (obtain ⟨_, _, _, _, _, _, _, _, _, _, _, _, _, rfl, _⟩ := h; rfl)
      | (obtain ⟨_, _, _, _, _, _, _, _, _, _, _, _, _, _, rfl, _⟩ := h; rfl)
      | (obtain ⟨_, _, _, _, _, _, _, _, _, _, _, _, _, _, _, rfl, _⟩ := h; rfl)
      | (obtain ⟨_, _, _, _, _, _, _, _, _, _, _, _, _, _, _, _, rfl, _⟩ := h; rfl)
      | (obtain ⟨_, _, _, _, _, _, _, _, _, _, _, _, _, _, _, _, _, rfl, _⟩ := h; rfl)
      | (obtain ⟨_, _, _, _, _, _, _, _, _, _, _, _, _, _, _, _, _, _, rfl, _⟩ := h; rfl)
      | (obtain ⟨_, _, _, _, _, _, _, _, _, _, _, _, _, _, _, _, _, _, _, rfl, _⟩ := h; rfl)
  · obtain ⟨l, ps, n, rfl, hl, hpos, hap, hps, hw, k⟩ := h
    have hD := hl
    cases hl
    rename_i xs hsq hall
    have hxl := dpa_len hall
    rw [List.length_map] at hxl
    refine ⟨_, (pss_cons (ps_if (PW.pt (pw_or (pt_not (pt_val (pe_callB (k_isi (K := K) rfl) (by rfl) T.n_isinstance (by decide +kernel) (pa_cons (pv 0) (pa_cons (pe_bltn (v := .ty "list") (by rfl) T.n_list (by decide +kernel) rfl) pa_nil))))) (pw_or1 (pt_not (pt_val (pe_callB (k_all (K := K) rfl rfl) (by rfl) T.n_all (by decide +kernel) (pa_cons (pe_lc (own := [("one", 2)]) (g := (gName 2)) (tt := tYes) rfl sc_are_runs.nd (k_plist (K := K) rfl (pv 0)) (blkOk_by (own := [("one", 2)]) (N := ["thing", "size", "one", "other", "many", "number"]) (sc := defScope s_are_runs) (by decide +kernel)) (fun _ _ _ _ _ => (pg_name (i := 2) sc_are_runs.nd rfl (Or.inl rfl))) (fun _ _ _ _ _ => pts_nil) (fun _ _ _ _ _ => (d1 (ok_is_run T) (hr.mono (by decide)) (by rfl) T.m_is_run T.F_is_run.kp T.b_is_run passL (pa_cons (pv 2) pa_nil)))) pa_nil))))))) (pss_one (ps_ret pe_bl)) pss_nil)
      (pss_cons (ps_if (pt_val (pe_callB (k_any (K := K) rfl rfl) (by rfl) T.n_any (by decide +kernel) (pa_cons (pe_lc (own := [("one", 2), ("other", 3)]) (g := (gTup K 2 (gCons (gName 2) (gCons (gName 3) gNil)))) (tt := tYes) rfl sc_are_runs.nd (k_pzip (K := K) rfl (by rfl) T.n_zip (pa_cons (pv 0) (pa_cons (pe_slice (k_sl (K := K) rfl) (pv 0) (po_some pe_int) po_none) pa_nil))) (blkOk_by (own := [("one", 2), ("other", 3)]) (N := ["thing", "size", "one", "other", "many", "number"]) (sc := defScope s_are_runs) (by decide +kernel)) (fun _ _ _ _ _ => (k_gtup (K := K) 2 rfl rfl (pgs_cons (pg_name (i := 2) sc_are_runs.nd rfl (Or.inl rfl)) (pgs_cons (pg_name (i := 3) sc_are_runs.nd rfl (Or.inl rfl)) pgs_nil)))) (fun _ _ _ _ _ => pts_nil) (fun _ _ _ _ _ => (pe_cmpR (k_eq (K := K) rfl hr.r.units) (pe_ix (k_ix (K := K) rfl) (pv 2) pe_int (fun _ _ => rfl)) (pe_ix (k_ix (K := K) rfl) (pv 3) pe_int (fun _ _ => rfl)) (nomark _)))) pa_nil))) (pss_one (ps_ret pe_bl)) pss_nil)
      (pss_one (ps_ret (pe_cmpR (k_eq (K := K) rfl hr.r.units) (pe_callB (k_sum (K := K) rfl rfl) (by rfl) T.n_sum (by decide +kernel) (pa_cons (pe_lc (own := [("many", 4), ("number", 5)]) (g := (gTup K 2 (gCons (gName 4) (gCons (gName 5) gNil)))) (tt := tYes) rfl sc_are_runs.nd (k_plist (K := K) rfl (pv 0)) (blkOk_by (own := [("many", 4), ("number", 5)]) (N := ["thing", "size", "one", "other", "many", "number"]) (sc := defScope s_are_runs) (by decide +kernel)) (fun _ _ _ _ _ => (k_gtup (K := K) 2 rfl rfl (pgs_cons (pg_name (i := 4) sc_are_runs.nd rfl (Or.inl rfl)) (pgs_cons (pg_name (i := 5) sc_are_runs.nd rfl (Or.inl rfl)) pgs_nil)))) (fun _ _ _ _ _ => pts_nil) (fun _ _ _ _ _ => (pv 4))) pa_nil)) (pv 1) (nomark _)))))), ?_⟩
    dsimp only [cxOf, st_1, st_2, st_3, st_4, st_5, st_6, List.length_cons, List.length_nil, List.replicate_succ, List.replicate_zero, Nat.reduceAdd, Nat.reduceSub]
    walk_at "gs"
    refine i_isD hD (show kitB "list" "list" = some true by decide +kernel) ?_
    walk_at "gs"
    refine i_mapL hsq (List.replicate xs.length (.bl true)) (by rw [List.length_replicate]) (by omega) ?_ ?_
    · intro D i x y H' Q' fD hx hy k1 q
      obtain ⟨d, hd, hdp⟩ := dpa_getV hall hx
      obtain ⟨p, hp, rfl⟩ := map_get hd
      obtain ⟨t, rfl, hT⟩ := dp_pair (dp_imm k1 _ _ rfl hdp)
      have hy2 := rep_get hy
      subst hy2
      walk_at "gs"
      exact ⟨t, p.1, p.2, rfl, hT, hpos p (List.mem_of_getElem? hp), q H' Kp.refl⟩
    intro D1 H1 fD1 k1 e1
    walk_at "gs"
    have eb : List.replicate xs.length (V.bl true) = (List.replicate xs.length true).map V.bl := by rw [List.map_replicate]
    rw [eb] at e1
    refine i_all (SqL.of e1) ?_
    rw [all_true]
    walk_at "gs"
    have hsq1 := k1.seqL not_nil hsq
    walk_at "gs"
    refine i_new fun z hz => ?_
    have ec : cutV xs (some 1) none = xs.tail := by
      cases xs with
      | nil => rfl
      | cons x t => exact cutV_tail x t
    rw [ec]
    have kz : Kp [] H1 (upd H1 z (.lst xs.tail)) := Kp.new hz
    walk_at "gs"
    refine i_mapZ (kz.seqL not_nil hsq1) (SqL.of upd_same) (List.replicate (min xs.length xs.tail.length) (.bl false)) (by rw [List.length_replicate]) (by rw [List.length_replicate]; omega) ?_ ?_
    · intro D i x u y T H' Q' fD hx hu hy k2 fT q
      obtain ⟨d, hd, hdp⟩ := dpa_getV hall hx
      obtain ⟨p, hp, rfl⟩ := map_get hd
      have hall2 : DpAll K H xs.tail (ps.tail.map d2) := by
        rw [List.map_tail]
        exact dpa_tail hall
      obtain ⟨d, hd, hdq⟩ := dpa_getV hall2 hu
      obtain ⟨p2, hp2, rfl⟩ := map_get hd
      have ne := apart_get _ _ _ _ hap hp hp2
      have kk : Kp [] H (upd H' T (.tup [x, u])) := Kp.trans (Kp.trans k1 kz) (Kp.trans k2 (Kp.new fT))
      obtain ⟨t, rfl, hT⟩ := dp_pair (dp_imm kk _ _ rfl hdp)
      obtain ⟨t2, rfl, hT2⟩ := dp_pair (dp_imm kk _ _ rfl hdq)
      have hy2 := rep_get hy
      subst hy2
      walk_at "gs"
      rw [decide_eq_false ne]
      exact q _ (Kp.new fT)
    intro D2 H2 fD2 k2 e2
    walk_at "gs"
    have eb2 : List.replicate (min xs.length xs.tail.length) (V.bl false) = (List.replicate (min xs.length xs.tail.length) false).map V.bl := by rw [List.map_replicate]
    rw [eb2] at e2
    refine i_any (SqL.of e2) ?_
    rw [any_false]
    walk_at "gs"
    have k02 : Kp [] H H2 := Kp.trans (Kp.trans k1 kz) k2
    refine i_mapL (k02.seqL not_nil hsq) ((ps.map (·.1)).map V.int) (by rw [List.length_map, List.length_map]; omega) (by omega) ?_ ?_
    · intro D i x y H' Q' fD hx hy k3 q
      obtain ⟨d, hd, hdp⟩ := dpa_getV hall hx
      obtain ⟨p, hp, rfl⟩ := map_get hd
      obtain ⟨t, rfl, hT⟩ := dp_pair (dp_imm (Kp.trans k02 k3) _ _ rfl hdp)
      rw [List.getElem?_map, List.getElem?_map, hp] at hy
      cases hy
      walk_at "gs"
      exact q H' Kp.refl
    intro D3 H3 fD3 k3 e3
    walk_at "gs"
    refine i_sum (SqL.of e3) ?_
    walk_at "gs"
    have es : (ps.map (·.1)).sum = n := hw
    rw [decide_eq_true es]
    exact k H3 (Kp.trans k02 k3)

/-! ### a memory -/
def mfs (n : Int) (l : Addr) : List (Str × V) := [("wide", .int n), ("pairs", .ref l)]
def MemAt (K : PySem.W.Frag) (C : Addr) (H : Hp) (m : Addr) (cs : List Int) : Prop :=
  ∃ dx l, H m = some (.ins C dx (mfs cs.length l)) ∧ LD K H l ((rle cs).map d2)
/-- b is not the list that m holds its runs in -/
def Off (H : Hp) (m b : Addr) : Prop := ∀ C dx n l, H m = some (.ins C dx (mfs n l)) → l ≠ b
theorem off_mk {H : Hp} {m b l C dx : Addr} {n : Int} (e : H m = some (.ins C dx (mfs n l))) (h : l ≠ b) : Off H m b := by
  intro C2 dx2 n2 l2 e2
  rw [e] at e2
  injection e2 with e2
  injection e2 with _ _ e3
  unfold mfs at e3
  injection e3 with _ e4
  injection e4 with e5 _
  injection e5 with _ e6
  injection e6 with e7
  rw [← e7]
  exact h
theorem off_kp {ws : List Addr} {H H' : Hp} {m b : Addr} (k : Kp ws H H') (t : Tr H m) (n : m ∉ ws) (h : Off H m b) : Off H' m b := by
  obtain ⟨o, e⟩ := t.ex
  intro C dx n2 l e2
  rw [k.at_ _ _ e n] at e2
  cases e2
  exact h _ _ _ _ e
/-- another thing that is written -/
def Oth (H : Hp) (m p : Addr) : Prop := (∃ i xs, H p = some (.lst (.int i :: xs))) ∨ (p ≠ m ∧ ∃ C dx fs, H p = some (.ins C dx fs)) ∨
  ((∃ xs, H p = some (.lst xs)) ∧ Off H m p)
section
variable {K : PySem.W.Frag} {C : Addr} {H H' : Hp} {m p l : Addr} {cs ds : List Int} {ws : List Addr} {o : HO}
theorem ld_ne_int {i : Int} {xs : List V} (h : LD K H l ((rle cs).map d2)) (e : H p = some (.lst (.int i :: xs))) : l ≠ p := by
  intro z
  obtain ⟨vs, q, a⟩ := h
  rw [z, e] at q
  cases q
  cases w : rle cs with
  | nil =>
    rw [w] at a
    cases a
  | cons x t =>
    rw [w] at a
    cases a
    rename_i a b
    cases a
theorem MemAt.kp (h : MemAt K C H m cs) (k : Kp ws H H') (n : ∀ p ∈ ws, Oth H m p) : MemAt K C H' m cs := by
  obtain ⟨dx, l, hm, ld⟩ := h
  refine ⟨dx, l, k.at_ _ _ hm ?_, LD.kp ld k (imms_d2 _) ?_⟩
  · intro z
    rcases n m z with ⟨i, xs, e⟩ | ⟨q, _⟩ | ⟨⟨xs, e⟩, _⟩
    · rw [hm] at e
      cases e
    · exact q rfl
    · rw [hm] at e
      cases e
  · intro z
    rcases n l z with ⟨i, xs, e⟩ | ⟨q, D, dy, fs, e⟩ | ⟨_, e⟩
    · exact ld_ne_int ld e rfl
    · obtain ⟨vs, e2, _⟩ := ld
      rw [e] at e2
      cases e2
    · exact e _ _ _ _ hm rfl
theorem mem_kp0 (h : MemAt K C H m cs) (k : Kp [] H H') : MemAt K C H' m cs := h.kp k fun p hp => nomatch hp
theorem mem_kp1 (h : MemAt K C H m cs) (k : Kp [p] H H') (n : Oth H m p) : MemAt K C H' m cs :=
  h.kp k fun q hq => by
    rw [List.mem_singleton.mp hq]
    exact n
theorem mem_upd (h : MemAt K C H m cs) (f : Fr H p) : MemAt K C (upd H p o) m cs := mem_kp0 h (Kp.new f)
theorem oth_pot (h : PotAt H p) : Oth H m p := by
  obtain ⟨x, y, e, _⟩ := h
  exact .inl ⟨_, _, e⟩
theorem oth_mem (h : MemAt K C H p ds) (n : p ≠ m) : Oth H m p := by
  obtain ⟨dx, l, e, _⟩ := h
  exact .inr (.inl ⟨n, _, _, _, e⟩)
theorem oth_lst {xs : List V} (h : H p = some (.lst xs)) (n : Off H m p) : Oth H m p := .inr (.inr ⟨⟨xs, h⟩, n⟩)
theorem tr_mem (h : MemAt K C H m cs) : Tr H m := by
  obtain ⟨dx, l, e, _⟩ := h
  exact ⟨_, e⟩
theorem pot_ne_mem (h : PotAt H p) (g : MemAt K C H m cs) : p ≠ m := by
  obtain ⟨x, y, e, _⟩ := h
  obtain ⟨dx, l, e2, _⟩ := g
  intro z
  rw [z, e2] at e
  cases e
theorem pot_kp_mem (h : PotAt H p) (g : MemAt K C H m cs) (k : Kp [m] H H') : PotAt H' p := h.kp k (not_one (pot_ne_mem h g))
end
theorem two_ne {H : Hp} {a b : Addr} {u v : HO} (h1 : H a = some u) (h2 : H b = some v) (n : u ≠ v) : a ≠ b := by
  intro z
  rw [z, h2] at h1
  cases h1
  exact n rfl
theorem one_few {p : Int × Int} : [p].length ≤ 10000 := by
  rw [List.length_singleton]
  decide
def sp_init (K : PySem.W.Frag) (C X : Addr) : Sp := fun vs H Q E => ∃ (m dx : Addr) (n : Int) (y : V), vs = [.ref m, .int n, y] ∧
  H m = some (.ins C dx []) ∧ ((¬(1 ≤ n ∧ n ≤ 1000000000000000000) ∧ E (.ref X) none H) ∨ (∃ v : Int, y = .int v ∧ (1 ≤ n ∧ n ≤ 1000000000000000000) ∧
  ∀ H', Kp [m] H H' → MemAt K C H' m (List.replicate n.toNat v) → (∀ b, Tr H b → Off H' m b) → Q .non H'))
theorem rle_one {n v : Int} (h : 1 ≤ n) : rle (List.replicate n.toNat v) = [(n, v)] := by
  have e := rle_rep v [] (n.toNat - 1)
  have e2 : n.toNat - 1 + 1 = n.toNat := by omega
  rw [e2, List.append_nil] at e
  rw [e]
  show [(0 + (((n.toNat - 1 : Nat) : Int) + 1), v)] = _
  congr 2
  omega
theorem sc_Memory_init : FnScope ["self", "size", "number"] ["self", "size", "number"] (defScope s_Memory_init) :=
  ⟨rfl, rfl, rfl, by decide +kernel, rfl, by decide +kernel, by decide +kernel⟩
theorem ok_Memory_init {P : Program} {w : World} {K : PySem.W.Frag} {mg : Str → Option Value} {base : Heap} (T : Txt K mg) :
    FnG P w K mg base 5 T.a_Memory_init T.d_Memory_init ["self", "size", "number"] (sp_init K T.c_Memory T.x_NoSize) := by
  refine okD T.F_Memory_init sc_Memory_init (fun vs H Q E h => ?_) (fun cdv A outer s H vs Q E hr h => ?_)
  · first
      | (obtain ⟨_, rfl, _⟩ := h; rfl)
      | (obtain ⟨_, _, rfl, _⟩ := h; rfl)
      | (obtain ⟨_, _, _, rfl, _⟩ := h; rfl)
      | (obtain ⟨_, _, _, _, rfl, _⟩ := h; rfl)
      | (obtain ⟨_, _, _, _, _, rfl, _⟩ := h; rfl)
      | (obtain ⟨_, _, _, _, _, _, rfl, _⟩ := h; rfl)
      | (obtain ⟨_, _, _, _, _, _, _, rfl, _⟩ := h; rfl)
      | (obtain ⟨_, _, _, _, _, _, _, _, rfl, _⟩ := h; rfl)
      | (obtain ⟨_, _, _, _, _, _, _, _, _, rfl, _⟩ := h; rfl)
      | (obtain ⟨_, _, _, _, _, _, _, _, _, _, rfl, _⟩ := h; rfl)
      | (obtain ⟨_, _, _, _, _, _, _, _, _, _, _, rfl, _⟩ := h; rfl)
      | (obtain ⟨_, _, _, _, _, _, _, _, _, _, _, _, rfl, _⟩ := h; rfl)
      | (obtain ⟨_, _, _, _, _, _, _, _, _, _, _, _, _, rfl, _⟩ := h; rfl)
      | (obtain ⟨_, _, _, _, _, _, _, _, _, _, _, _, _, _, rfl, _⟩ := h; rfl)
      | (obtain ⟨_, _, _, _, _, _, _, _, _, _, _, _, _, _, _, rfl, _⟩ := h; rfl)
      | (obtain ⟨_, _, _, _, _, _, _, _, _, _, _, _, _, _, _, _, rfl, _⟩ := h; rfl)
      | (obtain ⟨_, _, _, _, _, _, _, _, _, _, _, _, _, _, _, _, _, rfl, _⟩ := h; rfl)
      | (obtain ⟨_, _, _, _, _, _, _, _, _, _, _, _, _, _, _, _, _, _, rfl, _⟩ := h; rfl)
      | (obtain ⟨_, _, _, _, _, _, _, _, _, _, _, _, _, _, _, _, _, _, _, rfl, _⟩ := h; rfl)
  · obtain ⟨m, dx, n, y, rfl, hm, h⟩ := h
    have cl_Memory := T.cl_Memory
    have na_Memory_pairs := T.na_Memory_pairs
    have na_Memory_wide := T.na_Memory_wide
    refine ⟨_, (pss_cons (ps_expr (s1 (ok_want_size T) (hr.mono (by decide)) (by rfl) T.m_want_size T.F_want_size.kp T.b_want_size (passAt (takes_of rfl rfl rfl rfl)) (pa_cons (pv 1) pa_nil)))
      (pss_cons (ps_expr (d1 (ok_want_number T) (hr.mono (by decide)) (by rfl) T.m_want_number T.F_want_number.kp T.b_want_number passL (pa_cons (pv 2) pa_nil)))
      (pss_cons (k_sfld (K := K) rfl (pv 0) (pv 1) rfl)
      (pss_one (k_sfld (K := K) rfl (pv 0) (pe_lst (pa_cons (pe_tup (pa_cons (pv 1) (pa_cons (pv 2) pa_nil))) pa_nil)) rfl))))), ?_⟩
    dsimp only [cxOf, st_1, st_2, st_3, st_4, st_5, st_6, List.length_cons, List.length_nil, List.replicate_succ, List.replicate_zero, Nat.reduceAdd, Nat.reduceSub]
    walk_at "gs"
    refine ⟨n, rfl, fun z => ?_, fun z => ?bad⟩
    case bad =>
      rcases h with ⟨_, r⟩ | ⟨_, _, z2, _⟩
      · exact r
      · exact absurd z2 z
    obtain ⟨v, rfl, _, k⟩ : ∃ v : Int, y = .int v ∧ (1 ≤ n ∧ n ≤ 1000000000000000000) ∧ ∀ H', Kp [m] H H' → MemAt K T.c_Memory H' m (List.replicate n.toNat v) → (∀ b, Tr H b → Off H' m b) → Q .non H' := by
      rcases h with ⟨z2, _⟩ | h
      · exact absurd z z2
      · exact h
    walk_at "gs"
    refine ⟨v, rfl, ?_⟩
    walk_at "gs"
    refine i_new fun t ht => ?_
    walk_at "gs"
    refine i_new fun l hl => ?_
    have ntm : t ≠ m := by walk_at "g_ne"
    have nlm : l ≠ m := by walk_at "g_ne"
    have nlt : t ≠ l := by walk_at "g_ne"
    walk_at "gs"
    refine k _ (by walk_at "g_kp") ⟨dx, l, ?_, ?_⟩ (fun b hb => off_mk upd_same (Ne.symm (fr_tr (tr_upd (tr_upd hb)) hl)))
    · rw [List.length_replicate]
      have e : ((n.toNat : Nat) : Int) = n := by omega
      rw [e]
      exact upd_same
    · rw [rle_one z.1]
      have e1 := ntm
      refine ⟨_, ?_, dpa_one (dp_mk2 (a := t) (m := n) (n := v) (SqT.of ?_))⟩
      · refine upd_nn ?_ ?_
        · exact nlm
        · exact upd_same
      · refine upd_nn ?_ ?_
        · exact ntm
        · refine upd_nn ?_ ?_
          · exact nlt
          · exact upd_same
def sp_msize (K : PySem.W.Frag) (C : Addr) : Sp := fun vs H Q _ => ∃ (m : Addr) (cs : List Int), vs = [.ref m] ∧ MemAt K C H m cs ∧
  Q (.int cs.length) H
theorem sc_Memory_size : FnScope ["self"] ["self"] (defScope s_Memory_size) :=
  ⟨rfl, rfl, rfl, by decide +kernel, rfl, by decide +kernel, by decide +kernel⟩
theorem ok_Memory_size {P : Program} {w : World} {K : PySem.W.Frag} {mg : Str → Option Value} {base : Heap} (T : Txt K mg) :
    FnG P w K mg base 1 T.a_Memory_size T.d_Memory_size ["self"] (sp_msize K T.c_Memory) := by
  refine okD T.F_Memory_size sc_Memory_size (fun vs H Q E h => ?_) (fun cdv A outer s H vs Q E hr h => ?_)
  · first
      | (obtain ⟨_, rfl, _⟩ := h; rfl)
      | (obtain ⟨_, _, rfl, _⟩ := h; rfl)
      | (obtain ⟨_, _, _, rfl, _⟩ := h; rfl)
      | (obtain ⟨_, _, _, _, rfl, _⟩ := h; rfl)
      | (obtain ⟨_, _, _, _, _, rfl, _⟩ := h; rfl)
      | (obtain ⟨_, _, _, _, _, _, rfl, _⟩ := h; rfl)
      | (obtain ⟨_, _, _, _, _, _, _, rfl, _⟩ := h; rfl)
      | (obtain ⟨_, _, _, _, _, _, _, _, rfl, _⟩ := h; rfl)
      | (obtain ⟨_, _, _, _, _, _, _, _, _, rfl, _⟩ := h; rfl)
      | (obtain ⟨_, _, _, _, _, _, _, _, _, _, rfl, _⟩ := h; rfl)
      | (obtain ⟨_, _, _, _, _, _, _, _, _, _, _, rfl, _⟩ := h; rfl)
      | (obtain ⟨_, _, _, _, _, _, _, _, _, _, _, _, rfl, _⟩ := h; rfl)
      | (obtain ⟨_, _, _, _, _, _, _, _, _, _, _, _, _, rfl, _⟩ := h; rfl)
      | (obtain ⟨_, _, _, _, _, _, _, _, _, _, _, _, _, _, rfl, _⟩ := h; rfl)
      | (obtain ⟨_, _, _, _, _, _, _, _, _, _, _, _, _, _, _, rfl, _⟩ := h; rfl)
      | (obtain ⟨_, _, _, _, _, _, _, _, _, _, _, _, _, _, _, _, rfl, _⟩ := h; rfl)
      | (obtain ⟨_, _, _, _, _, _, _, _, _, _, _, _, _, _, _, _, _, rfl, _⟩ := h; rfl)
      | (obtain ⟨_, _, _, _, _, _, _, _, _, _, _, _, _, _, _, _, _, _, rfl, _⟩ := h; rfl)
      | (obtain ⟨_, _, _, _, _, _, _, _, _, _, _, _, _, _, _, _, _, _, _, rfl, _⟩ := h; rfl)
  · obtain ⟨m, cs, rfl, ⟨dx, l, hm, ld⟩, k⟩ := h
    have cl_Memory := T.cl_Memory
    have na_Memory_pairs := T.na_Memory_pairs
    have na_Memory_wide := T.na_Memory_wide
    refine ⟨_, (pss_one (ps_ret (k_fld (K := K) rfl (pv 0) rfl))), ?_⟩
    dsimp only [cxOf, st_1, st_2, st_3, st_4, st_5, st_6, List.length_cons, List.length_nil, List.replicate_succ, List.replicate_zero, Nat.reduceAdd, Nat.reduceSub]
    walk_at "gs"
    exact k
def sp_runs (K : PySem.W.Frag) (C : Addr) : Sp := fun vs H Q _ => ∃ (m : Addr) (cs : List Int), vs = [.ref m] ∧ MemAt K C H m cs ∧
  ∀ l H', Fr H l → Kp [] H H' → LD K H' l ((rle cs).map d2) → Q (.ref l) H'
theorem sc_Memory_runs : FnScope ["self"] ["self"] (defScope s_Memory_runs) :=
  ⟨rfl, rfl, rfl, by decide +kernel, rfl, by decide +kernel, by decide +kernel⟩
theorem ok_Memory_runs {P : Program} {w : World} {K : PySem.W.Frag} {mg : Str → Option Value} {base : Heap} (T : Txt K mg) :
    FnG P w K mg base 1 T.a_Memory_runs T.d_Memory_runs ["self"] (sp_runs K T.c_Memory) := by
  refine okD T.F_Memory_runs sc_Memory_runs (fun vs H Q E h => ?_) (fun cdv A outer s H vs Q E hr h => ?_)
  · first
      | (obtain ⟨_, rfl, _⟩ := h; rfl)
      | (obtain ⟨_, _, rfl, _⟩ := h; rfl)
      | (obtain ⟨_, _, _, rfl, _⟩ := h; rfl)
      | (obtain ⟨_, _, _, _, rfl, _⟩ := h; rfl)
      | (obtain ⟨_, _, _, _, _, rfl, _⟩ := h; rfl)
      | (obtain ⟨_, _, _, _, _, _, rfl, _⟩ := h; rfl)
      | (obtain ⟨_, _, _, _, _, _, _, rfl, _⟩ := h; rfl)
      | (obtain ⟨_, _, _, _, _, _, _, _, rfl, _⟩ := h; rfl)
      | (obtain ⟨_, _, _, _, _, _, _, _, _, rfl, _⟩ := h; rfl)
      | (obtain ⟨_, _, _, _, _, _, _, _, _, _, rfl, _⟩ := h; rfl)
      | (obtain ⟨_, _, _, _, _, _, _, _, _, _, _, rfl, _⟩ := h; rfl)
      | (obtain ⟨_, _, _, _, _, _, _, _, _, _, _, _, rfl, _⟩ := h; rfl)
      | (obtain ⟨_, _, _, _, _, _, _, _, _, _, _, _, _, rfl, _⟩ := h; rfl)
      | (obtain ⟨_, _, _, _, _, _, _, _, _, _, _, _, _, _, rfl, _⟩ := h; rfl)
      | (obtain ⟨_, _, _, _, _, _, _, _, _, _, _, _, _, _, _, rfl, _⟩ := h; rfl)
      | (obtain ⟨_, _, _, _, _, _, _, _, _, _, _, _, _, _, _, _, rfl, _⟩ := h; rfl)
      | (obtain ⟨_, _, _, _, _, _, _, _, _, _, _, _, _, _, _, _, _, rfl, _⟩ := h; rfl)
      | (obtain ⟨_, _, _, _, _, _, _, _, _, _, _, _, _, _, _, _, _, _, rfl, _⟩ := h; rfl)
      | (obtain ⟨_, _, _, _, _, _, _, _, _, _, _, _, _, _, _, _, _, _, _, rfl, _⟩ := h; rfl)
  · obtain ⟨m, cs, rfl, ⟨dx, l, hm, ld⟩, k⟩ := h
    obtain ⟨vs, hv, hall⟩ := id ld
    have cl_Memory := T.cl_Memory
    have na_Memory_pairs := T.na_Memory_pairs
    have na_Memory_wide := T.na_Memory_wide
    refine ⟨_, (pss_one (ps_ret (pe_callTy (k_list (K := K) rfl) (by rfl) T.n_list (by decide +kernel) (pa_cons (k_fld (K := K) rfl (pv 0) rfl) pa_nil)))), ?_⟩
    dsimp only [cxOf, st_1, st_2, st_3, st_4, st_5, st_6, List.length_cons, List.length_nil, List.replicate_succ, List.replicate_zero, Nat.reduceAdd, Nat.reduceSub]
    walk_at "gs"
    refine i_new fun q hq => ?_
    walk_at "gs"
    exact k q _ hq (Kp.new hq) ⟨_, upd_same, dpa_imm (Kp.new (ws := []) hq) _ _ (imms_d2 _) hall⟩
def sp_mat (K : PySem.W.Frag) (C : Addr) : Sp := fun vs H Q _ => ∃ (m : Addr) (c : Nat) (cs : List Int) (v : Int), vs = [.ref m, .int c] ∧
  MemAt K C H m cs ∧ (rle cs).length ≤ 10000 ∧ cs[c]? = some v ∧ ∀ H', Kp [] H H' → Q (.int v) H'
theorem sc_Memory_at : FnScope ["self", "cell"] ["self", "cell"] (defScope s_Memory_at) :=
  ⟨rfl, rfl, rfl, by decide +kernel, rfl, by decide +kernel, by decide +kernel⟩
theorem ok_Memory_at {P : Program} {w : World} {K : PySem.W.Frag} {mg : Str → Option Value} {base : Heap} (T : Txt K mg) :
    FnG P w K mg base 4 T.a_Memory_at T.d_Memory_at ["self", "cell"] (sp_mat K T.c_Memory) := by
  refine okD T.F_Memory_at sc_Memory_at (fun vs H Q E h => ?_) (fun cdv A outer s H vs Q E hr h => ?_)
  · first
      | (obtain ⟨_, rfl, _⟩ := h; rfl)
      | (obtain ⟨_, _, rfl, _⟩ := h; rfl)
      | (obtain ⟨_, _, _, rfl, _⟩ := h; rfl)
      | (obtain ⟨_, _, _, _, rfl, _⟩ := h; rfl)
      | (obtain ⟨_, _, _, _, _, rfl, _⟩ := h; rfl)
      | (obtain ⟨_, _, _, _, _, _, rfl, _⟩ := h; rfl)
      | (obtain ⟨_, _, _, _, _, _, _, rfl, _⟩ := h; rfl)
      | (obtain ⟨_, _, _, _, _, _, _, _, rfl, _⟩ := h; rfl)
      | (obtain ⟨_, _, _, _, _, _, _, _, _, rfl, _⟩ := h; rfl)
      | (obtain ⟨_, _, _, _, _, _, _, _, _, _, rfl, _⟩ := h; rfl)
      | (obtain ⟨_, _, _, _, _, _, _, _, _, _, _, rfl, _⟩ := h; rfl)
      | (obtain ⟨_, _, _, _, _, _, _, _, _, _, _, _, rfl, _⟩ := h; rfl)
      | (obtain ⟨_, _, _, _, _, _, _, _, _, _, _, _, _, rfl, _⟩ := h; rfl)
      | (obtain ⟨_, _, _, _, _, _, _, _, _, _, _, _, _, _, rfl, _⟩ := h; rfl)
      | (obtain ⟨_, _, _, _, _, _, _, _, _, _, _, _, _, _, _, rfl, _⟩ := h; rfl)
      | (obtain ⟨_, _, _, _, _, _, _, _, _, _, _, _, _, _, _, _, rfl, _⟩ := h; rfl)
      | (obtain ⟨_, _, _, _, _, _, _, _, _, _, _, _, _, _, _, _, _, rfl, _⟩ := h; rfl)
      | (obtain ⟨_, _, _, _, _, _, _, _, _, _, _, _, _, _, _, _, _, _, rfl, _⟩ := h; rfl)
      | (obtain ⟨_, _, _, _, _, _, _, _, _, _, _, _, _, _, _, _, _, _, _, rfl, _⟩ := h; rfl)
  · obtain ⟨m, c, cs, v, rfl, ⟨dx, l, hm, ld⟩, hn, hv, k⟩ := h
    have hc : c < cs.length := (List.getElem?_eq_some_iff.mp hv).1
    have cl_Memory := T.cl_Memory
    have na_Memory_pairs := T.na_Memory_pairs
    have na_Memory_wide := T.na_Memory_wide
    refine ⟨_, (pss_cons (ps_expr (s1 (ok_want_cell T) (hr.mono (by decide)) (by rfl) T.m_want_cell T.F_want_cell.kp T.b_want_cell (passAt (takes_of rfl rfl rfl rfl)) (pa_cons (pv 1) (pa_cons (k_fld (K := K) rfl (pv 0) rfl) pa_nil))))
      (pss_one (ps_ret (pe_ix (k_ix (K := K) rfl) (pe_ix (k_ix (K := K) rfl) (d1 (ok_cut_out T) (hr.mono (by decide)) (by rfl) T.m_cut_out T.F_cut_out.kp T.b_cut_out passL (pa_cons (k_fld (K := K) rfl (pv 0) rfl) (pa_cons (pv 1) (pa_cons (pe_op (k_add (K := K) rfl) (pv 1) pe_int) pa_nil)))) pe_int (fun _ _ => rfl)) pe_int (fun _ _ => rfl))))), ?_⟩
    dsimp only [cxOf, st_1, st_2, st_3, st_4, st_5, st_6, List.length_cons, List.length_nil, List.replicate_succ, List.replicate_zero, Nat.reduceAdd, Nat.reduceSub]
    walk_at "gs"
    refine ⟨c, cs.length, rfl, fun _ => ?_, fun d => absurd (by omega) d⟩
    walk_at "gs"
    refine ⟨l, c, c + 1, rle cs, rfl, ld.dp, by omega, fun f H1 hf k1 lf => ?_⟩
    rw [cut_at hv] at lf
    obtain ⟨us, hu, ha⟩ := lf
    cases ha
    rename_i x us hx hus
    cases hus
    obtain ⟨t, rfl, ht⟩ := dp_pair hx
    walk_at "gs"
    exact k H1 k1
def sp_lay (K : PySem.W.Frag) (C : Addr) : Sp := fun vs H Q _ => ∃ (m x : Addr) (b e : Int) (cs : List Int) (ps : List (Int × Int)),
  vs = [.ref m, .int b, .ref x, .int e] ∧ MemAt K C H m cs ∧ LD K H x (ps.map d2) ∧ (rle cs).length ≤ 10000 ∧ ps.length ≤ 10000 ∧
  (0 ≤ b ∧ b ≤ e ∧ e ≤ cs.length) ∧ (cells ps).length = (e - b).toNat ∧
  ∀ H', Kp [m] H H' → MemAt K C H' m (laid cs b.toNat (cells ps) e.toNat) → (∀ b, Tr H b → Off H' m b) → Q .non H'
theorem sc_Memory_lay : FnScope ["self", "begin", "pairs", "end", "ahead", "behind"] ["self", "begin", "pairs", "end"] (defScope s_Memory_lay) :=
  ⟨rfl, rfl, rfl, by decide +kernel, rfl, by decide +kernel, by decide +kernel⟩
theorem ok_Memory_lay {P : Program} {w : World} {K : PySem.W.Frag} {mg : Str → Option Value} {base : Heap} (T : Txt K mg) :
    FnG P w K mg base 2 T.a_Memory_lay T.d_Memory_lay ["self", "begin", "pairs", "end"] (sp_lay K T.c_Memory) := by
  refine okD T.F_Memory_lay sc_Memory_lay (fun vs H Q E h => ?_) (fun cdv A outer s H vs Q E hr h => ?_)
  · first
      | (obtain ⟨_, rfl, _⟩ := h; rfl)
      | (obtain ⟨_, _, rfl, _⟩ := h; rfl)
      | (obtain ⟨_, _, _, rfl, _⟩ := h; rfl)
      | (obtain ⟨_, _, _, _, rfl, _⟩ := h; rfl)
      | (obtain ⟨_, _, _, _, _, rfl, _⟩ := h; rfl)
      | (obtain ⟨_, _, _, _, _, _, rfl, _⟩ := h; rfl)
      | (obtain ⟨_, _, _, _, _, _, _, rfl, _⟩ := h; rfl)
      | (obtain ⟨_, _, _, _, _, _, _, _, rfl, _⟩ := h; rfl)
      | (obtain ⟨_, _, _, _, _, _, _, _, _, rfl, _⟩ := h; rfl)
      | (obtain ⟨_, _, _, _, _, _, _, _, _, _, rfl, _⟩ := h; rfl)
      | (obtain ⟨_, _, _, _, _, _, _, _, _, _, _, rfl, _⟩ := h; rfl)
      | (obtain ⟨_, _, _, _, _, _, _, _, _, _, _, _, rfl, _⟩ := h; rfl)
      | (obtain ⟨_, _, _, _, _, _, _, _, _, _, _, _, _, rfl, _⟩ := h; rfl)
      | (obtain ⟨_, _, _, _, _, _, _, _, _, _, _, _, _, _, rfl, _⟩ := h; rfl)
      | (obtain ⟨_, _, _, _, _, _, _, _, _, _, _, _, _, _, _, rfl, _⟩ := h; rfl)
      | (obtain ⟨_, _, _, _, _, _, _, _, _, _, _, _, _, _, _, _, rfl, _⟩ := h; rfl)
      | (obtain ⟨_, _, _, _, _, _, _, _, _, _, _, _, _, _, _, _, _, rfl, _⟩ := h; rfl)
      | (obtain ⟨_, _, _, _, _, _, _, _, _, _, _, _, _, _, _, _, _, _, rfl, _⟩ := h; rfl)
      | (obtain ⟨_, _, _, _, _, _, _, _, _, _, _, _, _, _, _, _, _, _, _, rfl, _⟩ := h; rfl)
  · obtain ⟨m, x, b, e, cs, ps, rfl, ⟨dx, l, hm, ld⟩, lx, hn, hp, hb, hlen, k⟩ := h
    have n1 := cut_len 0 b (rle cs)
    have n2 := cut_len e cs.length (rle cs)
    have cl_Memory := T.cl_Memory
    have na_Memory_pairs := T.na_Memory_pairs
    have na_Memory_wide := T.na_Memory_wide
    refine ⟨_, (pss_cons (ps_set (i := 4) sc_Memory_lay.nd rfl (Or.inl rfl) (d1 (ok_cut_out T) (hr.mono (by decide)) (by rfl) T.m_cut_out T.F_cut_out.kp T.b_cut_out passL (pa_cons (k_fld (K := K) rfl (pv 0) rfl) (pa_cons pe_int (pa_cons (pv 1) pa_nil)))))
      (pss_cons (ps_set (i := 5) sc_Memory_lay.nd rfl (Or.inl rfl) (d1 (ok_cut_out T) (hr.mono (by decide)) (by rfl) T.m_cut_out T.F_cut_out.kp T.b_cut_out passL (pa_cons (k_fld (K := K) rfl (pv 0) rfl) (pa_cons (pv 3) (pa_cons (k_fld (K := K) rfl (pv 0) rfl) pa_nil)))))
      (pss_one (k_sfld (K := K) rfl (pv 0) (d1 (ok_joined T) (hr.mono (by decide)) (by rfl) T.m_joined T.F_joined.kp T.b_joined passL (pa_cons (pe_op (k_add (K := K) rfl) (pe_op (k_add (K := K) rfl) (pv 4) (pv 2)) (pv 5)) pa_nil)) rfl)))), ?_⟩
    dsimp only [cxOf, st_1, st_2, st_3, st_4, st_5, st_6, List.length_cons, List.length_nil, List.replicate_succ, List.replicate_zero, Nat.reduceAdd, Nat.reduceSub]
    walk_at "gs"
    refine ⟨l, 0, b, rle cs, rfl, ld.dp, by omega, fun f H1 hf k1 lf => ?_⟩
    have ld1 : LD K H1 l ((rle cs).map d2) := by walk_at "g_ld"
    have lx1 : LD K H1 x (ps.map d2) := by walk_at "g_ld"
    walk_at "gs"
    refine ⟨l, e, cs.length, rle cs, rfl, ld1.dp, by omega, fun g H2 hg k2 lg => ?_⟩
    have lx2 : LD K H2 x (ps.map d2) := by walk_at "g_ld"
    have lf2 : LD K H2 f ((cut 0 b (rle cs)).map d2) := by walk_at "g_ld"
    obtain ⟨xv, hx, ax⟩ := lx2
    obtain ⟨fv, hfv, af⟩ := lf2
    obtain ⟨gv, hgv, ag⟩ := lg
    have lx3 := dpa_len ax
    have lf3 := dpa_len af
    have lg3 := dpa_len ag
    rw [List.length_map] at lx3 lf3 lg3
    walk_at "gs"
    refine i_new fun s hs => ?_
    walk_at "gs"
    refine i_new fun u hu => ?_
    walk_at "gs"
    have kk : Kp [] H2 (upd (upd H2 s (.lst (fv ++ xv))) u (.lst (fv ++ xv ++ gv))) := by walk_at "g_kp"
    refine ⟨u, cut 0 b (rle cs) ++ ps ++ cut e cs.length (rle cs), rfl, ?_, ?_, fun j H3 hj k3 lj => ?_⟩
    · refine LD.dp ⟨_, upd_same, ?_⟩
      rw [List.map_append, List.map_append]
      exact dpa_imm kk _ _ (by rw [← List.map_append, ← List.map_append]; exact imms_d2 _) (dpa_app (dpa_app af ax) ag)
    · rw [List.length_append, List.length_append]
      omega
    · rw [laid_rle] at lj
      walk_at "gs"
      refine k _ (by walk_at "g_kp") ⟨dx, j, ?_, ?_⟩ (fun b hb => off_mk upd_same (Ne.symm (fr_tr (tr_kp kk (tr_kp k2 (tr_kp k1 hb))) hj)))
      · rw [laid_len (by omega) (by omega) (by omega)]
        exact upd_same
      · walk_at "g_ld"

/-! ### a new instance -/
theorem i_made {C : Addr} {sp : Sp} {E : XK} {H : Hp} {Q : VK} {vs : Addr → List V}
    (h : ∀ x dx, Fr H x → Fr H dx → dx ≠ x → sp (vs x) (upd (upd H dx (.own x)) x (.ins C dx [])) (fun v H2 => v = .non ∧ Q (.ref x) H2) E) :
    Made C sp E H Q vs := fun x dx hx hd n => h x dx ⟨hx⟩ ⟨hd⟩ n
theorem kp_made {H H3 : Hp} {x dx : Addr} {o1 o2 : HO} (hx : Fr H x) (hd : Fr H dx) (k : Kp [x] (upd (upd H dx o1) x o2) H3) : Kp [] H H3 :=
  Kp.drop (Kp.trans (Kp.wide (Kp.upd (Kp.upd Kp.refl hd) hx)) k) hx
theorem wide_rle (cs : List Int) : wide (rle cs) = cs.length := by
  rw [← cells_len _ (rle_pos cs), cells_rle]

/-- a new memory -/
def NewMem (K : PySem.W.Frag) (C : Addr) (cs : List Int) (H : Hp) (Q : VK) : Prop :=
  ∀ m H', Fr H m → Kp [] H H' → MemAt K C H' m cs → (∀ b, Tr H b → Off H' m b) → Q (.ref m) H'
def sp_memory_of (K : PySem.W.Frag) (C : Addr) : Sp := fun vs H Q _ => ∃ (l : Addr) (cs : List Int), vs = [.ref l] ∧ Dp K H (.ref l) (.list ((rle cs).map d2)) ∧
  (1 ≤ cs.length ∧ cs.length ≤ 1000000000000000000) ∧ (rle cs).length ≤ 10000 ∧ NewMem K C cs H Q
theorem sc_memory_of : FnScope ["runs", "size", "found", "one", "many", "number"] ["runs"] (defScope s_memory_of) :=
  ⟨rfl, rfl, rfl, by decide +kernel, rfl, by decide +kernel, by decide +kernel⟩
theorem ok_memory_of {P : Program} {w : World} {K : PySem.W.Frag} {mg : Str → Option Value} {base : Heap} (T : Txt K mg) :
    FnG P w K mg base 7 T.a_memory_of T.d_memory_of ["runs"] (sp_memory_of K T.c_Memory) := by
  refine okD T.F_memory_of sc_memory_of (fun vs H Q E h => ?_) (fun cdv A outer s H vs Q E hr h => ?_)
  · first
      | (obtain ⟨_, rfl, _⟩ := h; rfl)
      | (obtain ⟨_, _, rfl, _⟩ := h; rfl)
      | (obtain ⟨_, _, _, rfl, _⟩ := h; rfl)
      | (obtain ⟨_, _, _, _, rfl, _⟩ := h; rfl)
      | (obtain ⟨_, _, _, _, _, rfl, _⟩ := h; rfl)
      | (obtain ⟨_, _, _, _, _, _, rfl, _⟩ := h; rfl)
      | (obtain ⟨_, _, _, _, _, _, _, rfl, _⟩ := h; rfl)
      | (obtain ⟨_, _, _, _, _, _, _, _, rfl, _⟩ := h; rfl)
      | (obtain ⟨_, _, _, _, _, _, _, _, _, rfl, _⟩ := h; rfl)
      | (obtain ⟨_, _, _, _, _, _, _, _, _, _, rfl, _⟩ := h; rfl)
      | (obtain ⟨_, _, _, _, _, _, _, _, _, _, _, rfl, _⟩ := h; rfl)
      | (obtain ⟨_, _, _, _, _, _, _, _, _, _, _, _, rfl, _⟩ := h; rfl)
      | (obtain ⟨_, _, _, _, _, _, _, _, _, _, _, _, _, rfl, _⟩ := h; rfl)
      | (obtain ⟨_, _, _, _, _, _, _, _, _, _, _, _, _, _, rfl, _⟩ := h; rfl)
      | (obtain ⟨_, _, _, _, _, _, _, _, _, _, _, _, _, _, _, rfl, _⟩ := h; rfl)
      | (obtain ⟨_, _, _, _, _, _, _, _, _, _, _, _, _, _, _, _, rfl, _⟩ := h; rfl)
      | (obtain ⟨_, _, _, _, _, _, _, _, _, _, _, _, _, _, _, _, _, rfl, _⟩ := h; rfl)
      | (obtain ⟨_, _, _, _, _, _, _, _, _, _, _, _, _, _, _, _, _, _, rfl, _⟩ := h; rfl)
      | (obtain ⟨_, _, _, _, _, _, _, _, _, _, _, _, _, _, _, _, _, _, _, rfl, _⟩ := h; rfl)
  · obtain ⟨l, cs, rfl, hD, hw, hn, k⟩ := h
    have hl := hD
    cases hl
    rename_i xs hsq hall
    have hxl := dpa_len hall
    rw [List.length_map] at hxl
    have cl_Memory := T.cl_Memory
    have na_Memory_pairs := T.na_Memory_pairs
    have na_Memory_wide := T.na_Memory_wide
    refine ⟨_, (pss_cons (ps_if (PW.pt (pw_or (pt_not (pt_val (pe_callB (k_isi (K := K) rfl) (by rfl) T.n_isinstance (by decide +kernel) (pa_cons (pv 0) (pa_cons (pe_bltn (v := .ty "list") (by rfl) T.n_list (by decide +kernel) rfl) pa_nil))))) (pw_or1 (pt_not (pt_val (pe_callB (k_all (K := K) rfl rfl) (by rfl) T.n_all (by decide +kernel) (pa_cons (pe_lc (own := [("one", 3)]) (g := (gName 3)) (tt := tYes) rfl sc_memory_of.nd (k_plist (K := K) rfl (pv 0)) (blkOk_by (own := [("one", 3)]) (N := ["runs", "size", "found", "one", "many", "number"]) (sc := defScope s_memory_of) (by decide +kernel)) (fun _ _ _ _ _ => (pg_name (i := 3) sc_memory_of.nd rfl (Or.inl rfl))) (fun _ _ _ _ _ => pts_nil) (fun _ _ _ _ _ => (d1 (ok_is_run T) (hr.mono (by decide)) (by rfl) T.m_is_run T.F_is_run.kp T.b_is_run passL (pa_cons (pv 3) pa_nil)))) pa_nil))))))) (pss_one ps_never) pss_nil)
      (pss_cons (ps_set (i := 1) sc_memory_of.nd rfl (Or.inl rfl) (pe_callB (k_sum (K := K) rfl rfl) (by rfl) T.n_sum (by decide +kernel) (pa_cons (pe_lc (own := [("many", 4), ("number", 5)]) (g := (gTup K 2 (gCons (gName 4) (gCons (gName 5) gNil)))) (tt := tYes) rfl sc_memory_of.nd (k_plist (K := K) rfl (pv 0)) (blkOk_by (own := [("many", 4), ("number", 5)]) (N := ["runs", "size", "found", "one", "many", "number"]) (sc := defScope s_memory_of) (by decide +kernel)) (fun _ _ _ _ _ => (k_gtup (K := K) 2 rfl rfl (pgs_cons (pg_name (i := 4) sc_memory_of.nd rfl (Or.inl rfl)) (pgs_cons (pg_name (i := 5) sc_memory_of.nd rfl (Or.inl rfl)) pgs_nil)))) (fun _ _ _ _ _ => pts_nil) (fun _ _ _ _ _ => (pv 4))) pa_nil)))
      (pss_cons (ps_if (PW.pt (pw_or (pt_not (pt_val (d1 (ok_is_size T) (hr.mono (by decide)) (by rfl) T.m_is_size T.F_is_size.kp T.b_is_size passL (pa_cons (pv 1) pa_nil)))) (pw_or1 (pt_not (pt_val (d1 (ok_are_runs T) (hr.mono (by decide)) (by rfl) T.m_are_runs T.F_are_runs.kp T.b_are_runs passL (pa_cons (pv 0) (pa_cons (pv 1) pa_nil)))))))) (pss_one ps_never) pss_nil)
      (pss_cons (ps_set (i := 2) sc_memory_of.nd rfl (Or.inl rfl) (mk1 T.mk_Memory (ok_Memory_init T) (hr.mono (by decide)) (by rfl) T.mg_Memory T.b_Memory_init passL (pa_cons (pv 1) pa_nil)))
      (pss_cons (ps_expr (dm T.cl_Memory T.me_Memory_lay (ok_Memory_lay T) (hr.mono (by decide)) T.b_Memory_lay passL (pv 2) (pa_cons pe_int (pa_cons (pe_callTy (k_list (K := K) rfl) (by rfl) T.n_list (by decide +kernel) (pa_cons (pv 0) pa_nil)) (pa_cons (pv 1) pa_nil)))))
      (pss_one (ps_ret (pv 2)))))))), ?_⟩
    dsimp only [cxOf, st_1, st_2, st_3, st_4, st_5, st_6, List.length_cons, List.length_nil, List.replicate_succ, List.replicate_zero, Nat.reduceAdd, Nat.reduceSub]
    walk_at "gs"
    refine i_isD hD (show kitB "list" "list" = some true by decide +kernel) ?_
    walk_at "gs"
    refine i_mapL hsq (List.replicate xs.length (.bl true)) (by rw [List.length_replicate]) (by omega) ?_ ?_
    · intro D i x y H' Q' fD hx hy k1 q
      obtain ⟨d, hd, hdp⟩ := dpa_getV hall hx
      obtain ⟨p, hp, rfl⟩ := map_get hd
      obtain ⟨t, rfl, hT⟩ := dp_pair (dp_imm k1 _ _ rfl hdp)
      have hy2 := rep_get hy
      subst hy2
      walk_at "gs"
      exact ⟨t, p.1, p.2, rfl, hT, rle_pos cs p (List.mem_of_getElem? hp), q H' Kp.refl⟩
    intro D1 H1 fD1 k1 e1
    walk_at "gs"
    have eb : List.replicate xs.length (V.bl true) = (List.replicate xs.length true).map V.bl := by rw [List.map_replicate]
    rw [eb] at e1
    refine i_all (SqL.of e1) ?_
    rw [all_true]
    walk_at "gs"
    refine i_mapL (k1.seqL not_nil hsq) (((rle cs).map (·.1)).map V.int) (by rw [List.length_map, List.length_map]; omega) (by omega) ?_ ?_
    · intro D i x y H' Q' fD hx hy k3 q
      obtain ⟨d, hd, hdp⟩ := dpa_getV hall hx
      obtain ⟨p, hp, rfl⟩ := map_get hd
      obtain ⟨t, rfl, hT⟩ := dp_pair (dp_imm (Kp.trans k1 k3) _ _ rfl hdp)
      rw [List.getElem?_map, List.getElem?_map, hp] at hy
      cases hy
      walk_at "gs"
      exact q H' Kp.refl
    intro D2 H2 fD2 k2 e2
    walk_at "gs"
    refine i_sum (SqL.of e2) ?_
    have es : ((rle cs).map (·.1)).sum = cs.length := wide_rle cs
    rw [es]
    have k02 := Kp.trans k1 k2
    have hD2 : Dp K H2 (.ref l) (.list ((rle cs).map d2)) := .lst (k02.seqL not_nil hsq) (dpa_imm k02 _ _ (imms_d2 _) hall)
    walk_at "gs"
    refine ⟨_, rfl, ?_⟩
    walk_at "gs"
    refine i_decN (fun z => absurd (by omega) z) (fun _ => ?_)
    walk_at "gs"
    refine ⟨l, rle cs, cs.length, rfl, hD2, rle_pos cs, apart_wr _, by omega, wide_rle cs, fun H3 k3 => ?_⟩
    walk_at "gs"
    refine i_made fun m d hm hd nd => ?_
    refine ⟨m, d, cs.length, .int 0, rfl, upd_same, .inr ⟨0, rfl, by omega, fun H4 k4 M4 _ => ⟨rfl, ?_⟩⟩⟩
    have k34 := kp_made hm hd k4
    have k04 : Kp [] H H4 := Kp.trans k02 (Kp.trans k3 k34)
    have hsq4 := k04.seqL not_nil hsq
    obtain ⟨dx, lm, hmi, ldm⟩ := id M4
    walk_at "gs"
    refine i_new fun x hx => ?_
    walk_at "gs"
    have kx : Kp [] H4 (upd H4 x (.lst xs)) := Kp.new hx
    have lx : LD K (upd H4 x (.lst xs)) x ((rle cs).map d2) := ⟨xs, upd_same, dpa_imm (Kp.trans k04 kx) _ _ (imms_d2 _) hall⟩
    rw [Int.toNat_natCast] at M4
    refine ⟨m, x, 0, cs.length, List.replicate cs.length 0, rle cs, rfl, mem_upd M4 hx, lx, ?_, hn, ?_, ?_, fun H5 k5 M5 of5 => ?_⟩
    · have e := rle_one (n := cs.length) (v := 0) (by omega)
      rw [Int.toNat_natCast] at e
      rw [e]
      exact one_few
    · rw [List.length_replicate]
      omega
    · rw [cells_rle]
      omega
    · have el : laid (List.replicate cs.length 0) 0 cs cs.length = cs := by
        unfold laid
        rw [List.take_zero, List.nil_append, List.drop_eq_nil_of_le (by rw [List.length_replicate]; omega), List.append_nil]
      rw [cells_rle, Int.toNat_natCast] at M5
      have el2 : laid (List.replicate cs.length 0) (0 : Int).toNat cs cs.length = cs := el
      rw [el2] at M5
      walk_at "gs"
      have hm0 : Fr H m := (Kp.trans k02 k3).free hm
      exact k m H5 hm0 (Kp.drop (Kp.trans (Kp.wide (Kp.trans k04 kx)) k5) hm0) M5 (fun b hb => of5 b (tr_kp (Kp.trans k04 kx) hb))
def sp_copied (K : PySem.W.Frag) (C : Addr) : Sp := fun vs H Q _ => ∃ (m0 : Addr) (cs : List Int), vs = [.ref m0] ∧ MemAt K C H m0 cs ∧
  (1 ≤ cs.length ∧ cs.length ≤ 1000000000000000000) ∧ (rle cs).length ≤ 10000 ∧ NewMem K C cs H Q
theorem sc_Memory_copied : FnScope ["self"] ["self"] (defScope s_Memory_copied) :=
  ⟨rfl, rfl, rfl, by decide +kernel, rfl, by decide +kernel, by decide +kernel⟩
theorem ok_Memory_copied {P : Program} {w : World} {K : PySem.W.Frag} {mg : Str → Option Value} {base : Heap} (T : Txt K mg) :
    FnG P w K mg base 8 T.a_Memory_copied T.d_Memory_copied ["self"] (sp_copied K T.c_Memory) := by
  refine okD T.F_Memory_copied sc_Memory_copied (fun vs H Q E h => ?_) (fun cdv A outer s H vs Q E hr h => ?_)
  · first
      | (obtain ⟨_, rfl, _⟩ := h; rfl)
      | (obtain ⟨_, _, rfl, _⟩ := h; rfl)
      | (obtain ⟨_, _, _, rfl, _⟩ := h; rfl)
      | (obtain ⟨_, _, _, _, rfl, _⟩ := h; rfl)
      | (obtain ⟨_, _, _, _, _, rfl, _⟩ := h; rfl)
      | (obtain ⟨_, _, _, _, _, _, rfl, _⟩ := h; rfl)
      | (obtain ⟨_, _, _, _, _, _, _, rfl, _⟩ := h; rfl)
      | (obtain ⟨_, _, _, _, _, _, _, _, rfl, _⟩ := h; rfl)
      | (obtain ⟨_, _, _, _, _, _, _, _, _, rfl, _⟩ := h; rfl)
      | (obtain ⟨_, _, _, _, _, _, _, _, _, _, rfl, _⟩ := h; rfl)
      | (obtain ⟨_, _, _, _, _, _, _, _, _, _, _, rfl, _⟩ := h; rfl)
      | (obtain ⟨_, _, _, _, _, _, _, _, _, _, _, _, rfl, _⟩ := h; rfl)
      | (obtain ⟨_, _, _, _, _, _, _, _, _, _, _, _, _, rfl, _⟩ := h; rfl)
      | (obtain ⟨_, _, _, _, _, _, _, _, _, _, _, _, _, _, rfl, _⟩ := h; rfl)
      | (obtain ⟨_, _, _, _, _, _, _, _, _, _, _, _, _, _, _, rfl, _⟩ := h; rfl)
      | (obtain ⟨_, _, _, _, _, _, _, _, _, _, _, _, _, _, _, _, rfl, _⟩ := h; rfl)
      | (obtain ⟨_, _, _, _, _, _, _, _, _, _, _, _, _, _, _, _, _, rfl, _⟩ := h; rfl)
      | (obtain ⟨_, _, _, _, _, _, _, _, _, _, _, _, _, _, _, _, _, _, rfl, _⟩ := h; rfl)
      | (obtain ⟨_, _, _, _, _, _, _, _, _, _, _, _, _, _, _, _, _, _, _, rfl, _⟩ := h; rfl)
  · obtain ⟨m0, cs, rfl, ⟨dx, l, hm, ld⟩, hw, hn, k⟩ := h
    have cl_Memory := T.cl_Memory
    have na_Memory_pairs := T.na_Memory_pairs
    have na_Memory_wide := T.na_Memory_wide
    refine ⟨_, (pss_one (ps_ret (d1 (ok_memory_of T) (hr.mono (by decide)) (by rfl) T.m_memory_of T.F_memory_of.kp T.b_memory_of passL (pa_cons (k_fld (K := K) rfl (pv 0) rfl) pa_nil)))), ?_⟩
    dsimp only [cxOf, st_1, st_2, st_3, st_4, st_5, st_6, List.length_cons, List.length_nil, List.replicate_succ, List.replicate_zero, Nat.reduceAdd, Nat.reduceSub]
    walk_at "gs"
    exact ⟨l, cs, rfl, ld.dp, hw, hn, k⟩

/-! ### dicts of numbers, each True; sorted -/
theorem u1 {n : Nat} (h : n + 64 < cLine) : n + 1 < cLine := Nat.lt_of_le_of_lt (Nat.add_le_add_left (by decide) n) h
theorem k_sorted {X : Cx} {K : PySem.W.Frag} (h : X.K = K) : CallR X (.builtin "sorted") (rSortedI K) := h ▸ cr_sortedI
def rListD : List V → Hp → VK → Prop := fun xs H Q => ∃ (a : Addr) (kvs : List (Key × V)), xs = [.ref a] ∧ Rd H a (.dK kvs) ∧
  ∀ p, H p = none → Q (.ref p) (upd H p (.lst (kvs.map fun kv => kV kv.1)))
theorem k_listD {X : Cx} (h : X.calm = true) : CallR X (.type "list") rListD := call_listD h
def kT (n : Int) : Key × V := (.inl n, .bl true)
def addK (ns : List Int) (n : Int) : List Int := if n ∈ ns then ns else ns ++ [n]
theorem put_kT (ns : List Int) (n : Int) : putK (ns.map kT) (.inl n) (.bl true) = (addK ns n).map kT := by
  unfold putK addK
  have e1 : ((ns.map kT).any fun kv => decide (kv.1 = Sum.inl n)) = decide (n ∈ ns) := by
    induction ns with
    | nil => rfl
    | cons m ns ih =>
      rw [List.map_cons, List.any_cons, ih]
      by_cases c : m = n
      · subst c
        simp [kT]
      · have c2 : ¬ n = m := fun z => c z.symm
        simp [kT, c, c2]
  rw [e1]
  by_cases c : n ∈ ns
  · rw [if_pos (decide_eq_true c), if_pos c, List.map_map]
    refine List.map_congr_left fun m _ => ?_
    show (if (kT m).1 = Sum.inl n then ((kT m).1, V.bl true) else kT m) = kT m
    split <;> rfl
  · rw [if_neg (by simp [c]), if_neg c, List.map_append]
    rfl
theorem addK_len (ns : List Int) (n : Int) : (addK ns n).length ≤ ns.length + 1 := by
  unfold addK
  split
  · omega
  · simp
theorem foldK_len : ∀ (ms ns : List Int), (ms.foldl addK ns).length ≤ ns.length + ms.length
  | [], ns => Nat.le_refl _
  | m :: ms, ns => by
    have h := foldK_len ms (addK ns m)
    have h2 := addK_len ns m
    rw [List.foldl_cons, List.length_cons]
    omega
theorem mem_addK {ns : List Int} {n x : Int} : x ∈ addK ns n ↔ x ∈ ns ∨ x = n := by
  unfold addK
  by_cases c : n ∈ ns
  · rw [if_pos c]
    refine ⟨.inl, fun h => h.elim id fun e => by rw [e]; exact c⟩
  · rw [if_neg c, List.mem_append, List.mem_singleton]
theorem mem_foldK {x : Int} : ∀ (ms ns : List Int), x ∈ ms.foldl addK ns ↔ x ∈ ns ∨ x ∈ ms
  | [], ns => by simp
  | m :: ms, ns => by
    rw [List.foldl_cons, mem_foldK ms, mem_addK, List.mem_cons]
    constructor
    · rintro ((h | h) | h)
      · exact .inl h
      · exact .inr (.inl h)
      · exact .inr (.inr h)
    · rintro (h | h | h)
      · exact .inl (.inl h)
      · exact .inl (.inr h)
      · exact .inr h
theorem addK_nd {ns : List Int} {n : Int} (h : ns.Nodup) : (addK ns n).Nodup := by
  unfold addK
  by_cases c : n ∈ ns
  · rw [if_pos c]
    exact h
  · rw [if_neg c]
    refine List.nodup_append.mpr ⟨h, by simp, fun a ha b hb e => ?_⟩
    rw [List.mem_singleton.mp hb] at e
    rw [e] at ha
    exact c ha
theorem foldK_nd : ∀ (ms ns : List Int), ns.Nodup → (ms.foldl addK ns).Nodup
  | [], _, h => h
  | m :: ms, ns, h => foldK_nd ms _ (addK_nd h)
section
variable {K : PySem.W.Frag} {H : Hp} {Q : VK} {a l b : Addr} {ns : List Int} {n : Int} {σ : L2.St} {xs ys : List V} {P : Hp → Prop}
theorem i_sorted (h : SqL K H a (ns.map V.int)) (q : ∀ (ns' : List Int) (p : Addr), ns'.Perm ns → ns'.Pairwise (· ≤ ·) → Fr H p → Q (.ref p) (upd H p (.lst (ns'.map V.int)))) :
    rSortedI K [.ref a] H Q := ⟨a, ns, rfl, h, fun ns' p h1 h2 h3 => q ns' p h1 h2 ⟨h3⟩⟩
theorem i_listD (h : H a = some (.dK (ns.map kT))) (q : New H fun p => Q (.ref p) (upd H p (.lst (ns.map V.int)))) : rListD [.ref a] H Q := by
  refine ⟨a, _, rfl, Rd.of h, fun p hp => ?_⟩
  have e : ((ns.map kT).map fun kv => kV kv.1) = ns.map V.int := by
    rw [List.map_map]
    rfl
  rw [e]
  exact q p hp
theorem i_setD (h : H a = some (.dK (ns.map kT))) (hl : ns.length ≤ 1000000) (q : P (upd H a (.dK ((addK ns n).map kT)))) :
    rSetD (.ref a) (.int n) (.bl true) H P := by
  refine ⟨a, _, rfl, DPut.k (k := .inl n) h (by rw [List.length_map]; exact small_sz hl), ?_⟩
  rw [put_kT]
  exact q
theorem i_dict0 (q : New H fun p => Q (.ref p) (upd (upd H p (.dK [])) p (.dK ([(0 : Int)].map kT)))) : tDisp [(tC (.int 0), tC (.bl true))] σ H Q :=
  fun p hp => ⟨upd_same, [kT 0], rfl, by decide, q p hp⟩
theorem i_extend (h1 : H l = some (.lst xs)) (h2 : H b = some (.lst ys)) (hz : xs.length + ys.length ≤ 1000000) (q : Q .non (upd H l (.lst (xs ++ ys)))) :
    rExtend (.ref l) [.ref b] H Q := ⟨l, b, xs, ys, rfl, rfl, h1, h2, Nat.le_trans hz (by decide), q⟩
end
section
variable {σ : L2.St} {H H1 : Hp} {Q : VK} {d : Addr} {g : TG} {tt : TT} {te td : TE} {vs : List Nat} {o : Obj} {ns : List Int}
def LcB (J : It) (g : TG) (tt : TT) (te : TE) (vs : List Nat) (σ : L2.St) (H1 : Hp) (Q : VK) : Prop := ∀ D, H1 D = none →
    ∃ W : Nat → Nat → Hp → Prop, (∃ m, W 0 m (upd H1 D (.lst []))) ∧ ∀ i m H, W i m H →
      (J.stop i H ∧ Q (.ref D) H) ∨ (J.go i H ∧ ∃ Nx : Hp → Prop,
        (∀ H', Nx H' → ∃ m', m' < m ∧ W (i + 1) m' H') ∧
        ∀ x H', J.yld i H x H' → g x (wipe σ vs) H' fun σ2 H2 => wipe σ2 vs = wipe σ vs ∧ tt σ2 H2 fun b H3 =>
          if b = true then te σ2 H3 fun y H4 => ∃ acc, H4 D = some (.lst acc) ∧ acc.length < sizeLine ∧
            Nx (upd H4 D (.lst (acc ++ [y]))) else Nx H3)
def LcK (x : V) (g : TG) (tt : TT) (te : TE) (vs : List Nat) (σ : L2.St) (H1 : Hp) (Q : VK) : Prop := ∃ d o, x = .ref d ∧
  ((∃ kvs, H1 d = some (.frz o (.dK kvs)) ∧ LcB (Itk d o kvs) g tt te vs σ H1 Q) ∨ ∃ kvs, H1 d = some (.frz o (.dT kvs)) ∧ LcB (Itkt d o kvs) g tt te vs σ H1 Q)
theorem i_lcK (h : td σ H fun x H1 => LcK x g tt te vs σ H1 Q) : tLc (iKeys td) g tt te vs σ H Q := h
theorem i_keyz (hd : H d = some (.frz o (.dK (ns.map kT)))) (Pv : Addr → Nat → Hp → Prop)
    (h0 : ∀ R, Fr H R → Pv R 0 (upd H R (.lst [])))
    (hl : ∀ R i H', Fr H R → Pv R i H' → H' d = some (.frz o (.dK (ns.map kT))))
    (st : ∀ R i n H', Fr H R → ns[i]? = some n → Pv R i H' → g (.int n) (wipe σ vs) H' fun σ2 H2 =>
      wipe σ2 vs = wipe σ vs ∧ tt σ2 H2 fun b H3 => if b = true then te σ2 H3 fun y H4 =>
        ∃ acc, H4 R = some (.lst acc) ∧ acc.length < sizeLine ∧ Pv R (i + 1) (upd H4 R (.lst (acc ++ [y])))
        else Pv R (i + 1) H3)
    (hdn : ∀ R H', Fr H R → Pv R ns.length H' → Q (.ref R) H') : LcK (.ref d) g tt te vs σ H Q := by
  refine ⟨d, o, rfl, .inl ⟨_, hd, fun R hR => ⟨fun i m H' => m = ns.length - i ∧ i ≤ ns.length ∧ Pv R i H', ⟨_, rfl, Nat.zero_le _, h0 R ⟨hR⟩⟩, ?_⟩⟩⟩
  rintro i m H' ⟨rfl, hi, z⟩
  have q := hl R i H' ⟨hR⟩ z
  by_cases c : i < ns.length
  · refine .inr ⟨⟨q, by rw [List.length_map]; exact c⟩, Pv R (i + 1), fun H2 w => ⟨_, by omega, rfl, c, w⟩, ?_⟩
    rintro x H2 ⟨rfl, k, v, e, rfl⟩
    obtain ⟨n, hn, e2⟩ := map_get e
    cases e2
    exact st R i n _ ⟨hR⟩ hn z
  · have e : i = ns.length := by omega
    exact .inl ⟨⟨q, by rw [List.length_map]; omega⟩, hdn R H' ⟨hR⟩ (by rw [← e]; exact z)⟩
end

/-! ### len(o) by the text's own method -/
section
variable {X : Cx} {K : PySem.W.Frag} {k : Nat} {C f : Addr} {fd : FuncData} {ps : List Str} {sp : Sp} {E : XK}
theorem run_in {A : Around} {pins : List (Addr × Obj)} {σ : L2.St} {H : Hp} {s : Shared} {Q : VK} {vs : List V} {us : List Value}
    (F : Fg X k f fd ps sp) (z : RoomG k A) (hA : A.frames = X.A.frames) (hb : BindsD X.K fd ps []) (hx : Ps X E)
    (I : Inv X pins σ H s) (r : Vals vs us) (h : sp vs H Q E) :
    wpAny (model X.prog X.w) A (call (.ref f) us) (EP X pins σ Q) X.xe s := by
  obtain ⟨ds, hd, hb⟩ := hb
  cases hd
  have e := I.env0
  have e0 : Env0 X.prog X.w X.K X.mg X.base A X.stack s H :=
    ⟨by rw [hA]; exact e.frames, e.mod, e.bs, e.bsz, e.funs, e.frf, e.hok, e.bare⟩
  have hl : (us ++ []).length = ps.length := by
    rw [List.append_nil, ← r.length]
    exact F.len _ _ _ _ h
  have b := hb s us I.kIn hl
  rw [List.append_nil] at b
  refine wpAny_call (codeAny_mono (F.run A X.stack s H ⟨us, []⟩ us vs Q E z e0 b r h) ?_)
  intro q s' hq
  match q, hq with
  | .error e, hq => exact hx pins σ H s e s' I hq
  | .ok (.ret u), hq => exact I.after hq
  | .ok .next, hq => exact False.elim hq
  | .ok .brk, hq => exact False.elim hq
  | .ok .cont, hq => exact False.elim hq
theorem RoomG.in1 {k : Nat} {A : Around} (z : RoomG (k + 1) A) : RoomG k A.in1 := ⟨z.r.in1, z.g⟩
end

/-! ### ==, != by the text's own __eq__ -/
section
open PySem.Calls PyProof.Rows
theorem ne_entry : entryFor table "object.__ne__" = some Builtin.«object.__ne__» := PySem.F.cmpEntry_ne
theorem ne_bind (self : Value) : bindSpecial (.builtin "object.__ne__") self = pure (.builtin "object.__ne__", [self]) :=
  (Slot.of (T := "object") (name := "__ne__") (owner := "object") (n := "__ne__") (by rw [typeLookup_type, builtinLookup_eq_fast]; kernel_rfl) (by decide +kernel) (by decide +kernel) (by decide +kernel)
    (.inl (by decide +kernel)) (by rw [isSubtype_type]; kernel_rfl)).bind self
section
open PySem.W
variable {prog : Program} {w : World} {A : Around} {E : Value → Shared → Prop} {s : Shared} {K : PySem.W.Frag} {x C L f : Addr} {h₀ : Heap} {m : Str → Option Value} {ox : Obj} {od : Option Obj} {b tb : Value}
/-- the wrapper that stands in object's class, found for an instance of C and bound to it -/
theorem ne_bound {M : Model} {Q : Option (Value × List Value) → Shared → Prop} (inn : K.In s.heap) (J : InstAt s.heap x ox C od)
    (at_ : findIn K (.ref C) "__ne__" = some (some (.builtin "object.__ne__"))) (q : Q (some (.builtin "object.__ne__", [.ref x])) s) :
    wpAny M A (bindSpecialIfBound? (.ref x) "__ne__") Q E s := by
  have step : ∀ {P : Option (Value × List Value) → Shared → Prop}, P (some (.builtin "object.__ne__", [.ref x])) s →
      wpAny M A (bindSpecial (.builtin "object.__ne__") (.ref x) >>= fun r => pure (some r)) P E s := fun {P} r => by
    rw [ne_bind]
    exact wpAny_bind (wpAny_pure (wpAny_pure r))
  unfold bindSpecialIfBound?
  apply wpAny_bind
  apply wpAny_bind
  refine J.type.here ((looks_findIn inn at_).here ?_)
  apply wpAny_bind
  refine wpAny_askSetting ?_
  by_cases c : (⟨M.prog, M.w.params⟩ : Setting).params.followText "special-get-raises" = true
  · rw [if_pos c]
    exact step q
  · rw [if_neg c]
    exact wpAny_tryCatch (step q)
def NeB (Q : Value → Shared → Prop) (v : Value) (s' : Shared) : Prop := ∃ t, v = .bool t ∧ Q (.bool (!t)) s'
/-- object.__ne__ asks the text's own __eq__ and turns it about -/
theorem ne_asked {P : Fin → Shared → Prop} (room : A.units < cLine) (inn : K.In s.heap) (J : InstAt s.heap x ox C od)
    (eq_ : findIn K (.ref C) "__eq__" = some (some (.ref f))) (fn_ : isFn K (.ref f) = true)
    (h : wpAny (model prog w) A (call (.ref f) [.ref x, b]) (fun v s' => ∃ t, v = .bool t ∧ P (.done (.ret (.bool (!t)))) s') E s) :
    wpAny (model prog w) A (Builtin.«object.__ne__» ⟨[.ref x, b], []⟩) P E s := by
  unfold Builtin.«object.__ne__»
  apply wpAny_bind
  apply wpAny_pure
  apply wpAny_bind
  refine wpAny_cRoomFor room (wpAny_bind (ifBound_K inn J eq_ fn_ (wpAny_mono h ?_ fun _ _ z => z)))
  rintro v s' ⟨t, rfl, r⟩
  apply wpAny_bind
  exact wpAny_truthy_bool (wpAny_pure r)
theorem ne_K {Q : Value → Shared → Prop} (room : A.units + 1 < cLine) (frame : PyProof.Rows.Fr h₀ L s.heap m) (inn₀ : K.In h₀) (J : InstAt s.heap x ox C od)
    (tyb : Looks (model prog w) s.heap (typeOf b) tb) (nf : notFirst K C tb = true) (at_ : findIn K (.ref C) "__ne__" = some (some (.builtin "object.__ne__")))
    (eq_ : findIn K (.ref C) "__eq__" = some (some (.ref f))) (fn_ : isFn K (.ref f) = true) (ob : mroIn K C (.type "object") = some true)
    (h : wpAny (model prog w) A.in1 (call (.ref f) [.ref x, b]) (NeB Q) E s) : wpAny (model prog w) A (richCompare .NotEq (.ref x) b) Q E s := by
  have inn := inn₀.keeps frame.keep
  have is_ob : Looks (model prog w) s.heap (isInstance (.ref x) (.type "object")) true := J.type.andThen (looks_subIn inn ob)
  have told : wpAny (model prog w) A (tryCompare (.ref x) "__ne__" b) (fun r s' => ∃ v, r = some v ∧ Q v s') E s := by
    unfold tryCompare callSpecialIfBound?
    refine wpAny_bind (wpAny_holding (wpAny_bind (ne_bound inn J at_ ?_)))
    refine wpAny_bind (wpAny_call (codeAny_call_builtin (by decide +kernel) ne_entry
      (check_slot (M := model prog w) (owner := "object") (n := "__ne__") (by decide +kernel) (by decide +kernel) is_ob (PySem.F.cmpArgs_ne _ _) ?_)))
    refine ne_asked (A := A.in1) room inn J eq_ fn_ (wpAny_mono h ?_ fun _ _ z => z)
    rintro v s' ⟨t, rfl, r⟩
    exact ⟨t, rfl, wpAny_pure (wpAny_pure ⟨_, rfl, r⟩)⟩
  unfold richCompare
  simp only [oneThing_ref]
  refine wpAny_holding (wpAny_bind (wpAny_cRoomFor (Nat.lt_of_succ_lt room) ?_))
  apply wpAny_bind
  refine J.type.here ?_
  apply wpAny_bind
  refine tyb.here ?_
  split
  · rename_i e
    have le : subIn K tb (.ref C) = some false := by
      unfold notFirst at nf
      rw [Bool.or_eq_true] at nf
      rcases nf with z | z
      · rw [beq_iff_eq.mp z] at e
        simp at e
      · exact beq_iff_eq.mp z
    apply wpAny_bind
    refine (looks_subIn inn le).here ?_
    rw [if_neg Bool.false_ne_true]
    apply wpAny_bind
    refine wpAny_mono told ?_ fun _ _ z => z
    rintro r s' ⟨v, rfl, z⟩
    exact wpAny_pure z
  · apply wpAny_bind
    apply wpAny_pure
    rw [if_neg Bool.false_ne_true]
    apply wpAny_bind
    refine wpAny_mono told ?_ fun _ _ z => z
    rintro r s' ⟨v, rfl, z⟩
    exact wpAny_pure z
end
end
section
variable {X : Cx} {K : PySem.W.Frag} {k : Nat} {C f : Addr} {fd : FuncData} {ps : List Str} {sp : Sp} {E : XK}
/-- the types of values that are no instances of the class at C -/
def Other (K : PySem.W.Frag) (C : Addr) (t : Value) : Prop := PySem.W.kitOne K t (.ref C) = some false ∧ PySem.W.notFirst K C t = true
def rCmpM (K : PySem.W.Frag) (C : Addr) (sp : Sp) (E : XK) (g : Bool → Bool) : R2 := fun x y H Q => ∃ (a dx : Addr) (fs : List (Str × V)) (t : Value), x = .ref a ∧ H a = some (.ins C dx fs) ∧
  TyX K H y t ∧ PySem.W.notFirst K C t = true ∧ sp [x, y] H (fun v H' => ∃ b, v = .bl b ∧ Q (.bl (g b)) H') E
theorem k_eqM (h : X.K = K) (hm : Meth X.K C "__eq__" f) (F : Fg X k f fd ps sp) (z : RoomG k X.A) (hb : BindsD X.K fd ps []) (hx : Ps X E) :
    OpR X (compareOp .Eq) (rCmpM K C sp E id) := by
  subst h
  intro pins s σ H x y v u Q I rx ry h
  obtain ⟨a, dx, fs, t, rfl, ha, ty, nf, hsp⟩ := h
  cases rx
  obtain ⟨mA, J, _⟩ := ins_get I.hok ha
  obtain ⟨od, J, _⟩ := J.look
  obtain ⟨m, hF⟩ := I.fr
  obtain ⟨P, KX, hP, _⟩ := kit_of I ry ty
  unfold compareOp
  refine PySem.W.cmp_K (op := .Eq) (tb := t) z.r.units0 hF I.ok.mod.kin J (KX.ty _ _ I.kIn hP) nf hm.at_ hm.fn ?_
  have r0 : Vals [V.ref a, y] [Value.ref a, u] := .cons rfl (.cons ry .nil)
  refine wpAny_mono (run_in F z rfl hb hx I r0 hsp) ?_ (fun e s' q => q)
  rintro u s' ⟨v, H', I', rv, b, rfl, q⟩
  cases rv
  exact ⟨.bl b, H', I', rfl, q⟩
theorem k_neM (h : X.K = K) (hm : Meth X.K C "__eq__" f) (hne : PySem.W.findIn X.K (.ref C) "__ne__" = some (some (.builtin "object.__ne__")))
    (ho : PySem.W.mroIn X.K C (.type "object") = some true) (F : Fg X k f fd ps sp) (z : RoomG (k + 1) X.A) (hb : BindsD X.K fd ps []) (hx : Ps X E) :
    OpR X (compareOp .NotEq) (rCmpM K C sp E not) := by
  subst h
  intro pins s σ H x y v u Q I rx ry h
  obtain ⟨a, dx, fs, t, rfl, ha, ty, nf, hsp⟩ := h
  cases rx
  obtain ⟨mA, J, _⟩ := ins_get I.hok ha
  obtain ⟨od, J, _⟩ := J.look
  obtain ⟨m, hF⟩ := I.fr
  obtain ⟨P, KX, hP, _⟩ := kit_of I ry ty
  unfold compareOp
  refine ne_K (tb := t) (u1 z.r.units) hF I.ok.mod.kin J (KX.ty _ _ I.kIn hP) nf hne hm.at_ hm.fn ho ?_
  have r0 : Vals [V.ref a, y] [Value.ref a, u] := .cons rfl (.cons ry .nil)
  refine wpAny_mono (run_in F (RoomG.in1 z) rfl hb hx I r0 hsp) ?_ (fun e s' q => q)
  rintro u s' ⟨v, H', I', rv, b, rfl, q⟩
  cases rv
  exact ⟨b, rfl, .bl (!b), H', I', rfl, q⟩
def rReprM (C : Addr) (sp : Sp) (E : XK) : List V → Hp → VK → Prop := fun xs H Q => ∃ (a dx : Addr) (fs : List (Str × V)), xs = [.ref a] ∧ H a = some (.ins C dx fs) ∧
  sp [.ref a] H (fun v H' => ∃ t : Str, v = .str t ∧ Q (.str t) H') E
theorem k_reprM (h : X.K = K) (hm : Meth X.K C "__repr__" f) (F : Fg X k f fd ps sp) (z : RoomG (k + 1) X.A) (hb : BindsD X.K fd ps []) (hx : Ps X E) :
    CallR X (.builtin "repr") (rReprM C sp E) := by
  intro pins s σ H xs us Q I r h
  obtain ⟨a, dx, fs, rfl, ha, hsp⟩ := h
  obtain ⟨u, rfl, rx⟩ := vals1 r
  cases rx
  obtain ⟨mA, J, _⟩ := ins_get I.hok ha
  obtain ⟨od, J, _⟩ := J.look
  obtain ⟨m, hF⟩ := I.fr
  refine PySem.W.repr_K (RoomG.in1 z).r.units0 hF I.ok.mod.kin J hm.at_ hm.fn ?_
  have r0 : Vals [V.ref a] [Value.ref a] := .cons rfl .nil
  refine wpAny_mono (run_in F (RoomG.in1 z) rfl hb hx I r0 hsp) ?_ (fun e s' q => q)
  rintro u s' ⟨v, H', I', rv, n, rfl, q⟩
  obtain ⟨t, rfl⟩ := rv
  exact ⟨.str n, H', I', ⟨_, rfl⟩, q⟩
theorem i_cmpM {H : Hp} {Q : VK} {g : Bool → Bool} {y : V} {a dx : Addr} {fs : List (Str × V)} {t : Value} (ha : H a = some (.ins C dx fs)) (ty : TyX K H y t) (nf : PySem.W.notFirst K C t = true)
    (h : sp [.ref a, y] H (fun v H' => ∃ b, v = .bl b ∧ Q (.bl (g b)) H') E) : rCmpM K C sp E g (.ref a) y H Q := ⟨a, dx, fs, t, rfl, ha, ty, nf, h⟩
theorem i_reprM {H : Hp} {Q : VK} {a dx : Addr} {fs : List (Str × V)} (ha : H a = some (.ins C dx fs))
    (h : sp [.ref a] H (fun v H' => ∃ t : Str, v = .str t ∧ Q (.str t) H') E) : rReprM C sp E [.ref a] H Q := ⟨a, dx, fs, rfl, ha, h⟩
/-- {x!r}, x data that is a list -/
def tFmtD (K : PySem.W.Frag) (te : TE) : TE := fun σ H Q => te σ H fun x H1 => ∃ (a : Addr) (d : PyData), x = .ref a ∧ Dp K H1 x d ∧ shw d = true ∧ d.depth ≤ 60 ∧ cw d ≤ sizeLine ∧ Q (.str d.shown) H1
theorem k_fmtD {e : Expr} {te : TE} {pos : Pos} (h : X.K = K) (hg : X.A.guards = some []) (hu : X.A.units + 64 < cLine) (he : PE X e te) : PE X (.FormattedValue e 114 none pos) (tFmtD K te) := by
  subst h
  refine ⟨fun pins s σ H Q I h => ?_⟩
  refine wpAny_FormattedValue_repr (thn (he.run pins s σ H _ I h) fun v s1 hv => ?_)
  obtain ⟨x, H1, I1, r1, a, d, rfl, hd, hs, hdp, hz, q⟩ := hv
  obtain ⟨hs1, hs2⟩ := shw_showable d hs
  have hz2 := Nat.le_trans (shown_len d hs) hz
  cases r1
  obtain ⟨as, hr⟩ := Dp.reads I1 d _ _ hd rfl
  refine pyReprObj_of_reads hr hs1 (fun y => by rw [hs2] at y; cases y) hg (by omega) (fun _ _ e => e) (fun h' u tk hk => ?_) hz2
  have I2 := I1.kept (t' := tk) hk
  exact wpAny_formatField_str ⟨.str _, H1, I2, ⟨_, rfl⟩, q⟩ ⟨.str _, H1, I2.tok _, ⟨_, rfl⟩, q⟩ hz2
end

theorem eqv_int (a b : Int) : PyData.eqv (.int a) (.int b) = decide (a = b) := by
  simp only [PyData.eqv]
  by_cases h : a = b <;> simp [h]
theorem eqv_d2 (p q : Int × Int) : PyData.eqv (d2 p) (d2 q) = decide (p = q) := by
  simp only [PyData.eqv, PyData.eqvAll, Bool.and_true]
  obtain ⟨a, b⟩ := p
  obtain ⟨c, d⟩ := q
  rw [Bool.eq_iff_iff]
  simp
theorem eqv_pairs : ∀ l r : List (Int × Int), PyData.eqvAll (l.map d2) (r.map d2) = decide (l = r)
  | [], [] => rfl
  | [], _ :: _ => by simp [PyData.eqvAll]
  | _ :: _, [] => by simp [PyData.eqvAll]
  | p :: l, q :: r => by
    rw [List.map_cons, List.map_cons]
    simp only [PyData.eqvAll]
    have h := eqv_pairs l r
    have h2 := eqv_d2 p q
    rw [h, h2, Bool.eq_iff_iff]
    simp
theorem eqv_runs (l r : List (Int × Int)) : PyData.eqv (.list (l.map d2)) (.list (r.map d2)) = decide (l = r) := by
  simp only [PyData.eqv]
  exact eqv_pairs l r
theorem rle_eq (cs ds : List Int) : decide (rle cs = rle ds) = decide (cs = ds) := by
  by_cases h : cs = ds
  · rw [h]
    simp
  · rw [decide_eq_false h, decide_eq_false fun z => h (rle_inj z)]
/-- two lists of pairs -/
theorem eq_lists {K : PySem.W.Frag} {H : Hp} {Q : VK} {x y : V} {l r : List (Int × Int)} (hx : Dp K H x (.list (l.map d2))) (hy : Dp K H y (.list (r.map d2)))
    (h : Q (.bl (decide (l = r))) H) : uEq K x y H Q := by
  refine i_eqD hx hy (shaped_pairs _) (shaped_pairs _) ?_
  rw [eqv_runs]
  exact h
theorem ne_lists {K : PySem.W.Frag} {H : Hp} {Q : VK} {x y : V} {l r : List (Int × Int)} (hx : Dp K H x (.list (l.map d2))) (hy : Dp K H y (.list (r.map d2)))
    (h : Q (.bl (!decide (l = r))) H) : uNe K x y H Q := by
  refine i_neD hx hy (shaped_pairs _) (shaped_pairs _) ?_
  rw [eqv_runs]
  exact h
theorem ty_mem {K : PySem.W.Frag} {C : Addr} {H : Hp} {m : Addr} {cs : List Int} (ic : C8.InsC K C) (h : MemAt K C H m cs) : TyX K H (.ref m) (.ref C) := by
  obtain ⟨dx, l, e, _⟩ := h
  exact .base (.ins e ic.cl ic.ha ic.hn ic.htk ic.hm)
def sp_meq (K : PySem.W.Frag) (C : Addr) : Sp := fun vs H Q _ => ∃ (m : Addr) (cs : List Int) (y : V), vs = [.ref m, y] ∧ MemAt K C H m cs ∧
  ((∃ (m2 : Addr) (ds : List Int), y = .ref m2 ∧ MemAt K C H m2 ds ∧ ∀ H', Kp [] H H' → Q (.bl (decide (cs = ds))) H') ∨
   (∃ t, TyX K H y t ∧ PySem.W.kitOne K t (.ref C) = some false ∧ Q (.bl false) H))
theorem sc_Memory_eq : FnScope ["self", "other"] ["self", "other"] (defScope s_Memory_eq) :=
  ⟨rfl, rfl, rfl, by decide +kernel, rfl, by decide +kernel, by decide +kernel⟩
theorem ok_Memory_eq {P : Program} {w : World} {K : PySem.W.Frag} {mg : Str → Option Value} {base : Heap} (T : Txt K mg) :
    FnG P w K mg base 2 T.a_Memory_eq T.d_Memory_eq ["self", "other"] (sp_meq K T.c_Memory) := by
  refine okD T.F_Memory_eq sc_Memory_eq (fun vs H Q E h => ?_) (fun cdv A outer s H vs Q E hr h => ?_)
  · first
      | (obtain ⟨_, rfl, _⟩ := h; rfl)
      | (obtain ⟨_, _, rfl, _⟩ := h; rfl)
      | (obtain ⟨_, _, _, rfl, _⟩ := h; rfl)
      | (obtain ⟨_, _, _, _, rfl, _⟩ := h; rfl)
      | (obtain ⟨_, _, _, _, _, rfl, _⟩ := h; rfl)
      | (obtain ⟨_, _, _, _, _, _, rfl, _⟩ := h; rfl)
      | (obtain ⟨_, _, _, _, _, _, _, rfl, _⟩ := h; rfl)
      | (obtain ⟨_, _, _, _, _, _, _, _, rfl, _⟩ := h; rfl)
      | (obtain ⟨_, _, _, _, _, _, _, _, _, rfl, _⟩ := h; rfl)
      | (obtain ⟨_, _, _, _, _, _, _, _, _, _, rfl, _⟩ := h; rfl)
      | (obtain ⟨_, _, _, _, _, _, _, _, _, _, _, rfl, _⟩ := h; rfl)
      | (obtain ⟨_, _, _, _, _, _, _, _, _, _, _, _, rfl, _⟩ := h; rfl)
      | (obtain ⟨_, _, _, _, _, _, _, _, _, _, _, _, _, rfl, _⟩ := h; rfl)
      | (obtain ⟨_, _, _, _, _, _, _, _, _, _, _, _, _, _, rfl, _⟩ := h; rfl)
      | (obtain ⟨_, _, _, _, _, _, _, _, _, _, _, _, _, _, _, rfl, _⟩ := h; rfl)
      | (obtain ⟨_, _, _, _, _, _, _, _, _, _, _, _, _, _, _, _, rfl, _⟩ := h; rfl)
      | (obtain ⟨_, _, _, _, _, _, _, _, _, _, _, _, _, _, _, _, _, rfl, _⟩ := h; rfl)
      | (obtain ⟨_, _, _, _, _, _, _, _, _, _, _, _, _, _, _, _, _, _, rfl, _⟩ := h; rfl)
      | (obtain ⟨_, _, _, _, _, _, _, _, _, _, _, _, _, _, _, _, _, _, _, rfl, _⟩ := h; rfl)
  · obtain ⟨m, cs, y, rfl, ⟨dx, l, hm, ld⟩, hy⟩ := h
    have cl_Memory := T.cl_Memory
    have na_Memory_pairs := T.na_Memory_pairs
    have na_Memory_wide := T.na_Memory_wide
    refine ⟨_, (pss_one (ps_ret (pe_and (pe_callB (k_isi (K := K) rfl) (by rfl) T.n_isinstance (by decide +kernel) (pa_cons (pv 1) (pa_cons (pe_glob (v := .ref T.c_Memory) rfl T.mg_Memory rfl) pa_nil))) (pe_one (pe_cmpR (k_eq (K := K) rfl hr.r.units) (k_fld (K := K) rfl (pv 0) rfl) (dm0 T.cl_Memory T.me_Memory_runs (ok_Memory_runs T) (hr.mono (by decide)) T.b_Memory_runs passL (pv 1)) (nomark _)))))), ?_⟩
    dsimp only [cxOf, st_1, st_2, st_3, st_4, st_5, st_6, List.length_cons, List.length_nil, List.replicate_succ, List.replicate_zero, Nat.reduceAdd, Nat.reduceSub]
    walk_at "gs"
    rcases hy with ⟨m2, ds, rfl, M2, k⟩ | ⟨t, ty, no, k⟩
    · refine ⟨_, _, _, _, _, rfl, .own _, ty_mem T.ic_Memory M2, T.ic_Memory.me, ?_⟩
      walk_at "gs"
      obtain ⟨dx2, l2, hm2, ld2⟩ := id M2
      walk_at "gs"
      refine ⟨m2, ds, rfl, M2, fun r H1 fr k1 lr => ?_⟩
      have ld1 : LD K H1 l ((rle cs).map d2) := ld.kp k1 (imms_d2 _) not_nil
      walk_at "gs"
      refine eq_lists ld1.dp lr.dp ?_
      rw [rle_eq]
      exact k H1 k1
    · refine ⟨_, _, _, _, _, rfl, .own _, ty, no, ?_⟩
      walk_at "gs"
      exact k

theorem laid_get {cs xs : List Int} {b e x : Nat} (h : b ≤ e) (he : e ≤ cs.length) (hx : xs.length = e - b) :
    (laid cs b xs e)[x]? = if b ≤ x ∧ x < e then xs[x - b]? else cs[x]? := by
  unfold laid
  have l1 : (cs.take b).length = b := by rw [List.length_take]; omega
  by_cases c1 : x < b
  · rw [if_neg (by omega), List.append_assoc, List.getElem?_append_left (by omega), List.getElem?_take, if_pos c1]
  · by_cases c2 : x < e
    · rw [if_pos (by omega), List.append_assoc, List.getElem?_append_right (by omega), l1, List.getElem?_append_left (by omega)]
    · rw [if_neg (by omega), List.getElem?_append_right (by rw [List.length_append]; omega), List.length_append, l1, hx, List.getElem?_drop]
      congr 1
      omega

theorem run_cell {ps : List (Int × Int)} (h : ∀ q ∈ ps, 0 < q.1) {i : Nat} {p : Int × Int} (hp : ps[i]? = some p) {x : Nat}
    (h0 : wide (ps.take i) ≤ x) (h1 : (x : Int) < wide (ps.take i) + p.1) : (cells ps)[x]? = some p.2 := by
  obtain ⟨hi, e⟩ := List.getElem?_eq_some_iff.mp hp
  have hs : ps = ps.take i ++ (p :: ps.drop (i + 1)) := by
    rw [← e, ← List.drop_eq_getElem_cons hi, List.take_append_drop]
  have hl := cells_len (ps.take i) fun q hq => h q (List.mem_of_mem_take hq)
  rw [hs, cells_app, cells_cons, List.getElem?_append_right (by omega), List.getElem?_append_left (by rw [List.length_replicate]; omega),
    List.getElem?_replicate, if_pos (by omega)]
theorem wide_nn : ∀ ps : List (Int × Int), (∀ q ∈ ps, 0 < q.1) → 0 ≤ wide ps
  | [], _ => Int.le_refl _
  | p :: ps, h => by
    have ih := wide_nn ps fun q hq => h q (List.mem_cons_of_mem _ hq)
    have hp := h p List.mem_cons_self
    show 0 ≤ p.1 + wide ps
    omega

/-! ### while; three at once -/
theorem i_par3 {i j l : Nat} {tt : TA} {D : Ends} {σ : L2.St} {H : Hp}
    (h : tt σ H fun vs H1 => ∃ u v w, vs = [u, v, w] ∧ D.nx (((σ.set i (some u)).set j (some v)).set l (some w)) H1) : tPar3 i j l tt D σ H := h
theorem i_three {P : V → V → V → Prop} {x y z : V} (h : P x y z) : ∃ u v w, [x, y, z] = [u, v, w] ∧ P u v w := ⟨x, y, z, rfl, h⟩
theorem i_while {c : TT} {tb : TS} {D : Ends} {σ : L2.St} {H : Hp} (W : Nat → L2.St → Hp → Prop) (n : Nat) (h0 : W n σ H)
    (st : ∀ m σ H, W m σ H → c σ H fun b H1 => if b = true then ∃ N : L2.St → Hp → Prop, (∀ σ' H', N σ' H' → ∃ m', m' < m ∧ W m' σ' H') ∧ tb { D with nx := N, ct := N, bk := D.nx } σ H1 else D.nx σ H1) :
    tWhile c tb D σ H := ⟨W, ⟨n, h0⟩, st⟩
theorem i_loop {tb : TS} {D : Ends} {σ : L2.St} {H : Hp} {m : Nat} {W : Nat → L2.St → Hp → Prop}
    (h : tb { D with nx := fun σ' H' => ∃ m', m' < m ∧ W m' σ' H', ct := fun σ' H' => ∃ m', m' < m ∧ W m' σ' H', bk := D.nx } σ H) :
    ∃ N : L2.St → Hp → Prop, (∀ σ' H', N σ' H' → ∃ m', m' < m ∧ W m' σ' H') ∧ tb { D with nx := N, ct := N, bk := D.nx } σ H := ⟨_, fun _ _ h => h, h⟩

/-! ### where two memories are unlike -/
structure Part where
  b : Int
  e : Int
  h : Int
  g : Int
abbrev d4 (p : Part) : PyData := .tuple [.int p.b, .int p.e, .int p.h, .int p.g]
section
variable {K : PySem.W.Frag} {H : Hp}
theorem dp_four {v : V} {p : Part} (h : Dp K H v (d4 p)) : ∃ a, v = .ref a ∧ SqT K H a [.int p.b, .int p.e, .int p.h, .int p.g] := by
  cases h with
  | tup hs ha =>
    cases ha with
    | cons h1 ha =>
    cases ha with
    | cons h2 ha =>
    cases ha with
    | cons h3 ha =>
    cases ha with
    | cons h4 ha =>
    cases ha
    cases h1
    cases h2
    cases h3
    cases h4
    exact ⟨_, rfl, hs⟩
theorem dp_mk4 {a : Addr} {p : Part} (h : SqT K H a [.int p.b, .int p.e, .int p.h, .int p.g]) : Dp K H (.ref a) (d4 p) :=
  .tup h (.cons (.int _) (.cons (.int _) (.cons (.int _) (.cons (.int _) .nil))))
theorem imms_d4 : ∀ l : List Part, imms (l.map d4) = true
  | [] => rfl
  | _ :: l => by
    simp only [List.map_cons, imms, G.imm, imms_d4 l]
    rfl
end
/-- one behind another; side by side only where the numbers are others -/
def Beside (p q : Part) : Prop := p.e ≤ q.b ∧ (p.e = q.b → ¬ (p.h = q.h ∧ p.g = q.g))
/-- what is found up to a cell -/
structure Upto (cs ds : List Int) (F : List Part) (at_ : Int) : Prop where
  row : F.Pairwise Beside
  wide : ∀ p ∈ F, 0 ≤ p.b ∧ p.b < p.e ∧ p.e ≤ at_
  here : ∀ p ∈ F, ∀ x : Nat, p.b ≤ x → (x : Int) < p.e → cs[x]? = some p.h ∧ ds[x]? = some p.g
  all : ∀ x : Nat, (x : Int) < at_ → ∃ p ∈ F, p.b ≤ x ∧ (x : Int) < p.e
theorem Upto.more {cs ds : List Int} {F : List Part} {a e h g : Int} (t : Upto cs ds F a) (h0 : 0 ≤ a) (h1 : a < e)
    (hh : ∀ x : Nat, a ≤ x → (x : Int) < e → cs[x]? = some h ∧ ds[x]? = some g) (hl : ∀ p ∈ F, p.e = a → ¬ (p.h = h ∧ p.g = g)) :
    Upto cs ds (F ++ [⟨a, e, h, g⟩]) e := by
  refine ⟨?_, ?_, ?_, ?_⟩
  · refine List.pairwise_append.mpr ⟨t.row, List.pairwise_singleton _ _, fun p hp q hq => ?_⟩
    rw [List.mem_singleton.mp hq]
    exact ⟨(t.wide p hp).2.2, fun z => hl p hp z⟩
  · intro p hp
    rcases List.mem_append.mp hp with hp | hp
    · obtain ⟨a1, a2, a3⟩ := t.wide p hp
      exact ⟨a1, a2, by omega⟩
    · rw [List.mem_singleton.mp hp]
      exact ⟨h0, h1, Int.le_refl _⟩
  · intro p hp x x0 x1
    rcases List.mem_append.mp hp with hp | hp
    · exact t.here p hp x x0 x1
    · rw [List.mem_singleton.mp hp] at x0 x1 ⊢
      exact hh x x0 x1
  · intro x hx
    by_cases c : (x : Int) < a
    · obtain ⟨p, hp, q⟩ := t.all x c
      exact ⟨p, List.mem_append_left _ hp, q⟩
    · exact ⟨_, List.mem_append_right _ (List.mem_singleton.mpr rfl), by show a ≤ (x : Int); omega, hx⟩
/-- a difference of two memories -/
structure Diff (cs ds : List Int) (P : List Part) : Prop where
  row : P.Pairwise Beside
  wide : ∀ p ∈ P, 0 ≤ p.b ∧ p.b < p.e ∧ p.e ≤ cs.length
  un : ∀ p ∈ P, p.h ≠ p.g
  here : ∀ p ∈ P, ∀ x : Nat, p.b ≤ x → (x : Int) < p.e → cs[x]? = some p.h ∧ ds[x]? = some p.g
  all : ∀ x : Nat, x < cs.length → cs[x]? ≠ ds[x]? → ∃ p ∈ P, p.b ≤ x ∧ (x : Int) < p.e
def unlike (p : Part) : Bool := !decide (p.h = p.g)
theorem Upto.diff {cs ds : List Int} {F : List Part} (t : Upto cs ds F cs.length) : Diff cs ds (F.filter unlike) := by
  refine ⟨t.row.filter _, fun p hp => t.wide p (List.mem_filter.mp hp).1, fun p hp => ?_, fun p hp => t.here p (List.mem_filter.mp hp).1, fun x hx ne => ?_⟩
  · have := (List.mem_filter.mp hp).2
    unfold unlike at this
    simpa using this
  · obtain ⟨p, hp, h0, h1⟩ := t.all x (by omega)
    refine ⟨p, List.mem_filter.mpr ⟨hp, ?_⟩, h0, h1⟩
    obtain ⟨e1, e2⟩ := t.here p hp x h0 h1
    unfold unlike
    rw [e1, e2] at ne
    have : p.h ≠ p.g := fun z => ne (by rw [z])
    simp [this]
def turnP (p : Part) : Part := ⟨p.b, p.e, p.g, p.h⟩
theorem Diff.turned {cs ds : List Int} {P : List Part} (t : Diff cs ds P) (hl : cs.length = ds.length) : Diff ds cs (P.map turnP) := by
  have mem : ∀ p ∈ P.map turnP, ∃ q ∈ P, p = turnP q := fun p hp => by
    obtain ⟨q, hq, e⟩ := List.mem_map.mp hp
    exact ⟨q, hq, e.symm⟩
  refine ⟨?_, ?_, ?_, ?_, ?_⟩
  · refine List.pairwise_map.mpr (t.row.imp fun {p q} r => ⟨r.1, fun z k => r.2 z ⟨k.2, k.1⟩⟩)
  · intro p hp
    obtain ⟨q, hq, rfl⟩ := mem p hp
    rw [← hl]
    exact t.wide q hq
  · intro p hp
    obtain ⟨q, hq, rfl⟩ := mem p hp
    exact Ne.symm (t.un q hq)
  · intro p hp x x0 x1
    obtain ⟨q, hq, rfl⟩ := mem p hp
    exact (t.here q hq x x0 x1).symm
  · intro x hx ne
    obtain ⟨p, hp, q⟩ := t.all x (by omega) (Ne.symm ne)
    exact ⟨turnP p, List.mem_map.mpr ⟨p, hp, rfl⟩, q⟩
/-- the parts are filled in -/
def fillP (cs : List Int) (p : Part) : List Int := laid cs p.b.toNat (List.replicate (p.e - p.b).toNat p.g) p.e.toNat
def fillAll (cs : List Int) (P : List Part) : List Int := P.foldl fillP cs
theorem fillP_len {cs : List Int} {p : Part} (h : 0 ≤ p.b ∧ p.b < p.e ∧ p.e ≤ cs.length) : (fillP cs p).length = cs.length := by
  unfold fillP
  exact laid_len (by omega) (by omega) (by rw [List.length_replicate]; omega)
theorem fillP_get {cs : List Int} {p : Part} (h : 0 ≤ p.b ∧ p.b < p.e ∧ p.e ≤ cs.length) (x : Nat) :
    (fillP cs p)[x]? = if p.b ≤ x ∧ (x : Int) < p.e then some p.g else cs[x]? := by
  unfold fillP
  rw [laid_get (by omega) (by omega) (by rw [List.length_replicate]; omega)]
  by_cases c : p.b ≤ x ∧ (x : Int) < p.e
  · rw [if_pos c, if_pos (by omega), List.getElem?_replicate, if_pos (by omega)]
  · rw [if_neg c, if_neg (by omega)]
theorem fillAll_len {n : Int} : ∀ (P : List Part) (cs : List Int), (n = cs.length) → (∀ p ∈ P, 0 ≤ p.b ∧ p.b < p.e ∧ p.e ≤ n) → (fillAll cs P).length = cs.length
  | [], _, _, _ => rfl
  | p :: P, cs, hn, h => by
    have hp := h p List.mem_cons_self
    have e := fillP_len (cs := cs) (p := p) (by omega)
    have ih := fillAll_len P (fillP cs p) (by omega) fun q hq => h q (List.mem_cons_of_mem _ hq)
    unfold fillAll at *
    rw [List.foldl_cons, ih, e]
theorem fillAll_out {n : Int} {x : Nat} : ∀ (P : List Part) (cs : List Int), (n = cs.length) → (∀ p ∈ P, 0 ≤ p.b ∧ p.b < p.e ∧ p.e ≤ n) →
    (∀ p ∈ P, ¬ (p.b ≤ x ∧ (x : Int) < p.e)) → (fillAll cs P)[x]? = cs[x]?
  | [], _, _, _, _ => rfl
  | p :: P, cs, hn, h, no => by
    have hp := h p List.mem_cons_self
    have e := fillP_len (cs := cs) (p := p) (by omega)
    have ih := fillAll_out (x := x) P (fillP cs p) (by omega) (fun q hq => h q (List.mem_cons_of_mem _ hq)) fun q hq => no q (List.mem_cons_of_mem _ hq)
    unfold fillAll at *
    rw [List.foldl_cons, ih, fillP_get (by omega), if_neg (no p List.mem_cons_self)]
theorem fillAll_in {n : Int} {x : Nat} {p : Part} : ∀ (P : List Part) (cs : List Int), (n = cs.length) → (∀ p ∈ P, 0 ≤ p.b ∧ p.b < p.e ∧ p.e ≤ n) →
    P.Pairwise Beside → p ∈ P → p.b ≤ x → (x : Int) < p.e → (fillAll cs P)[x]? = some p.g
  | [], _, _, _, _, hp, _, _ => nomatch hp
  | q :: P, cs, hn, h, row, hp, x0, x1 => by
    have hq := h q List.mem_cons_self
    have e := fillP_len (cs := cs) (p := q) (by omega)
    have hP : ∀ r ∈ P, 0 ≤ r.b ∧ r.b < r.e ∧ r.e ≤ n := fun r hr => h r (List.mem_cons_of_mem _ hr)
    have row2 := List.pairwise_cons.mp row
    have un : fillAll cs (q :: P) = fillAll (fillP cs q) P := rfl
    rw [un]
    rcases List.mem_cons.mp hp with rfl | hp
    · rw [fillAll_out (x := x) P _ (by omega) hP (fun r hr z => by
        have := (row2.1 r hr).1
        omega), fillP_get (by omega), if_pos ⟨x0, x1⟩]
    · exact fillAll_in P _ (by omega) hP row2.2 hp x0 x1
/-- carried to the one it makes the other -/
theorem Diff.carried {cs ds : List Int} {P : List Part} (t : Diff cs ds P) (hl : cs.length = ds.length) : fillAll cs P = ds := by
  have l := fillAll_len P cs rfl t.wide
  refine List.ext_getElem? fun x => ?_
  by_cases c : x < cs.length
  · by_cases z : ∃ p ∈ P, p.b ≤ x ∧ (x : Int) < p.e
    · obtain ⟨p, hp, x0, x1⟩ := z
      rw [fillAll_in P cs rfl t.wide t.row hp x0 x1, (t.here p hp x x0 x1).2]
    · rw [fillAll_out (x := x) P cs rfl t.wide fun p hp q => z ⟨p, hp, q⟩]
      by_cases e : cs[x]? = ds[x]?
      · exact e
      · exact absurd (t.all x c e) z
  · rw [List.getElem?_eq_none (by omega), List.getElem?_eq_none (by omega)]
/-- a cell that hasn't what was had -/
def Clashes (xs : List Int) (P : List Part) (c : Int) : Prop := ∃ p ∈ P, p.b ≤ c ∧ c < p.e ∧ xs[c.toNat]? ≠ some p.h
def First (xs : List Int) (P : List Part) (c : Int) : Prop := Clashes xs P c ∧ ∀ d, Clashes xs P d → c ≤ d
theorem First.one {xs : List Int} {P : List Part} {c d : Int} (h : First xs P c) (k : First xs P d) : c = d := by
  have := h.2 d k.1
  have := k.2 c h.1
  omega

/-! ### side by side, differences -/
/-- a pointer into runs: the cell at_ stands in the k-th of them, that ends at en; or behind all -/
structure Ptr (ps : List (Int × Int)) (w : Int) (at_ : Int) (k : Nat) (en : Int) : Prop where
  le : k ≤ ps.length
  lo : wide (ps.take k) ≤ at_
  hi : k < ps.length → at_ < en ∧ en = wide (ps.take (k + 1))
  out : k = ps.length → at_ = w
theorem Ptr.next {ps : List (Int × Int)} {w at_ en e : Int} {k : Nat} {p : Int × Int} (t : Ptr ps w at_ k en) (hw : wide ps = w) (pos : ∀ q ∈ ps, 0 < q.1) (hp : ps[k]? = some p) (h0 : at_ < e) (h1 : e ≤ en) :
    if en = e then (∀ q, ps[k + 1]? = some q → Ptr ps w e (k + 1) (en + q.1)) ∧ (ps[k + 1]? = none → Ptr ps w e (k + 1) en) else Ptr ps w e k en := by
  obtain ⟨hk, _⟩ := List.getElem?_eq_some_iff.mp hp
  obtain ⟨a1, a2⟩ := t.hi hk
  have lo := t.lo
  split
  · rename_i z
    subst z
    refine ⟨fun q hq => ?_, fun hq => ?_⟩
    · obtain ⟨hk2, _⟩ := List.getElem?_eq_some_iff.mp hq
      have q0 := pos q (List.mem_of_getElem? hq)
      refine ⟨by omega, by rw [← a2]; exact Int.le_refl _, fun _ => ⟨by omega, ?_⟩, fun z => by omega⟩
      rw [wide_take hq, ← a2]
    · have hk2 : k + 1 = ps.length := by
        have := List.getElem?_eq_none_iff.mp hq
        omega
      refine ⟨by omega, by rw [← a2]; exact Int.le_refl _, fun z => by omega, fun _ => ?_⟩
      rw [a2, hk2, List.take_length, hw]
  · refine ⟨t.le, by omega, fun _ => ⟨by omega, a2⟩, fun z => by omega⟩
theorem wide_first {ps : List (Int × Int)} {p : Int × Int} (h : ps[0]? = some p) : wide (ps.take 1) = p.1 := by
  have e := wide_take (ps := ps) (i := 0) h
  rw [e]
  show 0 + p.1 = p.1
  omega
def sp_side (K : PySem.W.Frag) : Sp := fun vs H Q _ => ∃ (a b : Addr) (cs ds : List Int), vs = [.ref a, .ref b] ∧ Dp K H (.ref a) (.list ((rle cs).map d2)) ∧ Dp K H (.ref b) (.list ((rle ds).map d2)) ∧
  cs.length = ds.length ∧ 1 ≤ cs.length ∧ (rle cs).length ≤ 10000 ∧ (rle ds).length ≤ 10000 ∧
  ∀ l H' F, Fr H l → Kp [] H H' → LD K H' l (F.map d4) → Upto cs ds F cs.length → F.length ≤ (rle cs).length + (rle ds).length → Q (.ref l) H'
theorem sc_side_by_side : FnScope ["some", "others", "found", "at", "k", "j", "ends", "limits", "end"] ["some", "others"] (defScope s_side_by_side) :=
  ⟨rfl, rfl, rfl, by decide +kernel, rfl, by decide +kernel, by decide +kernel⟩
theorem ok_side_by_side {P : Program} {w : World} {K : PySem.W.Frag} {mg : Str → Option Value} {base : Heap} (T : Txt K mg) :
    FnG P w K mg base 1 T.a_side_by_side T.d_side_by_side ["some", "others"] (sp_side K) := by
  refine okD T.F_side_by_side sc_side_by_side (fun vs H Q E h => ?_) (fun cdv A outer s H vs Q E hr h => ?_)
  · first
      | (obtain ⟨_, rfl, _⟩ := h; rfl)
      | (obtain ⟨_, _, rfl, _⟩ := h; rfl)
      | (obtain ⟨_, _, _, rfl, _⟩ := h; rfl)
      | (obtain ⟨_, _, _, _, rfl, _⟩ := h; rfl)
      | (obtain ⟨_, _, _, _, _, rfl, _⟩ := h; rfl)
      | (obtain ⟨_, _, _, _, _, _, rfl, _⟩ := h; rfl)
      | (obtain ⟨_, _, _, _, _, _, _, rfl, _⟩ := h; rfl)
      | (obtain ⟨_, _, _, _, _, _, _, _, rfl, _⟩ := h; rfl)
      | (obtain ⟨_, _, _, _, _, _, _, _, _, rfl, _⟩ := h; rfl)
      | (obtain ⟨_, _, _, _, _, _, _, _, _, _, rfl, _⟩ := h; rfl)
      | (obtain ⟨_, _, _, _, _, _, _, _, _, _, _, rfl, _⟩ := h; rfl)
      | (obtain ⟨_, _, _, _, _, _, _, _, _, _, _, _, rfl, _⟩ := h; rfl)
      | (obtain ⟨_, _, _, _, _, _, _, _, _, _, _, _, _, rfl, _⟩ := h; rfl)
      | (obtain ⟨_, _, _, _, _, _, _, _, _, _, _, _, _, _, rfl, _⟩ := h; rfl)
      | (obtain ⟨_, _, _, _, _, _, _, _, _, _, _, _, _, _, _, rfl, _⟩ := h; rfl)
      | (obtain ⟨_, _, _, _, _, _, _, _, _, _, _, _, _, _, _, _, rfl, _⟩ := h; rfl)
      | (obtain ⟨_, _, _, _, _, _, _, _, _, _, _, _, _, _, _, _, _, rfl, _⟩ := h; rfl)
      | (obtain ⟨_, _, _, _, _, _, _, _, _, _, _, _, _, _, _, _, _, _, rfl, _⟩ := h; rfl)
      | (obtain ⟨_, _, _, _, _, _, _, _, _, _, _, _, _, _, _, _, _, _, _, rfl, _⟩ := h; rfl)
  · obtain ⟨a, b, cs, ds, rfl, ha, hb, hlen, hw, na, nb, k⟩ := h
    cases ha
    rename_i xs hsx hax
    cases hb
    rename_i ys hsy hay
    have hxl := dpa_len hax
    have hyl := dpa_len hay
    rw [List.length_map] at hxl hyl
    have posx := rle_pos cs
    have posy := rle_pos ds
    have wx := wide_rle cs
    have wy := wide_rle ds
    rw [← hlen] at wy
    have nex : rle cs ≠ [] := rle_ne fun z => by rw [z] at hw; exact absurd hw (by decide)
    have ney : rle ds ≠ [] := rle_ne fun z => by rw [hlen, z] at hw; exact absurd hw (by decide)
    obtain ⟨p0, hp0⟩ : ∃ p0, (rle cs)[0]? = some p0 := by
      cases h : rle cs with
      | nil => exact absurd h nex
      | cons u t => exact ⟨u, rfl⟩
    obtain ⟨q0, hq0⟩ : ∃ q0, (rle ds)[0]? = some q0 := by
      cases h : rle ds with
      | nil => exact absurd h ney
      | cons u t => exact ⟨u, rfl⟩
    have getx : ∀ {H' : Hp} (kk : Kp [] H H') {i : Nat} {p : Int × Int}, (rle cs)[i]? = some p → ∃ t, atI xs (i : Int) = some (.ref t) ∧ SqT K H' t [.int p.1, .int p.2] := fun {H'} kk {i p} hp => by
      obtain ⟨v, hv, hd⟩ := dpa_get hax (i := i) (d := d2 p) (by rw [List.getElem?_map, hp]; rfl)
      obtain ⟨t, rfl, hT⟩ := dp_pair (dp_imm kk _ _ rfl hd)
      exact ⟨t, atI_nat hv, hT⟩
    have gety : ∀ {H' : Hp} (kk : Kp [] H H') {i : Nat} {p : Int × Int}, (rle ds)[i]? = some p → ∃ t, atI ys (i : Int) = some (.ref t) ∧ SqT K H' t [.int p.1, .int p.2] := fun {H'} kk {i p} hp => by
      obtain ⟨v, hv, hd⟩ := dpa_get hay (i := i) (d := d2 p) (by rw [List.getElem?_map, hp]; rfl)
      obtain ⟨t, rfl, hT⟩ := dp_pair (dp_imm kk _ _ rfl hd)
      exact ⟨t, atI_nat hv, hT⟩
    have cl_Memory := T.cl_Memory
    have na_Memory_pairs := T.na_Memory_pairs
    have na_Memory_wide := T.na_Memory_wide
    refine ⟨_, (pss_cons (ps_set (i := 2) sc_side_by_side.nd rfl (Or.inl rfl) (pe_lst pa_nil))
      (pss_cons (ps_asg (pe_tup (pa_cons pe_int (pa_cons pe_int (pa_cons pe_int pa_nil)))) (k_gtup (K := K) 3 rfl rfl (pgs_cons (pg_name (i := 3) sc_side_by_side.nd rfl (Or.inl rfl)) (pgs_cons (pg_name (i := 4) sc_side_by_side.nd rfl (Or.inl rfl)) (pgs_cons (pg_name (i := 5) sc_side_by_side.nd rfl (Or.inl rfl)) pgs_nil)))))
      (pss_cons (ps_par (i := 6) (j := 7) (by rfl) sc_side_by_side.nd rfl rfl (by decide) rfl rfl (pa_cons (pe_ix (k_ix (K := K) rfl) (pe_ix (k_ix (K := K) rfl) (pv 0) pe_int (fun _ _ => rfl)) pe_int (fun _ _ => rfl)) (pa_cons (pe_ix (k_ix (K := K) rfl) (pe_ix (k_ix (K := K) rfl) (pv 1) pe_int (fun _ _ => rfl)) pe_int (fun _ _ => rfl)) pa_nil)) (by rfl))
      (pss_cons (ps_while (passes_of rfl) (PW.pt (pw_and (pt_cmpR op_lt (pv 4) (pe_callB (k_len (K := K) rfl) (by rfl) T.n_len (by decide +kernel) (pa_cons (pv 0) pa_nil)) (nomark _)) (pw_and1 (pt_cmpR op_lt (pv 5) (pe_callB (k_len (K := K) rfl) (by rfl) T.n_len (by decide +kernel) (pa_cons (pv 1) pa_nil)) (nomark _))))) (pss_cons (ps_set (i := 8) sc_side_by_side.nd rfl (Or.inl rfl) (pe_callB (c_min2 rfl) (by rfl) T.n_min (by decide +kernel) (pa_cons (pv 6) (pa_cons (pv 7) pa_nil))))
      (pss_cons (ps_expr (pe_bm PySem.F.plainAttrs_list PySem.F.slot_list_append PySem.F.type_list_append mt_append (pv 2) (pa_cons (pe_tup (pa_cons (pv 3) (pa_cons (pv 8) (pa_cons (pe_ix (k_ix (K := K) rfl) (pe_ix (k_ix (K := K) rfl) (pv 0) (pv 4) (fun _ _ => rfl)) pe_int (fun _ _ => rfl)) (pa_cons (pe_ix (k_ix (K := K) rfl) (pe_ix (k_ix (K := K) rfl) (pv 1) (pv 5) (fun _ _ => rfl)) pe_int (fun _ _ => rfl)) pa_nil))))) pa_nil)))
      (pss_cons (ps_set (i := 3) sc_side_by_side.nd rfl (Or.inl rfl) (pv 8))
      (pss_cons (ps_if (pt_cmpR (k_eq (K := K) rfl hr.r.units) (pv 6) (pv 8) (nomark _)) (pss_cons (ps_aug (i := 4) sc_side_by_side.nd rfl (Or.inl rfl) pe_int ip_add)
      (pss_one (ps_aug (i := 6) sc_side_by_side.nd rfl (Or.inl rfl) (pe_ifExp (pt_cmpR op_lt (pv 4) (pe_callB (k_len (K := K) rfl) (by rfl) T.n_len (by decide +kernel) (pa_cons (pv 0) pa_nil)) (nomark _)) (pe_ix (k_ix (K := K) rfl) (pe_ix (k_ix (K := K) rfl) (pv 0) (pv 4) (fun _ _ => rfl)) pe_int (fun _ _ => rfl)) pe_int) ip_add))) pss_nil)
      (pss_one (ps_if (pt_cmpR (k_eq (K := K) rfl hr.r.units) (pv 7) (pv 8) (nomark _)) (pss_cons (ps_aug (i := 5) sc_side_by_side.nd rfl (Or.inl rfl) pe_int ip_add)
      (pss_one (ps_aug (i := 7) sc_side_by_side.nd rfl (Or.inl rfl) (pe_ifExp (pt_cmpR op_lt (pv 5) (pe_callB (k_len (K := K) rfl) (by rfl) T.n_len (by decide +kernel) (pa_cons (pv 1) pa_nil)) (nomark _)) (pe_ix (k_ix (K := K) rfl) (pe_ix (k_ix (K := K) rfl) (pv 1) (pv 5) (fun _ _ => rfl)) pe_int (fun _ _ => rfl)) pe_int) ip_add))) pss_nil)))))))
      (pss_one (ps_ret (pv 2))))))), ?_⟩
    dsimp only [cxOf, st_1, st_2, st_3, st_4, st_5, st_6, List.length_cons, List.length_nil, List.replicate_succ, List.replicate_zero, Nat.reduceAdd, Nat.reduceSub]
    walk_at "gs"
    refine i_new fun l fl => ?_
    walk_at "gs"
    refine i_new fun tz ftz => ?_
    have nlz : l ≠ tz := fr_tr tr_same ftz
    walk_at "gs"
    have hl0 : upd (upd H l (.lst [])) tz (.tup [.int 0, .int 0, .int 0]) l = some (.lst []) := by walk_at "g_hp"
    have kl : Kp [] H (upd (upd H l (.lst [])) tz (.tup [.int 0, .int 0, .int 0])) := by walk_at "g_kp"
    obtain ⟨t0, at0, hT0⟩ := getx kl hp0
    obtain ⟨t1, at1, hT1⟩ := gety kl hq0
    have hsx1 := kl.seqL not_nil hsx
    have hsy1 := kl.seqL not_nil hsy
    walk_at "gs"
    refine i_while (fun n σ H' => ∃ (x7 : Option V) (at_ en li : Int) (i j : Nat) (F : List Part), n = ((rle cs).length - i) + ((rle ds).length - j) ∧
      σ = [some (.ref a), some (.ref b), some (.ref l), some (.int at_), some (.int i), some (.int j), some (.int en), some (.int li), x7] ∧ Kp [] H H' ∧
      LD K H' l (F.map d4) ∧ 0 ≤ at_ ∧ at_ ≤ cs.length ∧ Upto cs ds F at_ ∧ F.length ≤ i + j ∧ Ptr (rle cs) cs.length at_ i en ∧ Ptr (rle ds) cs.length at_ j li ∧
      (∀ p q r, p ∈ F → (rle cs)[i]? = some q → (rle ds)[j]? = some r → p.e = at_ → ¬ (p.h = q.2 ∧ p.g = r.2))) _ ⟨none, 0, p0.1, q0.1, 0, 0, [], rfl, rfl, kl, ⟨[], hl0, .nil⟩, Int.le_refl _, by omega, ?_, Nat.le_refl _, ?_, ?_, ?_⟩ ?_
    · exact ⟨.nil, (fun p hp => nomatch hp), (fun p hp => nomatch hp), fun x hx => by omega⟩
    · have h0 := posx _ (List.mem_of_getElem? hp0)
      have hl := (List.getElem?_eq_some_iff.mp hp0).1
      exact ⟨Nat.zero_le _, Int.le_refl _, fun _ => ⟨h0, (wide_first hp0).symm⟩, fun z => by omega⟩
    · have h0 := posy _ (List.mem_of_getElem? hq0)
      have hl := (List.getElem?_eq_some_iff.mp hq0).1
      exact ⟨Nat.zero_le _, Int.le_refl _, fun _ => ⟨h0, (wide_first hq0).symm⟩, fun z => by omega⟩
    · exact fun p q r hp => nomatch hp
    rintro n σ H1 ⟨x7, at_, en, li, i, j, F, rfl, rfl, k1, lf, a0, a1, up, few, px, py, nb2⟩
    have hsx2 := k1.seqL not_nil hsx
    have hsy2 := k1.seqL not_nil hsy
    have fin : ∀ {i j : Nat}, i = (rle cs).length ∨ j = (rle ds).length → Ptr (rle cs) cs.length at_ i en → Ptr (rle ds) cs.length at_ j li → at_ = cs.length := by
      rintro i j (z | z) px py
      · exact px.out z
      · exact py.out z
    have stop : at_ = cs.length → Q (.ref l) H1 := fun z => by
      rw [z] at up
      exact k l H1 F fl k1 lf up (by have := px.le; have := py.le; omega)
    have lex := px.le
    have ley := py.le
    walk_at "gs"
    rw [hxl]
    refine i_dec (fun c1 => ?_) (fun c1 => ?_)
    rotate_left
    · walk_at "gs"
      exact stop (px.out (by omega))
    walk_at "gs"
    rw [hyl]
    refine i_dec (fun c2 => ?_) (fun c2 => ?_)
    rotate_left
    · walk_at "gs"
      exact stop (py.out (by omega))
    walk_at "gs"
    refine i_loop ?_
    obtain ⟨pi, hpi⟩ : ∃ p, (rle cs)[i]? = some p := ⟨_, List.getElem?_eq_getElem (by omega)⟩
    obtain ⟨pj, hpj⟩ : ∃ p, (rle ds)[j]? = some p := ⟨_, List.getElem?_eq_getElem (by omega)⟩
    obtain ⟨ti, ati, hTi⟩ := getx k1 hpi
    obtain ⟨tj, atj, hTj⟩ := gety k1 hpj
    obtain ⟨fv, hfv, hfa⟩ := id lf
    have hfl := dpa_len hfa
    rw [List.length_map] at hfl
    have li0 : i < (rle cs).length := by omega
    have lj0 : j < (rle ds).length := by omega
    obtain ⟨e1, e2⟩ := px.hi li0
    obtain ⟨e3, e4⟩ := py.hi lj0
    have lox := px.lo
    have loy := py.lo
    have wti := wide_take hpi
    have wtj := wide_take hpj
    walk_at "gs"
    refine i_new fun t ft => ?_
    walk_at "gs"
    obtain ⟨e, he⟩ : ∃ e, e = min en li := ⟨_, rfl⟩
    rw [← he]
    have ee1 : e ≤ en := by omega
    have ee2 : e ≤ li := by omega
    have ea : at_ < e := by omega
    obtain ⟨H2, hH2⟩ : ∃ H2, H2 = upd (upd H1 t (.tup [.int at_, .int e, .int pi.2, .int pj.2])) l (.lst (fv ++ [.ref t])) := ⟨_, rfl⟩
    have fl1 : t ≠ l := Ne.symm (fr_tr (tr_of hfv) ft)
    have hT2 : H2 t = some (.tup [.int at_, .int e, .int pi.2, .int pj.2]) := by
      rw [hH2]
      walk_at "g_hp"
    have kl2 : Kp [l] H1 H2 := by
      rw [hH2]
      walk_at "g_kp"
    have k2 : Kp [] H H2 := Kp.drop (Kp.trans (Kp.wide k1) kl2) fl
    have lf2 : LD K H2 l ((F ++ [(⟨at_, e, pi.2, pj.2⟩ : Part)]).map d4) := by
      rw [List.map_append, hH2]
      refine ⟨_, upd_same, ?_⟩
      rw [← hH2]
      exact dpa_app (dpa_imm kl2 _ _ (imms_d4 _) hfa) (dpa_one (dp_mk4 (p := ⟨at_, e, pi.2, pj.2⟩) (SqT.of hT2)))
    have ew : e ≤ cs.length := by
      have h1 := wide_nn ((rle cs).drop (i + 1)) fun z hz => posx z (List.mem_of_mem_drop hz)
      have h2 : wide ((rle cs).take (i + 1)) + wide ((rle cs).drop (i + 1)) = wide (rle cs) := by
        unfold wide
        rw [← List.sum_append, ← List.map_append, List.take_append_drop]
      omega
    have up2 : Upto cs ds (F ++ [(⟨at_, e, pi.2, pj.2⟩ : Part)]) e := by
      refine up.more a0 ea (fun x x0 x1 => ⟨?_, ?_⟩) (fun p hp z => nb2 p pi pj hp hpi hpj z)
      · have z := run_cell posx hpi (x := x) (by omega) (by omega)
        rw [cells_rle] at z
        exact z
      · have z := run_cell posy hpj (x := x) (by omega) (by omega)
        rw [cells_rle] at z
        exact z
    have nx := px.next wx posx hpi ea ee1
    have ny := py.next wy posy hpj ea ee2
    have last : ∀ p ∈ F ++ [(⟨at_, e, pi.2, pj.2⟩ : Part)], p.e = e → p.h = pi.2 ∧ p.g = pj.2 := by
      intro p hp z
      rcases List.mem_append.mp hp with hp | hp
      · have := (up.wide p hp).2.2
        omega
      · rw [List.mem_singleton.mp hp]
        exact ⟨rfl, rfl⟩
    have apx : ∀ q, (rle cs)[i + 1]? = some q → pi.2 ≠ q.2 := fun q hq => apart_get _ _ _ _ (apart_wr _) hpi (by rw [List.getElem?_tail]; exact hq)
    have apy : ∀ q, (rle ds)[j + 1]? = some q → pj.2 ≠ q.2 := fun q hq => apart_get _ _ _ _ (apart_wr _) hpj (by rw [List.getElem?_tail]; exact hq)
    have few2 : (F ++ [(⟨at_, e, pi.2, pj.2⟩ : Part)]).length ≤ i + j + 1 := by
      rw [List.length_append, List.length_singleton]
      omega
    have hsx3 := k2.seqL not_nil hsx
    have hsy3 := k2.seqL not_nil hsy
    -- the end of a turn, wherever the pointers stand
    have turn : ∀ (i' j' : Nat) (en' li' : Int), i ≤ i' → j ≤ j' → i + j + 1 ≤ i' + j' → Ptr (rle cs) cs.length e i' en' → Ptr (rle ds) cs.length e j' li' → (i' = i ∨ i' = i + 1) → (j' = j ∨ j' = j + 1) →
        ∃ m', m' < ((rle cs).length - i) + ((rle ds).length - j) ∧ ∃ (x7 : Option V) (at_ en li : Int) (i j : Nat) (F : List Part), m' = ((rle cs).length - i) + ((rle ds).length - j) ∧
          [some (V.ref a), some (V.ref b), some (V.ref l), some (V.int e), some (V.int i'), some (V.int j'), some (V.int en'), some (V.int li'), some (V.int e)] = [some (.ref a), some (.ref b), some (.ref l), some (.int at_), some (.int i), some (.int j), some (.int en), some (.int li), x7] ∧
          Kp [] H H2 ∧ LD K H2 l (F.map d4) ∧ 0 ≤ at_ ∧ at_ ≤ cs.length ∧ Upto cs ds F at_ ∧ F.length ≤ i + j ∧ Ptr (rle cs) cs.length at_ i en ∧ Ptr (rle ds) cs.length at_ j li ∧
          (∀ p q r, p ∈ F → (rle cs)[i]? = some q → (rle ds)[j]? = some r → p.e = at_ → ¬ (p.h = q.2 ∧ p.g = r.2)) := by
      intro i' j' en' li' h1 h2 h3 px' py' hi' hj'
      have l1 := px'.le
      have l2 := py'.le
      refine ⟨_, ?_, _, e, en', li', i', j', _, rfl, rfl, k2, lf2, by omega, ew, up2, by omega, px', py', ?_⟩
      · omega
      · rintro p q r hp hq hr hpe ⟨z1, z2⟩
        obtain ⟨y1, y2⟩ := last p hp hpe
        rcases hi' with rfl | rfl
        · rcases hj' with rfl | rfl
          · omega
          · exact apy r hr (by rw [← y2, z2])
        · exact apx q hq (by rw [← y1, z1])
    rw [← hH2]
    walk_at "gs"
    have ecj : (((j + 1 : Nat)) : Int) = (j : Int) + 1 := by omega
    have eci : (((i + 1 : Nat)) : Int) = (i : Int) + 1 := by omega
    refine i_dec (fun c3 => ?_) (fun c3 => ?_)
    · have nx2 := nx
      rw [if_pos c3] at nx2
      walk_at "gs"
      rw [hxl]
      refine i_dec (fun c5 => ?_) (fun c5 => ?_)
      · obtain ⟨q, hq⟩ : ∃ q, (rle cs)[i + 1]? = some q := ⟨_, List.getElem?_eq_getElem (by omega)⟩
        obtain ⟨tq, atq, hTq⟩ := getx k2 hq
        rw [eci] at atq
        walk_at "gs"
        refine i_dec (fun c4 => ?_) (fun c4 => ?_)
        · have ny2 := ny
          rw [if_pos c4] at ny2
          walk_at "gs"
          rw [hyl]
          refine i_dec (fun c6 => ?_) (fun c6 => ?_)
          · obtain ⟨r, hr⟩ : ∃ r, (rle ds)[j + 1]? = some r := ⟨_, List.getElem?_eq_getElem (by omega)⟩
            obtain ⟨tr, atr, hTr⟩ := gety k2 hr
            rw [ecj] at atr
            walk_at "gs"
            exact turn (i + 1) (j + 1) (en + q.1) (li + r.1) (by omega) (by omega) (by omega) (nx2.1 q hq) (ny2.1 r hr) (.inr rfl) (.inr rfl)
          · have hr : (rle ds)[j + 1]? = none := List.getElem?_eq_none (by omega)
            walk_at "gs"
            have z := turn (i + 1) (j + 1) (en + q.1) li (by omega) (by omega) (by omega) (nx2.1 q hq) (ny2.2 hr) (.inr rfl) (.inr rfl)
            have ez : li + 0 = li := Int.add_zero li
            rw [ez]
            exact z
        · have ny2 := ny
          rw [if_neg c4] at ny2
          walk_at "gs"
          exact turn (i + 1) j (en + q.1) li (by omega) (by omega) (by omega) (nx2.1 q hq) ny2 (.inr rfl) (.inl rfl)
      · have hq : (rle cs)[i + 1]? = none := List.getElem?_eq_none (by omega)
        have ez0 : en + 0 = en := Int.add_zero en
        walk_at "gs"
        rw [ez0]
        refine i_dec (fun c4 => ?_) (fun c4 => ?_)
        · have ny2 := ny
          rw [if_pos c4] at ny2
          walk_at "gs"
          rw [hyl]
          refine i_dec (fun c6 => ?_) (fun c6 => ?_)
          · obtain ⟨r, hr⟩ : ∃ r, (rle ds)[j + 1]? = some r := ⟨_, List.getElem?_eq_getElem (by omega)⟩
            obtain ⟨tr, atr, hTr⟩ := gety k2 hr
            rw [ecj] at atr
            walk_at "gs"
            exact turn (i + 1) (j + 1) (en) (li + r.1) (by omega) (by omega) (by omega) (nx2.2 hq) (ny2.1 r hr) (.inr rfl) (.inr rfl)
          · have hr : (rle ds)[j + 1]? = none := List.getElem?_eq_none (by omega)
            walk_at "gs"
            have z := turn (i + 1) (j + 1) (en) li (by omega) (by omega) (by omega) (nx2.2 hq) (ny2.2 hr) (.inr rfl) (.inr rfl)
            have ez : li + 0 = li := Int.add_zero li
            rw [ez]
            exact z
        · have ny2 := ny
          rw [if_neg c4] at ny2
          walk_at "gs"
          exact turn (i + 1) j (en) li (by omega) (by omega) (by omega) (nx2.2 hq) ny2 (.inr rfl) (.inl rfl)
    · have nx2 := nx
      rw [if_neg c3] at nx2
      walk_at "gs"
      refine i_dec (fun c4 => ?_) (fun c4 => ?_)
      · have ny2 := ny
        rw [if_pos c4] at ny2
        walk_at "gs"
        rw [hyl]
        refine i_dec (fun c6 => ?_) (fun c6 => ?_)
        · obtain ⟨r, hr⟩ : ∃ r, (rle ds)[j + 1]? = some r := ⟨_, List.getElem?_eq_getElem (by omega)⟩
          obtain ⟨tr, atr, hTr⟩ := gety k2 hr
          rw [ecj] at atr
          walk_at "gs"
          exact turn i (j + 1) (en) (li + r.1) (by omega) (by omega) (by omega) nx2 (ny2.1 r hr) (.inl rfl) (.inr rfl)
        · have hr : (rle ds)[j + 1]? = none := List.getElem?_eq_none (by omega)
          walk_at "gs"
          have z := turn i (j + 1) (en) li (by omega) (by omega) (by omega) nx2 (ny2.2 hr) (.inl rfl) (.inr rfl)
          have ez : li + 0 = li := Int.add_zero li
          rw [ez]
          exact z
      · exact absurd (show en = e ∨ li = e by omega) (fun z => z.elim c3 c4)

/-! ### several memories -/
theorem i_methM {K : PySem.W.Frag} {C : Addr} {m : Addr} {cs : List Int} {H : Hp} {nm : Str} {sp : Sp} {E : XK} {t : TA} {σ : L2.St} {Q : VK} (M : MemAt K C H m cs)
    (hl : ∀ n l, (mfs n l).lookup nm = none) (h : t σ H fun vs H2 => sp (.ref m :: vs) H2 Q E) : MethR C nm sp E t σ (.ref m) H Q := by
  obtain ⟨dx, l, e, _⟩ := M
  exact i_methR e (hl _ _) h
theorem i_methMW {K : PySem.W.Frag} {C : Addr} {a : Addr} {cs : List Int} {H : Hp} {nm : Str} {n m : Nat} {sp : Sp} {gV : List V → List V → List V} {E : XK} {t tk : TA} {σ : L2.St} {Q : VK} (M : MemAt K C H a cs)
    (hl : ∀ n l, (mfs n l).lookup nm = none) (h : t σ H fun vs H2 => tk σ H2 fun zs H3 => vs.length = n ∧ zs.length = m ∧ sp (gV (.ref a :: vs) zs) H3 Q E) :
    MethW C nm n m sp gV E t tk σ (.ref a) H Q := by
  obtain ⟨dx, l, e, _⟩ := M
  exact i_methWR e (hl _ _) h
--%%M
local macro_rules | `(tactic| walk_at "g_own") => `(tactic| first
  | ((with_reducible apply i_methM (by with_reducible assumption) ?g ?_); (case g => exact fun _ _ => rfl))
  | ((with_reducible apply i_methMW (by with_reducible assumption) ?g ?_); (case g => exact fun _ _ => rfl)))
--%%E

/-! ### difference -/
theorem filter_take {α : Type} {l : List α} {f : α → Bool} {i : Nat} {p : α} (h : l[i]? = some p) :
    (l.take (i + 1)).filter f = (l.take i).filter f ++ (if f p = true then [p] else []) := by
  rw [List.take_add_one, h, List.filter_append]
  congr 1
  by_cases c : f p = true
  · simp [c]
  · simp [c]
def sp_diff (K : PySem.W.Frag) (C : Addr) : Sp := fun vs H Q _ => ∃ (m n : Addr) (cs ds : List Int), vs = [.ref m, .ref n] ∧ MemAt K C H m cs ∧ MemAt K C H n ds ∧
  cs.length = ds.length ∧ 1 ≤ cs.length ∧ (rle cs).length ≤ 10000 ∧ (rle ds).length ≤ 10000 ∧
  ∀ l H' P, Fr H l → Kp [] H H' → LD K H' l (P.map d4) → Diff cs ds P → P.length ≤ (rle cs).length + (rle ds).length → Q (.ref l) H'
theorem sc_difference : FnScope ["one", "other", "part"] ["one", "other"] (defScope s_difference) :=
  ⟨rfl, rfl, rfl, by decide +kernel, rfl, by decide +kernel, by decide +kernel⟩
theorem ok_difference {P : Program} {w : World} {K : PySem.W.Frag} {mg : Str → Option Value} {base : Heap} (T : Txt K mg) :
    FnG P w K mg base 2 T.a_difference T.d_difference ["one", "other"] (sp_diff K T.c_Memory) := by
  refine okD T.F_difference sc_difference (fun vs H Q E h => ?_) (fun cdv A outer s H vs Q E hr h => ?_)
  · first
      | (obtain ⟨_, rfl, _⟩ := h; rfl)
      | (obtain ⟨_, _, rfl, _⟩ := h; rfl)
      | (obtain ⟨_, _, _, rfl, _⟩ := h; rfl)
      | (obtain ⟨_, _, _, _, rfl, _⟩ := h; rfl)
      | (obtain ⟨_, _, _, _, _, rfl, _⟩ := h; rfl)
      | (obtain ⟨_, _, _, _, _, _, rfl, _⟩ := h; rfl)
      | (obtain ⟨_, _, _, _, _, _, _, rfl, _⟩ := h; rfl)
      | (obtain ⟨_, _, _, _, _, _, _, _, rfl, _⟩ := h; rfl)
      | (obtain ⟨_, _, _, _, _, _, _, _, _, rfl, _⟩ := h; rfl)
      | (obtain ⟨_, _, _, _, _, _, _, _, _, _, rfl, _⟩ := h; rfl)
      | (obtain ⟨_, _, _, _, _, _, _, _, _, _, _, rfl, _⟩ := h; rfl)
      | (obtain ⟨_, _, _, _, _, _, _, _, _, _, _, _, rfl, _⟩ := h; rfl)
      | (obtain ⟨_, _, _, _, _, _, _, _, _, _, _, _, _, rfl, _⟩ := h; rfl)
      | (obtain ⟨_, _, _, _, _, _, _, _, _, _, _, _, _, _, rfl, _⟩ := h; rfl)
      | (obtain ⟨_, _, _, _, _, _, _, _, _, _, _, _, _, _, _, rfl, _⟩ := h; rfl)
      | (obtain ⟨_, _, _, _, _, _, _, _, _, _, _, _, _, _, _, _, rfl, _⟩ := h; rfl)
      | (obtain ⟨_, _, _, _, _, _, _, _, _, _, _, _, _, _, _, _, _, rfl, _⟩ := h; rfl)
      | (obtain ⟨_, _, _, _, _, _, _, _, _, _, _, _, _, _, _, _, _, _, rfl, _⟩ := h; rfl)
      | (obtain ⟨_, _, _, _, _, _, _, _, _, _, _, _, _, _, _, _, _, _, _, rfl, _⟩ := h; rfl)
  · obtain ⟨m, n, cs, ds, rfl, M, N, hlen, hw, na, nb, k⟩ := h
    have cl_Memory := T.cl_Memory
    have na_Memory_pairs := T.na_Memory_pairs
    have na_Memory_wide := T.na_Memory_wide
    refine ⟨_, (pss_cons (ps_if (pt_cmpR (k_ne (K := K) rfl hr.r.units) (dm0 T.cl_Memory T.me_Memory_size (ok_Memory_size T) (hr.mono (by decide)) T.b_Memory_size passL (pv 0)) (dm0 T.cl_Memory T.me_Memory_size (ok_Memory_size T) (hr.mono (by decide)) T.b_Memory_size passL (pv 1)) (nomark _)) (pss_one ps_never) pss_nil)
      (pss_one (ps_ret (pe_lc (own := [("part", 2)]) (g := (gName 2)) rfl sc_difference.nd (k_plist (K := K) rfl (d1 (ok_side_by_side T) (hr.mono (by decide)) (by rfl) T.m_side_by_side T.F_side_by_side.kp T.b_side_by_side passL (pa_cons (dm0 T.cl_Memory T.me_Memory_runs (ok_Memory_runs T) (hr.mono (by decide)) T.b_Memory_runs passL (pv 0)) (pa_cons (dm0 T.cl_Memory T.me_Memory_runs (ok_Memory_runs T) (hr.mono (by decide)) T.b_Memory_runs passL (pv 1)) pa_nil)))) (blkOk_by (own := [("part", 2)]) (N := ["one", "other", "part"]) (sc := defScope s_difference) (by decide +kernel)) (fun _ _ _ _ _ => (pg_name (i := 2) sc_difference.nd rfl (Or.inl rfl))) (fun _ _ _ _ _ => (pts_one (pt_cmpR (k_ne (K := K) rfl hr.r.units) (pe_ix (k_ix (K := K) rfl) (pv 2) pe_int (fun _ _ => rfl)) (pe_ix (k_ix (K := K) rfl) (pv 2) pe_int (fun _ _ => rfl)) (nomark _)))) (fun _ _ _ _ _ => (pv 2)))))), ?_⟩
    dsimp only [cxOf, st_1, st_2, st_3, st_4, st_5, st_6, List.length_cons, List.length_nil, List.replicate_succ, List.replicate_zero, Nat.reduceAdd, Nat.reduceSub]
    walk_at "gs"
    refine ⟨m, cs, rfl, M, ?_⟩
    walk_at "gs"
    refine ⟨n, ds, rfl, N, ?_⟩
    walk_at "gs"
    refine i_decN (fun z => absurd (by omega) z) (fun _ => ?_)
    walk_at "gs"
    refine ⟨m, cs, rfl, M, fun l1 H1 f1 k1 ld1 => ?_⟩
    have N1 := mem_kp0 N k1
    walk_at "gs"
    refine ⟨n, ds, rfl, N1, fun l2 H2 f2 k2 ld2 => ?_⟩
    walk_at "gs"
    refine ⟨l1, l2, cs, ds, rfl, (ld1.kp k2 (imms_d2 _) not_nil).dp, ld2.dp, hlen, hw, na, nb, fun l3 H3 F f3 k3 ld3 up few => ?_⟩
    have k03 : Kp [] H H3 := Kp.trans k1 (Kp.trans k2 k3)
    obtain ⟨fv, hfv, hfa⟩ := id ld3
    have hfl := dpa_len hfa
    rw [List.length_map] at hfl
    refine i_elts (SqL.of hfv) (fun D i H' => Kp [] H3 H' ∧ LD K H' D (((F.take i).filter unlike).map d4)) ?_ ?_ ?_ ?_
    · exact fun D fD => ⟨Kp.new fD, [], upd_same, .nil⟩
    · rintro D i H' fD _ ⟨k4, _⟩
      exact SqL.of (k4.at_ _ _ hfv not_nil)
    · rintro D i x H' fD hx ⟨k4, ld⟩
      obtain ⟨d, hd, hdp⟩ := dpa_getV hfa hx
      obtain ⟨p, hp, rfl⟩ := map_get hd
      obtain ⟨t, rfl, hT⟩ := dp_four (dp_imm k4 _ _ rfl hdp)
      have hi := (List.getElem?_eq_some_iff.mp hp).1
      have ft := filter_take (f := unlike) hp
      obtain ⟨av, hav, haa⟩ := id ld
      have hal := dpa_len haa
      rw [List.length_map] at hal
      have hle := List.length_filter_le unlike (F.take i)
      rw [List.length_take] at hle
      walk_at "gs"
      refine i_decN (fun c => ?_) (fun c => ?_)
      · walk_at "gs"
        have u : unlike p = true := by unfold unlike; simp [c]
        rw [ft, if_pos u, List.map_append]
        refine ⟨av, hav, small_sz (by omega), Kp.upd k4 fD, ?_⟩
        have kD : Kp [D] H' (upd H' D (.lst (av ++ [.ref t]))) := Kp.mut hav (fun z => z) List.mem_cons_self
        exact ⟨_, upd_same, dpa_app (dpa_imm kD _ _ (imms_d4 _) haa) (dpa_one (dp_mk4 (p := p) (kD.seqT hT)))⟩
      · walk_at "gs"
        have u : ¬ (unlike p = true) := by unfold unlike; simp [c]
        rw [ft, if_neg u, List.append_nil]
        exact ⟨k4, ld⟩
    · rintro D H' fD ⟨k4, ld⟩
      rw [List.take_of_length_le (by omega)] at ld
      have hle := List.length_filter_le unlike F
      exact k D H' _ (k03.free fD) (Kp.trans k03 k4) ld up.diff (by omega)

def sp_turned (K : PySem.W.Frag) : Sp := fun vs H Q _ => ∃ (l : Addr) (P : List Part), vs = [.ref l] ∧ Dp K H (.ref l) (.list (P.map d4)) ∧ P.length ≤ 100000 ∧
  ∀ D H', Fr H D → Kp [] H H' → LD K H' D ((P.map turnP).map d4) → Q (.ref D) H'
theorem sc_turned : FnScope ["thing", "begin", "end", "had", "has"] ["thing"] (defScope s_turned) :=
  ⟨rfl, rfl, rfl, by decide +kernel, rfl, by decide +kernel, by decide +kernel⟩
theorem ok_turned {P : Program} {w : World} {K : PySem.W.Frag} {mg : Str → Option Value} {base : Heap} (T : Txt K mg) :
    FnG P w K mg base 1 T.a_turned T.d_turned ["thing"] (sp_turned K) := by
  refine okD T.F_turned sc_turned (fun vs H Q E h => ?_) (fun cdv A outer s H vs Q E hr h => ?_)
  · first
      | (obtain ⟨_, rfl, _⟩ := h; rfl)
      | (obtain ⟨_, _, rfl, _⟩ := h; rfl)
      | (obtain ⟨_, _, _, rfl, _⟩ := h; rfl)
      | (obtain ⟨_, _, _, _, rfl, _⟩ := h; rfl)
      | (obtain ⟨_, _, _, _, _, rfl, _⟩ := h; rfl)
      | (obtain ⟨_, _, _, _, _, _, rfl, _⟩ := h; rfl)
      | (obtain ⟨_, _, _, _, _, _, _, rfl, _⟩ := h; rfl)
      | (obtain ⟨_, _, _, _, _, _, _, _, rfl, _⟩ := h; rfl)
      | (obtain ⟨_, _, _, _, _, _, _, _, _, rfl, _⟩ := h; rfl)
      | (obtain ⟨_, _, _, _, _, _, _, _, _, _, rfl, _⟩ := h; rfl)
      | (obtain ⟨_, _, _, _, _, _, _, _, _, _, _, rfl, _⟩ := h; rfl)
      | (obtain ⟨_, _, _, _, _, _, _, _, _, _, _, _, rfl, _⟩ := h; rfl)
      | (obtain ⟨_, _, _, _, _, _, _, _, _, _, _, _, _, rfl, _⟩ := h; rfl)
      | (obtain ⟨_, _, _, _, _, _, _, _, _, _, _, _, _, _, rfl, _⟩ := h; rfl)
      | (obtain ⟨_, _, _, _, _, _, _, _, _, _, _, _, _, _, _, rfl, _⟩ := h; rfl)
      | (obtain ⟨_, _, _, _, _, _, _, _, _, _, _, _, _, _, _, _, rfl, _⟩ := h; rfl)
      | (obtain ⟨_, _, _, _, _, _, _, _, _, _, _, _, _, _, _, _, _, rfl, _⟩ := h; rfl)
      | (obtain ⟨_, _, _, _, _, _, _, _, _, _, _, _, _, _, _, _, _, _, rfl, _⟩ := h; rfl)
      | (obtain ⟨_, _, _, _, _, _, _, _, _, _, _, _, _, _, _, _, _, _, _, rfl, _⟩ := h; rfl)
  · obtain ⟨l, P, rfl, hl, hP, k⟩ := h
    cases hl
    rename_i xs hsq hall
    have hxl := dpa_len hall
    rw [List.length_map] at hxl
    refine ⟨_, (pss_one (ps_ret (pe_lc (own := [("begin", 1), ("end", 2), ("had", 3), ("has", 4)]) (g := (gTup K 4 (gCons (gName 1) (gCons (gName 2) (gCons (gName 3) (gCons (gName 4) gNil)))))) (tt := tYes) rfl sc_turned.nd (k_plist (K := K) rfl (pv 0)) (blkOk_by (own := [("begin", 1), ("end", 2), ("had", 3), ("has", 4)]) (N := ["thing", "begin", "end", "had", "has"]) (sc := defScope s_turned) (by decide +kernel)) (fun _ _ _ _ _ => (k_gtup (K := K) 4 rfl rfl (pgs_cons (pg_name (i := 1) sc_turned.nd rfl (Or.inl rfl)) (pgs_cons (pg_name (i := 2) sc_turned.nd rfl (Or.inl rfl)) (pgs_cons (pg_name (i := 3) sc_turned.nd rfl (Or.inl rfl)) (pgs_cons (pg_name (i := 4) sc_turned.nd rfl (Or.inl rfl)) pgs_nil)))))) (fun _ _ _ _ _ => pts_nil) (fun _ _ _ _ _ => (pe_tup (pa_cons (pv 1) (pa_cons (pv 2) (pa_cons (pv 4) (pa_cons (pv 3) pa_nil))))))))), ?_⟩
    dsimp only [cxOf, st_1, st_2, st_3, st_4, st_5, st_6, List.length_cons, List.length_nil, List.replicate_succ, List.replicate_zero, Nat.reduceAdd, Nat.reduceSub]
    walk_at "gs"
    refine i_mapD hsq ((P.map turnP).map d4) (imms_d4 _) (by rw [List.length_map, List.length_map]; omega) (by omega) ?_ (fun D H' f1 k1 ld => k D H' f1 k1 ld)
    intro D i x d H' Q' fD hx hd k1 q
    obtain ⟨d0, hd0, hdp⟩ := dpa_getV hall hx
    obtain ⟨p, hp, rfl⟩ := map_get hd0
    obtain ⟨t, rfl, hT⟩ := dp_four (dp_imm k1 _ _ rfl hdp)
    rw [List.getElem?_map, List.getElem?_map, hp] at hd
    cases hd
    walk_at "gs"
    refine i_new fun u hu => ?_
    exact q (.ref u) _ (Kp.new hu) (dp_mk4 (p := turnP p) (SqT.of upd_same))

/-- what a difference has to be, for itself -/
structure Sound (n : Int) (P : List Part) : Prop where
  row : P.Pairwise Beside
  wide : ∀ p ∈ P, 0 ≤ p.b ∧ p.b < p.e ∧ p.e ≤ n
  un : ∀ p ∈ P, p.h ≠ p.g
theorem Diff.sound {cs ds : List Int} {P : List Part} (t : Diff cs ds P) : Sound cs.length P := ⟨t.row, t.wide, t.un⟩
theorem Sound.next {n : Int} {P : List Part} (t : Sound n P) {i : Nat} {p q : Part} (hp : P[i]? = some p) (hq : P[i + 1]? = some q) : Beside p q := by
  obtain ⟨h1, e1⟩ := List.getElem?_eq_some_iff.mp hp
  obtain ⟨h2, e2⟩ := List.getElem?_eq_some_iff.mp hq
  have := List.pairwise_iff_getElem.mp t.row i (i + 1) h1 h2 (by omega)
  rw [e1, e2] at this
  exact this

/-! ### a difference is carried -/
def sp_is_part (K : PySem.W.Frag) : Sp := fun vs H Q _ => ∃ (t : Addr) (p : Part) (lo n : Int), vs = [.ref t, .int lo, .int n] ∧ SqT K H t [.int p.b, .int p.e, .int p.h, .int p.g] ∧
  (lo ≤ p.b ∧ p.b < p.e ∧ p.e ≤ n) ∧ p.h ≠ p.g ∧ Q (.bl true) H
theorem sc_is_part : FnScope ["thing", "least", "size", "begin", "end", "had", "has"] ["thing", "least", "size"] (defScope s_is_part) :=
  ⟨rfl, rfl, rfl, by decide +kernel, rfl, by decide +kernel, by decide +kernel⟩
theorem ok_is_part {P : Program} {w : World} {K : PySem.W.Frag} {mg : Str → Option Value} {base : Heap} (T : Txt K mg) :
    FnG P w K mg base 3 T.a_is_part T.d_is_part ["thing", "least", "size"] (sp_is_part K) := by
  refine okD T.F_is_part sc_is_part (fun vs H Q E h => ?_) (fun cdv A outer s H vs Q E hr h => ?_)
  · first
      | (obtain ⟨_, rfl, _⟩ := h; rfl)
      | (obtain ⟨_, _, rfl, _⟩ := h; rfl)
      | (obtain ⟨_, _, _, rfl, _⟩ := h; rfl)
      | (obtain ⟨_, _, _, _, rfl, _⟩ := h; rfl)
      | (obtain ⟨_, _, _, _, _, rfl, _⟩ := h; rfl)
      | (obtain ⟨_, _, _, _, _, _, rfl, _⟩ := h; rfl)
      | (obtain ⟨_, _, _, _, _, _, _, rfl, _⟩ := h; rfl)
      | (obtain ⟨_, _, _, _, _, _, _, _, rfl, _⟩ := h; rfl)
      | (obtain ⟨_, _, _, _, _, _, _, _, _, rfl, _⟩ := h; rfl)
      | (obtain ⟨_, _, _, _, _, _, _, _, _, _, rfl, _⟩ := h; rfl)
      | (obtain ⟨_, _, _, _, _, _, _, _, _, _, _, rfl, _⟩ := h; rfl)
      | (obtain ⟨_, _, _, _, _, _, _, _, _, _, _, _, rfl, _⟩ := h; rfl)
      | (obtain ⟨_, _, _, _, _, _, _, _, _, _, _, _, _, rfl, _⟩ := h; rfl)
      | (obtain ⟨_, _, _, _, _, _, _, _, _, _, _, _, _, _, rfl, _⟩ := h; rfl)
      | (obtain ⟨_, _, _, _, _, _, _, _, _, _, _, _, _, _, _, rfl, _⟩ := h; rfl)
      | (obtain ⟨_, _, _, _, _, _, _, _, _, _, _, _, _, _, _, _, rfl, _⟩ := h; rfl)
      | (obtain ⟨_, _, _, _, _, _, _, _, _, _, _, _, _, _, _, _, _, rfl, _⟩ := h; rfl)
      | (obtain ⟨_, _, _, _, _, _, _, _, _, _, _, _, _, _, _, _, _, _, rfl, _⟩ := h; rfl)
      | (obtain ⟨_, _, _, _, _, _, _, _, _, _, _, _, _, _, _, _, _, _, _, rfl, _⟩ := h; rfl)
  · obtain ⟨t, p, lo, n, rfl, hT, hb, hne, k⟩ := h
    refine ⟨_, (pss_cons (ps_if (PW.pt (pw_or (pt_not (pt_val (pe_callB (k_isi (K := K) rfl) (by rfl) T.n_isinstance (by decide +kernel) (pa_cons (pv 0) (pa_cons (pe_bltn (v := .ty "tuple") (by rfl) T.n_tuple (by decide +kernel) rfl) pa_nil))))) (pw_or1 (pt_cmpR (k_ne (K := K) rfl hr.r.units) (pe_callB (k_len (K := K) rfl) (by rfl) T.n_len (by decide +kernel) (pa_cons (pv 0) pa_nil)) pe_int (nomark _))))) (pss_one (ps_ret pe_bl)) pss_nil)
      (pss_cons (ps_asg (pv 0) (k_gtup (K := K) 4 rfl rfl (pgs_cons (pg_name (i := 3) sc_is_part.nd rfl (Or.inl rfl)) (pgs_cons (pg_name (i := 4) sc_is_part.nd rfl (Or.inl rfl)) (pgs_cons (pg_name (i := 5) sc_is_part.nd rfl (Or.inl rfl)) (pgs_cons (pg_name (i := 6) sc_is_part.nd rfl (Or.inl rfl)) pgs_nil))))))
      (pss_cons (ps_if (PW.pt (pw_or (pt_not (pt_val (d1 (ok_is_whole T) (hr.mono (by decide)) (by rfl) T.m_is_whole T.F_is_whole.kp T.b_is_whole passL (pa_cons (pv 3) (pa_cons (pv 1) (pa_cons (pv 2) pa_nil)))))) (pw_or1 (pt_not (pt_val (d1 (ok_is_whole T) (hr.mono (by decide)) (by rfl) T.m_is_whole T.F_is_whole.kp T.b_is_whole passL (pa_cons (pv 4) (pa_cons (pe_op (k_add (K := K) rfl) (pv 3) pe_int) (pa_cons (pv 2) pa_nil))))))))) (pss_one (ps_ret pe_bl)) pss_nil)
      (pss_one (ps_ret (pe_and (d1 (ok_is_number T) (hr.mono (by decide)) (by rfl) T.m_is_number T.F_is_number.kp T.b_is_number passL (pa_cons (pv 5) pa_nil)) (pe_and (d1 (ok_is_number T) (hr.mono (by decide)) (by rfl) T.m_is_number T.F_is_number.kp T.b_is_number passL (pa_cons (pv 6) pa_nil)) (pe_one (pe_cmpR (k_ne (K := K) rfl hr.r.units) (pv 5) (pv 6) (nomark _)))))))))), ?_⟩
    dsimp only [cxOf, st_1, st_2, st_3, st_4, st_5, st_6, List.length_cons, List.length_nil, List.replicate_succ, List.replicate_zero, Nat.reduceAdd, Nat.reduceSub]
    walk_at "gs"
    refine i_isD (dp_mk4 (p := p) hT) (show kitB "tuple" "tuple" = some true by decide +kernel) ?_
    walk_at "gs"
    refine i_decN (fun z => absurd rfl z) (fun _ => ?_)
    walk_at "gs"
    refine ⟨p.b, lo, n, rfl, ?_⟩
    rw [decide_eq_true (show lo ≤ p.b ∧ p.b ≤ n by omega)]
    walk_at "gs"
    refine ⟨p.e, p.b + 1, n, rfl, ?_⟩
    rw [decide_eq_true (show p.b + 1 ≤ p.e ∧ p.e ≤ n by omega)]
    walk_at "gs"
    refine ⟨p.h, rfl, ?_⟩
    walk_at "gs"
    refine ⟨p.g, rfl, ?_⟩
    walk_at "gs"
    rw [decide_eq_false hne]
    exact k
theorem i_slT2 {K : PySem.W.Frag} {H : Hp} {Q : VK} {t : Addr} {a b c d : V} (h : SqT K H t [a, b, c, d]) (q : New H fun p => Q (.ref p) (upd H p (.tup [c, d]))) : rSlT K (.ref t) (some 2) none H Q :=
  ⟨t, _, rfl, h, fun z => absurd (show (2 : Nat) = 0 from z.1) (by decide), q⟩
def sp_is_diff (K : PySem.W.Frag) : Sp := fun vs H Q _ => ∃ (l : Addr) (P : List Part) (n : Int), vs = [.ref l, .int n] ∧ Dp K H (.ref l) (.list (P.map d4)) ∧ Sound n P ∧
  ∀ H', Kp [] H H' → Q (.bl true) H'
theorem sc_is_difference : FnScope ["thing", "size", "ahead", "part"] ["thing", "size"] (defScope s_is_difference) :=
  ⟨rfl, rfl, rfl, by decide +kernel, rfl, by decide +kernel, by decide +kernel⟩
theorem ok_is_difference {P : Program} {w : World} {K : PySem.W.Frag} {mg : Str → Option Value} {base : Heap} (T : Txt K mg) :
    FnG P w K mg base 4 T.a_is_difference T.d_is_difference ["thing", "size"] (sp_is_diff K) := by
  refine okD T.F_is_difference sc_is_difference (fun vs H Q E h => ?_) (fun cdv A outer s H vs Q E hr h => ?_)
  · first
      | (obtain ⟨_, rfl, _⟩ := h; rfl)
      | (obtain ⟨_, _, rfl, _⟩ := h; rfl)
      | (obtain ⟨_, _, _, rfl, _⟩ := h; rfl)
      | (obtain ⟨_, _, _, _, rfl, _⟩ := h; rfl)
      | (obtain ⟨_, _, _, _, _, rfl, _⟩ := h; rfl)
      | (obtain ⟨_, _, _, _, _, _, rfl, _⟩ := h; rfl)
      | (obtain ⟨_, _, _, _, _, _, _, rfl, _⟩ := h; rfl)
      | (obtain ⟨_, _, _, _, _, _, _, _, rfl, _⟩ := h; rfl)
      | (obtain ⟨_, _, _, _, _, _, _, _, _, rfl, _⟩ := h; rfl)
      | (obtain ⟨_, _, _, _, _, _, _, _, _, _, rfl, _⟩ := h; rfl)
      | (obtain ⟨_, _, _, _, _, _, _, _, _, _, _, rfl, _⟩ := h; rfl)
      | (obtain ⟨_, _, _, _, _, _, _, _, _, _, _, _, rfl, _⟩ := h; rfl)
      | (obtain ⟨_, _, _, _, _, _, _, _, _, _, _, _, _, rfl, _⟩ := h; rfl)
      | (obtain ⟨_, _, _, _, _, _, _, _, _, _, _, _, _, _, rfl, _⟩ := h; rfl)
      | (obtain ⟨_, _, _, _, _, _, _, _, _, _, _, _, _, _, _, rfl, _⟩ := h; rfl)
      | (obtain ⟨_, _, _, _, _, _, _, _, _, _, _, _, _, _, _, _, rfl, _⟩ := h; rfl)
      | (obtain ⟨_, _, _, _, _, _, _, _, _, _, _, _, _, _, _, _, _, rfl, _⟩ := h; rfl)
      | (obtain ⟨_, _, _, _, _, _, _, _, _, _, _, _, _, _, _, _, _, _, rfl, _⟩ := h; rfl)
      | (obtain ⟨_, _, _, _, _, _, _, _, _, _, _, _, _, _, _, _, _, _, _, rfl, _⟩ := h; rfl)
  · obtain ⟨l, P, n, rfl, hl, so, k⟩ := h
    have hD := hl
    cases hl
    rename_i xs hsq hall
    have hxl := dpa_len hall
    rw [List.length_map] at hxl
    refine ⟨_, (pss_cons (ps_if (pt_not (pt_val (pe_callB (k_isi (K := K) rfl) (by rfl) T.n_isinstance (by decide +kernel) (pa_cons (pv 0) (pa_cons (pe_bltn (v := .ty "list") (by rfl) T.n_list (by decide +kernel) rfl) pa_nil))))) (pss_one (ps_ret pe_bl)) pss_nil)
      (pss_cons (ps_set (i := 2) sc_is_difference.nd rfl (Or.inl rfl) (pe_tup (pa_cons pe_int (pa_cons pe_int (pa_cons pe_non (pa_cons pe_non pa_nil))))))
      (pss_cons (ps_for (passes_of rfl) rfl (k_plist (K := K) rfl (pv 0)) (pg_name (i := 3) sc_is_difference.nd rfl (Or.inl rfl))
      (pss_cons (ps_if (PW.pt (pw_or (pt_not (pt_val (d1 (ok_is_part T) (hr.mono (by decide)) (by rfl) T.m_is_part T.F_is_part.kp T.b_is_part passL (pa_cons (pv 3) (pa_cons (pe_ix (k_ix (K := K) rfl) (pv 2) pe_int (fun _ _ => rfl)) (pa_cons (pv 1) pa_nil)))))) (pw_or1 (PW.pt (pw_and (pt_cmpR (k_eq (K := K) rfl hr.r.units) (pe_ix (k_ix (K := K) rfl) (pv 3) pe_int (fun _ _ => rfl)) (pe_ix (k_ix (K := K) rfl) (pv 2) pe_int (fun _ _ => rfl)) (nomark _)) (pw_and1 (pt_cmpR (k_eq (K := K) rfl hr.r.units) (pe_slice (k_slT (K := K) rfl) (pv 3) (po_some pe_int) po_none) (pe_slice (k_slT (K := K) rfl) (pv 2) (po_some pe_int) po_none) (nomark _)))))))) (pss_one (ps_ret pe_bl)) pss_nil)
      (pss_one (ps_set (i := 2) sc_is_difference.nd rfl (Or.inl rfl) (pv 3)))))
      (pss_one (ps_ret pe_bl))))), ?_⟩
    dsimp only [cxOf, st_1, st_2, st_3, st_4, st_5, st_6, List.length_cons, List.length_nil, List.replicate_succ, List.replicate_zero, Nat.reduceAdd, Nat.reduceSub]
    walk_at "gs"
    refine i_isD hD (show kitB "list" "list" = some true by decide +kernel) ?_
    walk_at "gs"
    refine i_new fun t0 ft0 => ?_
    walk_at "gs"
    have k0 : Kp [] H (upd H t0 (.tup [.int 0, .int 0, .non, .non])) := Kp.new ft0
    refine i_each (k0.seqL not_nil hsq) (fun i σ H' => ∃ (y3 : Option V) (ta : Addr) (b0 e0 : Int) (u v : V), σ = [some (.ref l), some (.int n), some (.ref ta), y3] ∧ Kp [] H H' ∧ SqT K H' ta [.int b0, .int e0, u, v] ∧ 0 ≤ e0 ∧
      ((i = 0 ∧ e0 = 0 ∧ u = .non ∧ v = .non) ∨ ∃ j p, i = j + 1 ∧ P[j]? = some p ∧ e0 = p.e ∧ u = .int p.h ∧ v = .int p.g)) ?_ ?_ ?_ ?_
    · exact ⟨_, t0, 0, 0, .non, .non, rfl, k0, SqT.of upd_same, Int.le_refl _, .inl ⟨rfl, rfl, rfl, rfl⟩⟩
    · rintro i σ H' _ ⟨y3, ta, b0, e0, u, v, rfl, k1, _⟩
      exact k1.seqL not_nil hsq
    · rintro i x σ H' hx ⟨y3, ta, b0, e0, u, v, rfl, k1, hA, he0, hah⟩
      obtain ⟨d0, hd0, hdp⟩ := dpa_getV hall hx
      obtain ⟨p, hp, rfl⟩ := map_get hd0
      obtain ⟨t, rfl, hT⟩ := dp_four (dp_imm k1 _ _ rfl hdp)
      have hpm := List.mem_of_getElem? hp
      obtain ⟨w1, w2, w3⟩ := so.wide p hpm
      have lo : e0 ≤ p.b := by
        rcases hah with ⟨_, z, _⟩ | ⟨j, q, rfl, hq, z, _⟩
        · omega
        · have := (so.next hq hp).1
          omega
      have go : ∀ H2, Kp [] H' H2 → ∃ (y3 : Option V) (ta : Addr) (b0 e0 : Int) (u v : V), [some (V.ref l), some (V.int n), some (V.ref t), some (V.ref t)] = [some (.ref l), some (.int n), some (.ref ta), y3] ∧ Kp [] H H2 ∧
          SqT K H2 ta [.int b0, .int e0, u, v] ∧ 0 ≤ e0 ∧ ((i + 1 = 0 ∧ e0 = 0 ∧ u = .non ∧ v = .non) ∨ ∃ j p, i + 1 = j + 1 ∧ P[j]? = some p ∧ e0 = p.e ∧ u = .int p.h ∧ v = .int p.g) :=
        fun H2 k2 => ⟨_, t, p.b, p.e, .int p.h, .int p.g, rfl, Kp.trans k1 k2, k2.seqT hT, by omega, .inr ⟨i, p, rfl, hp, rfl, rfl, rfl⟩⟩
      walk_at "gs"
      refine ⟨t, p, e0, n, rfl, hT, ⟨lo, w2, w3⟩, so.un p hpm, ?_⟩
      walk_at "gs"
      refine i_dec (fun c => ?_) (fun c => ?_)
      · walk_at "gs"
        refine i_slT2 hT ?_
        refine i_new fun s1 fs1 => ?_
        walk_at "gs"
        refine i_slT2 (sqT_new hA fs1) ?_
        refine i_new fun s2 fs2 => ?_
        have k2 : Kp [] H' (upd (upd H' s1 (.tup [.int p.h, .int p.g])) s2 (.tup [u, v])) := by walk_at "g_kp"
        have hs1 : upd (upd H' s1 (.tup [.int p.h, .int p.g])) s2 (.tup [u, v]) s1 = some (.tup [.int p.h, .int p.g]) := by
          have ns : s1 ≠ s2 := fr_tr tr_same fs2
          walk_at "g_hp"
        rcases hah with ⟨_, _, rfl, rfl⟩ | ⟨j, q, rfl, hq, z, rfl, rfl⟩
        · refine i_eqD (d := .tuple [.int p.h, .int p.g]) (e := .tuple [.none, .none]) (.tup (SqT.of hs1) (.cons (.int _) (.cons (.int _) .nil))) (.tup (SqT.of upd_same) (.cons .non (.cons .non .nil))) rfl rfl ?_
          have e : PyData.eqv (.tuple [.int p.h, .int p.g]) (.tuple [.none, .none]) = false := rfl
          rw [e]
          walk_at "gs"
          exact go _ k2
        · have nx := so.next hq hp
          have ne : ¬ (q.h = p.h ∧ q.g = p.g) := nx.2 (by omega)
          refine i_eqD (d := .tuple [.int p.h, .int p.g]) (e := .tuple [.int q.h, .int q.g]) (.tup (SqT.of hs1) (.cons (.int _) (.cons (.int _) .nil))) (.tup (SqT.of upd_same) (.cons (.int _) (.cons (.int _) .nil))) rfl rfl ?_
          have e : PyData.eqv (.tuple [.int p.h, .int p.g]) (.tuple [.int q.h, .int q.g]) = false := by
            simp only [PyData.eqv, PyData.eqvAll, Bool.and_true, Bool.and_eq_false_iff, beq_eq_false_iff_ne]
            by_cases c2 : p.h = q.h
            · exact .inr fun z2 => ne ⟨c2.symm, z2.symm⟩
            · exact .inl c2
          rw [e]
          walk_at "gs"
          exact go _ k2
      · walk_at "gs"
        exact go _ Kp.refl
    · rintro σ H' ⟨y3, ta, b0, e0, u, v, rfl, k1, _⟩
      walk_at "gs"
      exact k H' k1

theorem i_base {K : PySem.W.Frag} {B n1 n2 : String} {tl : List Value} {ta : TA} {σ : L2.St} {H : Hp} {Q : VK} (h : ta σ H fun vs H1 => ∃ (a C : Addr) (ws : List V), vs = .ref a :: ws ∧ ws.length ≤ 1000 ∧ XC K C B n1 n2 tl ∧ H1 a = some (exo a C none) ∧ Q .non H1) :
    tBase K B n1 n2 tl ta σ H Q := h
theorem i_put {K : PySem.W.Frag} {B n1 n2 : String} {tl : List Value} {f : Str} {to te : TE} {D : Ends} {σ : L2.St} {H : Hp} (h : te σ H fun y H1 => to σ H1 fun x H2 =>
    ∃ a C : Addr, x = .ref a ∧ XC K C B n1 n2 tl ∧ PySem.W.findIn K (.ref C) f = some none ∧ H2 a = some (exo a C none) ∧
      ∀ dx, H2 dx = none → dx ≠ a → D.nx σ (upd (upd H2 dx (exd dx [(f, y)])) a (exo a C (some dx)))) : tPut K B n1 n2 tl f to te D σ H := h
--%%M
local macro_rules | `(tactic| walk_at "g_own") => `(tactic| first
  | (with_reducible refine i_put ?_)
  | (with_reducible refine i_base ?_)
  | (with_reducible refine i_callX0 ?_)
  | (with_reducible refine i_callX ?_))
--%%E
def sp_xinit (C : Addr) (f : Str) : Sp := fun vs H Q _ => ∃ (a : Addr) (y : V), vs = [.ref a, y] ∧ H a = some (exo a C none) ∧
  ∀ dx, H dx = none → dx ≠ a → Q .non (upd (upd H dx (exd dx [(f, y)])) a (exo a C (some dx)))
theorem i_newX {C : Addr} {f : Str} {ta : TA} {σ : L2.St} {H : Hp} {Q : XK} (h : ta σ H fun vs H1 => ∃ v, vs = [v] ∧ ∀ d, Fr H1 d → Q (.ref C) (some d) (upd H1 d (.xd [(f, v)])))
    (mono : ∀ {P P' : List V → Hp → Prop}, (∀ vs H1, P vs H1 → P' vs H1) → ta σ H P → ta σ H P') : tNewX C (sp_xinit C f) ta σ H Q := by
  refine mono ?_ h
  rintro vs H1 ⟨v, rfl, k⟩
  refine ⟨by rw [List.length_singleton]; decide, fun a na => ⟨a, v, rfl, upd_same, fun dx n ne => ⟨rfl, dx, [(f, v)], upd_same, ?_, ?_, ?_⟩⟩⟩
  · rw [upd_ne ne]
    exact upd_same
  · rw [upd_ne ne] at n
    exact n
  · have n2 : H1 dx = none := by
      rw [upd_ne ne] at n
      exact n
    have e : upd (L2.del (upd (upd (upd H1 a (exo a C none)) dx (exd dx [(f, v)])) a (exo a C (some dx))) a) dx (.xd [(f, v)]) = upd H1 dx (.xd [(f, v)]) := by
      funext b
      by_cases z : b = dx
      · rw [z, upd_same, upd_same]
      · rw [upd_ne z, upd_ne z]
        by_cases z2 : b = a
        · rw [z2, L2.del_same, na]
        · rw [L2.del_ne z2, upd_ne z2, upd_ne z, upd_ne z2]
    rw [e]
    exact k dx ⟨n2⟩
theorem mono_cons {te : TE} {tr : TA} {σ : L2.St} {H : Hp} (h1 : ∀ {P P' : VK}, (∀ v H1, P v H1 → P' v H1) → te σ H P → te σ H P') (h2 : ∀ {H1 : Hp} {P P' : List V → Hp → Prop}, (∀ vs H2, P vs H2 → P' vs H2) → tr σ H1 P → tr σ H1 P')
    {P P' : List V → Hp → Prop} (k : ∀ vs H1, P vs H1 → P' vs H1) (z : tCons te tr σ H P) : tCons te tr σ H P' :=
  h1 (fun v H1 q => h2 (fun vs H2 r => k _ _ r) q) z
theorem mono_var {i : Nat} {σ : L2.St} {H : Hp} {P P' : VK} (k : ∀ v H1, P v H1 → P' v H1) (z : tVar i σ H P) : tVar i σ H P' := by
  obtain ⟨v, e, q⟩ := z
  exact ⟨v, e, k _ _ q⟩
theorem mono_nil {σ : L2.St} {H : Hp} {P P' : List V → Hp → Prop} (k : ∀ vs H1, P vs H1 → P' vs H1) (z : tNil σ H P) : tNil σ H P' := k _ _ z
theorem sc_Clash_init : FnScope ["self", "cell"] ["self", "cell"] (defScope s_Clash_init) :=
  ⟨rfl, rfl, rfl, by decide +kernel, rfl, by decide +kernel, by decide +kernel⟩
theorem ok_Clash_init {P : Program} {w : World} {K : PySem.W.Frag} {mg : Str → Option Value} {base : Heap} (T : Txt K mg) :
    FnG P w K mg base 1 T.a_Clash_init T.d_Clash_init ["self", "cell"] (sp_xinit T.x_Clash "cell") := by
  refine okD T.F_Clash_init sc_Clash_init (fun vs H Q E h => ?_) (fun cdv A outer s H vs Q E hr h => ?_)
  · first
      | (obtain ⟨_, rfl, _⟩ := h; rfl)
      | (obtain ⟨_, _, rfl, _⟩ := h; rfl)
      | (obtain ⟨_, _, _, rfl, _⟩ := h; rfl)
      | (obtain ⟨_, _, _, _, rfl, _⟩ := h; rfl)
      | (obtain ⟨_, _, _, _, _, rfl, _⟩ := h; rfl)
      | (obtain ⟨_, _, _, _, _, _, rfl, _⟩ := h; rfl)
      | (obtain ⟨_, _, _, _, _, _, _, rfl, _⟩ := h; rfl)
      | (obtain ⟨_, _, _, _, _, _, _, _, rfl, _⟩ := h; rfl)
      | (obtain ⟨_, _, _, _, _, _, _, _, _, rfl, _⟩ := h; rfl)
      | (obtain ⟨_, _, _, _, _, _, _, _, _, _, rfl, _⟩ := h; rfl)
      | (obtain ⟨_, _, _, _, _, _, _, _, _, _, _, rfl, _⟩ := h; rfl)
      | (obtain ⟨_, _, _, _, _, _, _, _, _, _, _, _, rfl, _⟩ := h; rfl)
      | (obtain ⟨_, _, _, _, _, _, _, _, _, _, _, _, _, rfl, _⟩ := h; rfl)
      | (obtain ⟨_, _, _, _, _, _, _, _, _, _, _, _, _, _, rfl, _⟩ := h; rfl)
      | (obtain ⟨_, _, _, _, _, _, _, _, _, _, _, _, _, _, _, rfl, _⟩ := h; rfl)
      | (obtain ⟨_, _, _, _, _, _, _, _, _, _, _, _, _, _, _, _, rfl, _⟩ := h; rfl)
      | (obtain ⟨_, _, _, _, _, _, _, _, _, _, _, _, _, _, _, _, _, rfl, _⟩ := h; rfl)
      | (obtain ⟨_, _, _, _, _, _, _, _, _, _, _, _, _, _, _, _, _, _, rfl, _⟩ := h; rfl)
      | (obtain ⟨_, _, _, _, _, _, _, _, _, _, _, _, _, _, _, _, _, _, _, rfl, _⟩ := h; rfl)
  · obtain ⟨a, y, rfl, ha, k⟩ := h
    have cl_Memory := T.cl_Memory
    have na_Memory_pairs := T.na_Memory_pairs
    have na_Memory_wide := T.na_Memory_wide
    refine ⟨_, (pss_cons (ps_expr (x_base under_RuntimeError (by rfl) T.n_RuntimeError (by decide +kernel) (by kernel_rfl) T.xv_Clash (pa_cons (pv 0) (pa_cons pe_str pa_nil))))
      (pss_one (x_put (B := "RuntimeError") (newId := "RuntimeError.__new__") (initId := "RuntimeError.__init__") (tail := [.type "RuntimeError", .type "Exception", .type "BaseException", .type "object"]) (pv 0) (pv 1)))), ?_⟩
    dsimp only [cxOf, st_1, st_2, st_3, st_4, st_5, st_6, List.length_cons, List.length_nil, List.replicate_succ, List.replicate_zero, Nat.reduceAdd, Nat.reduceSub]
    walk_at "gs"
    refine ⟨a, T.x_Clash, [.str "a cell has another number"], rfl, by decide, T.xc_Clash, ha, ?_⟩
    walk_at "gs"
    refine ⟨a, T.x_Clash, rfl, T.xc_Clash, T.xn_Clash, ha, fun dx n ne => ?_⟩
    walk_at "gs"
    exact k dx n ne
/-- the error that tells the first cell -/
def Told (C : Addr) (H : Hp) (E : XK) (c : Int) : Prop := ∀ d H', Kp [] H H' → H' d = some (.xd [(("cell" : Str), .int c)]) → E (.ref C) (some d) H'
def sp_want_fit (K : PySem.W.Frag) (C X : Addr) : Sp := fun vs H Q E => ∃ (m l : Addr) (xs : List Int) (P : List Part), vs = [.ref m, .ref l] ∧ MemAt K C H m xs ∧ Dp K H (.ref l) (.list (P.map d4)) ∧ Sound xs.length P ∧
  (rle xs).length ≤ 10000 ∧ (∀ c, First xs P c → Told X H E c) ∧ ((∀ c, ¬ Clashes xs P c) → ∀ H', Kp [] H H' → Q .non H')
theorem sc_want_fit : FnScope ["memory", "thing", "begin", "end", "had", "has", "cell", "many", "number"] ["memory", "thing"] (defScope s_want_fit) :=
  ⟨rfl, rfl, rfl, by decide +kernel, rfl, by decide +kernel, by decide +kernel⟩
theorem ok_want_fit {P : Program} {w : World} {K : PySem.W.Frag} {mg : Str → Option Value} {base : Heap} (T : Txt K mg) :
    FnG P w K mg base 3 T.a_want_fit T.d_want_fit ["memory", "thing"] (sp_want_fit K T.c_Memory T.x_Clash) := by
  refine okD T.F_want_fit sc_want_fit (fun vs H Q E h => ?_) (fun cdv A outer s H vs Q E hr h => ?_)
  · first
      | (obtain ⟨_, rfl, _⟩ := h; rfl)
      | (obtain ⟨_, _, rfl, _⟩ := h; rfl)
      | (obtain ⟨_, _, _, rfl, _⟩ := h; rfl)
      | (obtain ⟨_, _, _, _, rfl, _⟩ := h; rfl)
      | (obtain ⟨_, _, _, _, _, rfl, _⟩ := h; rfl)
      | (obtain ⟨_, _, _, _, _, _, rfl, _⟩ := h; rfl)
      | (obtain ⟨_, _, _, _, _, _, _, rfl, _⟩ := h; rfl)
      | (obtain ⟨_, _, _, _, _, _, _, _, rfl, _⟩ := h; rfl)
      | (obtain ⟨_, _, _, _, _, _, _, _, _, rfl, _⟩ := h; rfl)
      | (obtain ⟨_, _, _, _, _, _, _, _, _, _, rfl, _⟩ := h; rfl)
      | (obtain ⟨_, _, _, _, _, _, _, _, _, _, _, rfl, _⟩ := h; rfl)
      | (obtain ⟨_, _, _, _, _, _, _, _, _, _, _, _, rfl, _⟩ := h; rfl)
      | (obtain ⟨_, _, _, _, _, _, _, _, _, _, _, _, _, rfl, _⟩ := h; rfl)
      | (obtain ⟨_, _, _, _, _, _, _, _, _, _, _, _, _, _, rfl, _⟩ := h; rfl)
      | (obtain ⟨_, _, _, _, _, _, _, _, _, _, _, _, _, _, _, rfl, _⟩ := h; rfl)
      | (obtain ⟨_, _, _, _, _, _, _, _, _, _, _, _, _, _, _, _, rfl, _⟩ := h; rfl)
      | (obtain ⟨_, _, _, _, _, _, _, _, _, _, _, _, _, _, _, _, _, rfl, _⟩ := h; rfl)
      | (obtain ⟨_, _, _, _, _, _, _, _, _, _, _, _, _, _, _, _, _, _, rfl, _⟩ := h; rfl)
      | (obtain ⟨_, _, _, _, _, _, _, _, _, _, _, _, _, _, _, _, _, _, _, rfl, _⟩ := h; rfl)
  · obtain ⟨m, l, xs, P, rfl, M, hl, so, few, kE, kQ⟩ := h
    cases hl
    rename_i vs hsq hall
    have hxl := dpa_len hall
    rw [List.length_map] at hxl
    have cl_Memory := T.cl_Memory
    have na_Memory_pairs := T.na_Memory_pairs
    have na_Memory_wide := T.na_Memory_wide
    refine ⟨_, (pss_one (ps_for (passes_of rfl) rfl (k_plist (K := K) rfl (pv 1)) (k_gtup (K := K) 4 rfl rfl (pgs_cons (pg_name (i := 2) sc_want_fit.nd rfl (Or.inl rfl)) (pgs_cons (pg_name (i := 3) sc_want_fit.nd rfl (Or.inl rfl)) (pgs_cons (pg_name (i := 4) sc_want_fit.nd rfl (Or.inl rfl)) (pgs_cons (pg_name (i := 5) sc_want_fit.nd rfl (Or.inl rfl)) pgs_nil)))))
      (pss_cons (ps_set (i := 6) sc_want_fit.nd rfl (Or.inl rfl) (pv 2))
      (pss_one (ps_for (passes_of rfl) rfl (k_plist (K := K) rfl (d1 (ok_cut_out T) (hr.mono (by decide)) (by rfl) T.m_cut_out T.F_cut_out.kp T.b_cut_out passL (pa_cons (dm0 T.cl_Memory T.me_Memory_runs (ok_Memory_runs T) (hr.mono (by decide)) T.b_Memory_runs passL (pv 0)) (pa_cons (pv 2) (pa_cons (pv 3) pa_nil))))) (k_gtup (K := K) 2 rfl rfl (pgs_cons (pg_name (i := 7) sc_want_fit.nd rfl (Or.inl rfl)) (pgs_cons (pg_name (i := 8) sc_want_fit.nd rfl (Or.inl rfl)) pgs_nil)))
      (pss_cons (ps_if (pt_cmpR (k_ne (K := K) rfl hr.r.units) (pv 8) (pv 4) (nomark _)) (pss_one (ps_raise rfl (takes_of rfl rfl rfl rfl) (x_new T.xc_Clash T.xi_Clash T.xt_Clash (ok_Clash_init T) (hr.mono (by decide)) T.b_Clash_init (by rfl) T.mx_Clash (pa_cons (pv 6) pa_nil)))) pss_nil)
      (pss_one (ps_aug (i := 6) sc_want_fit.nd rfl (Or.inl rfl) (pv 7) ip_add)))))))), ?_⟩
    dsimp only [cxOf, st_1, st_2, st_3, st_4, st_5, st_6, List.length_cons, List.length_nil, List.replicate_succ, List.replicate_zero, Nat.reduceAdd, Nat.reduceSub]
    walk_at "gs"
    refine i_each hsq (fun i σ H' => ∃ y2 y3 y4 y5 y6 y7 y8, σ = [some (.ref m), some (.ref l), y2, y3, y4, y5, y6, y7, y8] ∧ Kp [] H H' ∧
      ∀ p ∈ P.take i, ∀ x : Nat, p.b ≤ x → (x : Int) < p.e → xs[x]? = some p.h) ?_ ?_ ?_ ?_
    · exact ⟨none, none, none, none, none, none, none, rfl, Kp.refl, fun p hp => absurd hp (by rw [List.take_zero]; exact List.not_mem_nil)⟩
    · rintro i σ H' _ ⟨y2, y3, y4, y5, y6, y7, y8, rfl, k1, _⟩
      exact k1.seqL not_nil hsq
    · rintro i x σ H' hx ⟨y2, y3, y4, y5, y6, y7, y8, rfl, k1, clean⟩
      obtain ⟨d0, hd0, hdp⟩ := dpa_getV hall hx
      obtain ⟨p, hp, rfl⟩ := map_get hd0
      obtain ⟨t, rfl, hT⟩ := dp_four (dp_imm k1 _ _ rfl hdp)
      have hpm := List.mem_of_getElem? hp
      obtain ⟨w1, w2, w3⟩ := so.wide p hpm
      have M1 := mem_kp0 M k1
      walk_at "gs"
      refine ⟨m, xs, rfl, M1, fun l1 H2 f1 k2 ld1 => ?_⟩
      walk_at "gs"
      refine ⟨l1, p.b, p.e, rle xs, rfl, ld1.dp, by omega, fun l2 H3 f2 k3 ld2 => ?_⟩
      obtain ⟨cv, hcv, hca⟩ := id ld2
      have hcl := dpa_len hca
      rw [List.length_map] at hcl
      obtain ⟨ps, hps⟩ : ∃ ps, ps = cut p.b p.e (rle xs) := ⟨_, rfl⟩
      rw [← hps] at hca hcl
      have cps : cells ps = (xs.drop p.b.toNat).take (p.e.toNat - p.b.toNat) := by rw [hps, cut_rle]
      have pps : ∀ q ∈ ps, 0 < q.1 := fun q hq => by
        rw [hps] at hq
        exact cutF_pos _ _ _ _ q hq
      have lps : (wide ps) = p.e - p.b := by
        rw [← cells_len ps pps, cps, List.length_take, List.length_drop]
        omega
      have k23 : Kp [] H' H3 := Kp.trans k2 k3
      have val : ∀ (j : Nat) (q : Int × Int), ps[j]? = some q → ∀ x : Nat, p.b + wide (ps.take j) ≤ x → (x : Int) < p.b + wide (ps.take j) + q.1 → xs[x]? = some q.2 ∧ (x : Int) < p.e := by
        intro j q hq x x0 x1
        have wn := wide_nn (ps.take j) fun z hz => pps z (List.mem_of_mem_take hz)
        have r := run_cell pps hq (x := x - p.b.toNat) (by omega) (by omega)
        rw [cps, List.getElem?_take] at r
        split at r
        · rename_i z
          rw [List.getElem?_drop] at r
          have e : p.b.toNat + (x - p.b.toNat) = x := by omega
          rw [e] at r
          exact ⟨r, by omega⟩
        · cases r
      refine i_each (SqL.of hcv) (fun j σ H4 => ∃ y7 y8, σ = [some (.ref m), some (.ref l), some (.int p.b), some (.int p.e), some (.int p.h), some (.int p.g), some (.int (p.b + wide (ps.take j))), y7, y8] ∧ Kp [] H3 H4 ∧
        ∀ x : Nat, p.b ≤ x → (x : Int) < p.b + wide (ps.take j) → xs[x]? = some p.h) ?_ ?_ ?_ ?_
      · refine ⟨y7, y8, ?_, Kp.refl, fun x x0 x1 => ?_⟩
        · have e : p.b + wide (ps.take 0) = p.b := Int.add_zero _
          rw [e]
          rfl
        · have e : p.b + wide (ps.take 0) = p.b := Int.add_zero _
          omega
      · rintro j σ H4 _ ⟨y7, y8, rfl, k4, _⟩
        exact SqL.of (k4.at_ _ _ hcv not_nil)
      · rintro j x σ H4 hx ⟨y7, y8, rfl, k4, ok⟩
        obtain ⟨d1, hd1, hdp1⟩ := dpa_getV hca hx
        obtain ⟨q, hq, rfl⟩ := map_get hd1
        obtain ⟨u, rfl, hU⟩ := dp_pair (dp_imm k4 _ _ rfl hdp1)
        have q0 := pps q (List.mem_of_getElem? hq)
        have wn := wide_nn (ps.take j) fun z hz => pps z (List.mem_of_mem_take hz)
        walk_at "gs"
        refine i_decN (fun c => ?_) (fun c => ?_)
        · refine i_newX ?_ (mono_cons mono_var mono_nil)
          walk_at "gs"
          refine ⟨_, rfl, fun d fd => ?_⟩
          obtain ⟨c0, hc0⟩ : ∃ c0 : Nat, p.b + wide (ps.take j) = (c0 : Int) := ⟨(p.b + wide (ps.take j)).toNat, by omega⟩
          obtain ⟨v1, v2⟩ := val j q hq c0 (by omega) (by omega)
          refine kE (p.b + wide (ps.take j)) ⟨⟨p, hpm, by omega, by omega, ?_⟩, ?_⟩ d _ (Kp.trans k1 (Kp.trans k23 (Kp.trans k4 (Kp.new fd)))) upd_same
          · rw [hc0, Int.toNat_natCast, v1]
            exact fun z => c (Option.some.inj z)
          · rintro d2 ⟨r, hr, b1, b2, ne⟩
            obtain ⟨i2, hi2⟩ := List.getElem?_of_mem hr
            have d0 : 0 ≤ d2 := Int.le_trans (so.wide r hr).1 b1
            obtain ⟨d3, rfl⟩ := Int.eq_ofNat_of_zero_le d0
            rw [Int.toNat_natCast] at ne
            by_cases lt : i2 < i
            · have hr2 : r ∈ P.take i := by
                have : (P.take i)[i2]? = some r := by
                  rw [List.getElem?_take, if_pos lt]
                  exact hi2
                exact List.mem_of_getElem? this
              exact absurd (clean r hr2 d3 b1 b2) ne
            · by_cases eq : i2 = i
              · rw [eq, hp] at hi2
                cases hi2
                by_cases z : (d3 : Int) < p.b + wide (ps.take j)
                · exact absurd (ok d3 b1 z) ne
                · omega
              · obtain ⟨g1, e1⟩ := List.getElem?_eq_some_iff.mp hp
                obtain ⟨g2, e2⟩ := List.getElem?_eq_some_iff.mp hi2
                have bs := List.pairwise_iff_getElem.mp so.row i i2 g1 g2 (by omega)
                rw [e1, e2] at bs
                have := bs.1
                omega
        · walk_at "gs"
          have wt := wide_take hq
          have e : p.b + wide (ps.take (j + 1)) = p.b + wide (ps.take j) + q.1 := by omega
          rw [e]
          refine ⟨_, _, rfl, k4, fun x x0 x1 => ?_⟩
          by_cases z : (x : Int) < p.b + wide (ps.take j)
          · exact ok x x0 z
          · rw [(val j q hq x (by omega) x1).1]
            congr 1
      · rintro σ H4 ⟨y7, y8, rfl, k4, ok⟩
        refine ⟨_, _, _, _, _, _, _, rfl, Kp.trans k1 (Kp.trans k23 k4), fun r hr x x0 x1 => ?_⟩
        rw [List.take_add_one, hp] at hr
        rcases List.mem_append.mp hr with hr | hr
        · exact clean r hr x x0 x1
        · have e : r = p := by simpa using hr
          subst e
          refine ok x x0 ?_
          rw [hcl, List.take_length, lps]
          omega
    · rintro σ H' ⟨y2, y3, y4, y5, y6, y7, y8, rfl, k1, clean⟩
      walk_at "gs"
      refine kQ ?_ H' k1
      rintro c ⟨p, hp, b1, b2, ne⟩
      have c0 : 0 ≤ c := Int.le_trans (so.wide p hp).1 b1
      obtain ⟨c1, rfl⟩ := Int.eq_ofNat_of_zero_le c0
      rw [Int.toNat_natCast] at ne
      exact ne (clean p (by rw [List.take_of_length_le (by omega)]; exact hp) c1 b1 b2)

def sp_put (K : PySem.W.Frag) (C X : Addr) : Sp := fun vs H Q E => ∃ (m : Addr) (c : Int) (y : V) (cs : List Int),
  vs = [.ref m, .int c, y] ∧ MemAt K C H m cs ∧ ((¬(0 ≤ c ∧ c < cs.length) ∧ E (.ref X) none H) ∨ (∃ v : Int, y = .int v ∧ (rle cs).length ≤ 10000 ∧ (0 ≤ c ∧ c < cs.length) ∧
  ∀ H', Kp [m] H H' → MemAt K C H' m (laid cs c.toNat [v] (c + 1).toNat) → (∀ b, Tr H b → Off H' m b) → Q .non H'))
theorem sc_Memory_put : FnScope ["self", "cell", "number"] ["self", "cell", "number"] (defScope s_Memory_put) :=
  ⟨rfl, rfl, rfl, by decide +kernel, rfl, by decide +kernel, by decide +kernel⟩
theorem ok_Memory_put {P : Program} {w : World} {K : PySem.W.Frag} {mg : Str → Option Value} {base : Heap} (T : Txt K mg) :
    FnG P w K mg base 4 T.a_Memory_put T.d_Memory_put ["self", "cell", "number"] (sp_put K T.c_Memory T.x_NoCell) := by
  refine okD T.F_Memory_put sc_Memory_put (fun vs H Q E h => ?_) (fun cdv A outer s H vs Q E hr h => ?_)
  · first
      | (obtain ⟨_, rfl, _⟩ := h; rfl)
      | (obtain ⟨_, _, rfl, _⟩ := h; rfl)
      | (obtain ⟨_, _, _, rfl, _⟩ := h; rfl)
      | (obtain ⟨_, _, _, _, rfl, _⟩ := h; rfl)
      | (obtain ⟨_, _, _, _, _, rfl, _⟩ := h; rfl)
      | (obtain ⟨_, _, _, _, _, _, rfl, _⟩ := h; rfl)
      | (obtain ⟨_, _, _, _, _, _, _, rfl, _⟩ := h; rfl)
      | (obtain ⟨_, _, _, _, _, _, _, _, rfl, _⟩ := h; rfl)
      | (obtain ⟨_, _, _, _, _, _, _, _, _, rfl, _⟩ := h; rfl)
      | (obtain ⟨_, _, _, _, _, _, _, _, _, _, rfl, _⟩ := h; rfl)
      | (obtain ⟨_, _, _, _, _, _, _, _, _, _, _, rfl, _⟩ := h; rfl)
      | (obtain ⟨_, _, _, _, _, _, _, _, _, _, _, _, rfl, _⟩ := h; rfl)
      | (obtain ⟨_, _, _, _, _, _, _, _, _, _, _, _, _, rfl, _⟩ := h; rfl)
      | (obtain ⟨_, _, _, _, _, _, _, _, _, _, _, _, _, _, rfl, _⟩ := h; rfl)
      | (obtain ⟨_, _, _, _, _, _, _, _, _, _, _, _, _, _, _, rfl, _⟩ := h; rfl)
      | (obtain ⟨_, _, _, _, _, _, _, _, _, _, _, _, _, _, _, _, rfl, _⟩ := h; rfl)
      | (obtain ⟨_, _, _, _, _, _, _, _, _, _, _, _, _, _, _, _, _, rfl, _⟩ := h; rfl)
      | (obtain ⟨_, _, _, _, _, _, _, _, _, _, _, _, _, _, _, _, _, _, rfl, _⟩ := h; rfl)
      | (obtain ⟨_, _, _, _, _, _, _, _, _, _, _, _, _, _, _, _, _, _, _, rfl, _⟩ := h; rfl)
  · obtain ⟨m, c, y, cs, rfl, hM, h⟩ := h
    obtain ⟨dx, l, hm, ld⟩ := id hM
    have cl_Memory := T.cl_Memory
    have na_Memory_pairs := T.na_Memory_pairs
    have na_Memory_wide := T.na_Memory_wide
    refine ⟨_, (pss_cons (ps_expr (s1 (ok_want_cell T) (hr.mono (by decide)) (by rfl) T.m_want_cell T.F_want_cell.kp T.b_want_cell (passAt (takes_of rfl rfl rfl rfl)) (pa_cons (pv 1) (pa_cons (k_fld (K := K) rfl (pv 0) rfl) pa_nil))))
      (pss_cons (ps_expr (d1 (ok_want_number T) (hr.mono (by decide)) (by rfl) T.m_want_number T.F_want_number.kp T.b_want_number passL (pa_cons (pv 2) pa_nil)))
      (pss_one (ps_expr (dm T.cl_Memory T.me_Memory_lay (ok_Memory_lay T) (hr.mono (by decide)) T.b_Memory_lay passL (pv 0) (pa_cons (pv 1) (pa_cons (pe_lst (pa_cons (pe_tup (pa_cons pe_int (pa_cons (pv 2) pa_nil))) pa_nil)) (pa_cons (pe_op (k_add (K := K) rfl) (pv 1) pe_int) pa_nil)))))))), ?_⟩
    dsimp only [cxOf, st_1, st_2, st_3, st_4, st_5, st_6, List.length_cons, List.length_nil, List.replicate_succ, List.replicate_zero, Nat.reduceAdd, Nat.reduceSub]
    walk_at "gs"
    refine ⟨c, cs.length, rfl, fun z => ?_, fun z => ?bad⟩
    case bad =>
      rcases h with ⟨_, r⟩ | ⟨_, _, _, z2, _⟩
      · exact r
      · exact absurd z2 z
    obtain ⟨v, rfl, hn, hc, k⟩ : ∃ v : Int, y = .int v ∧ (rle cs).length ≤ 10000 ∧ (0 ≤ c ∧ c < cs.length) ∧ ∀ H', Kp [m] H H' → MemAt K T.c_Memory H' m (laid cs c.toNat [v] (c + 1).toNat) → (∀ b, Tr H b → Off H' m b) → Q .non H' := by
      rcases h with ⟨z2, _⟩ | h
      · exact absurd z z2
      · exact h
    walk_at "gs"
    refine ⟨v, rfl, ?_⟩
    walk_at "gs"
    refine i_new fun t ht => ?_
    walk_at "gs"
    refine i_new fun x hx => ?_
    walk_at "gs"
    have e0 : cells [((1 : Int), v)] = [v] := rfl
    refine ⟨m, x, c, c + 1, cs, [(1, v)], rfl, ?_, ⟨_, upd_same, dpa_one (dp_mk2 (a := t) (m := 1) (n := v) (by walk_at "g_st"))⟩,
      hn, one_few, by omega, by rw [e0, List.length_singleton]; omega, fun H' k1 hM1 of => ?_⟩
    · exact mem_upd (mem_upd hM (by walk_at "g_fr")) (by walk_at "g_fr")
    · rw [e0] at hM1
      walk_at "gs"
      exact k H' (by walk_at "g_kp") hM1 (fun b hb => of b (tr_upd (tr_upd hb)))
def sp_fill (K : PySem.W.Frag) (C X : Addr) : Sp := fun vs H Q E => ∃ (m : Addr) (b e : Int) (y : V) (cs : List Int),
  vs = [.ref m, .int b, .int e, y] ∧ MemAt K C H m cs ∧ ((¬(0 ≤ b ∧ b ≤ e ∧ e ≤ cs.length) ∧ E (.ref X) none H) ∨ (∃ v : Int, y = .int v ∧ (rle cs).length ≤ 10000 ∧ (0 ≤ b ∧ b ≤ e ∧ e ≤ cs.length) ∧
  ∀ H', Kp [m] H H' → MemAt K C H' m (laid cs b.toNat (List.replicate (e - b).toNat v) e.toNat) → (∀ b, Tr H b → Off H' m b) → Q .non H'))
theorem sc_Memory_fill : FnScope ["self", "begin", "end", "number"] ["self", "begin", "end", "number"] (defScope s_Memory_fill) :=
  ⟨rfl, rfl, rfl, by decide +kernel, rfl, by decide +kernel, by decide +kernel⟩
theorem ok_Memory_fill {P : Program} {w : World} {K : PySem.W.Frag} {mg : Str → Option Value} {base : Heap} (T : Txt K mg) :
    FnG P w K mg base 4 T.a_Memory_fill T.d_Memory_fill ["self", "begin", "end", "number"] (sp_fill K T.c_Memory T.x_NoStretch) := by
  refine okD T.F_Memory_fill sc_Memory_fill (fun vs H Q E h => ?_) (fun cdv A outer s H vs Q E hr h => ?_)
  · first
      | (obtain ⟨_, rfl, _⟩ := h; rfl)
      | (obtain ⟨_, _, rfl, _⟩ := h; rfl)
      | (obtain ⟨_, _, _, rfl, _⟩ := h; rfl)
      | (obtain ⟨_, _, _, _, rfl, _⟩ := h; rfl)
      | (obtain ⟨_, _, _, _, _, rfl, _⟩ := h; rfl)
      | (obtain ⟨_, _, _, _, _, _, rfl, _⟩ := h; rfl)
      | (obtain ⟨_, _, _, _, _, _, _, rfl, _⟩ := h; rfl)
      | (obtain ⟨_, _, _, _, _, _, _, _, rfl, _⟩ := h; rfl)
      | (obtain ⟨_, _, _, _, _, _, _, _, _, rfl, _⟩ := h; rfl)
      | (obtain ⟨_, _, _, _, _, _, _, _, _, _, rfl, _⟩ := h; rfl)
      | (obtain ⟨_, _, _, _, _, _, _, _, _, _, _, rfl, _⟩ := h; rfl)
      | (obtain ⟨_, _, _, _, _, _, _, _, _, _, _, _, rfl, _⟩ := h; rfl)
      | (obtain ⟨_, _, _, _, _, _, _, _, _, _, _, _, _, rfl, _⟩ := h; rfl)
      | (obtain ⟨_, _, _, _, _, _, _, _, _, _, _, _, _, _, rfl, _⟩ := h; rfl)
      | (obtain ⟨_, _, _, _, _, _, _, _, _, _, _, _, _, _, _, rfl, _⟩ := h; rfl)
      | (obtain ⟨_, _, _, _, _, _, _, _, _, _, _, _, _, _, _, _, rfl, _⟩ := h; rfl)
      | (obtain ⟨_, _, _, _, _, _, _, _, _, _, _, _, _, _, _, _, _, rfl, _⟩ := h; rfl)
      | (obtain ⟨_, _, _, _, _, _, _, _, _, _, _, _, _, _, _, _, _, _, rfl, _⟩ := h; rfl)
      | (obtain ⟨_, _, _, _, _, _, _, _, _, _, _, _, _, _, _, _, _, _, _, rfl, _⟩ := h; rfl)
  · obtain ⟨m, b, e, y, cs, rfl, hM, h⟩ := h
    obtain ⟨dx, l, hm, ld⟩ := id hM
    have cl_Memory := T.cl_Memory
    have na_Memory_pairs := T.na_Memory_pairs
    have na_Memory_wide := T.na_Memory_wide
    refine ⟨_, (pss_cons (ps_expr (s1 (ok_want_stretch T) (hr.mono (by decide)) (by rfl) T.m_want_stretch T.F_want_stretch.kp T.b_want_stretch (passAt (takes_of rfl rfl rfl rfl)) (pa_cons (pv 1) (pa_cons (pv 2) (pa_cons (k_fld (K := K) rfl (pv 0) rfl) pa_nil)))))
      (pss_cons (ps_expr (d1 (ok_want_number T) (hr.mono (by decide)) (by rfl) T.m_want_number T.F_want_number.kp T.b_want_number passL (pa_cons (pv 3) pa_nil)))
      (pss_one (ps_expr (dm T.cl_Memory T.me_Memory_lay (ok_Memory_lay T) (hr.mono (by decide)) T.b_Memory_lay passL (pv 0) (pa_cons (pv 1) (pa_cons (pe_lst (pa_cons (pe_tup (pa_cons (pe_op op_sub (pv 2) (pv 1)) (pa_cons (pv 3) pa_nil))) pa_nil)) (pa_cons (pv 2) pa_nil)))))))), ?_⟩
    dsimp only [cxOf, st_1, st_2, st_3, st_4, st_5, st_6, List.length_cons, List.length_nil, List.replicate_succ, List.replicate_zero, Nat.reduceAdd, Nat.reduceSub]
    walk_at "gs"
    refine ⟨b, e, cs.length, rfl, fun z => ?_, fun z => ?bad⟩
    case bad =>
      rcases h with ⟨_, r⟩ | ⟨_, _, _, z2, _⟩
      · exact r
      · exact absurd z2 z
    obtain ⟨v, rfl, hn, hc, k⟩ : ∃ v : Int, y = .int v ∧ (rle cs).length ≤ 10000 ∧ (0 ≤ b ∧ b ≤ e ∧ e ≤ cs.length) ∧ ∀ H', Kp [m] H H' → MemAt K T.c_Memory H' m (laid cs b.toNat (List.replicate (e - b).toNat v) e.toNat) → (∀ b, Tr H b → Off H' m b) → Q .non H' := by
      rcases h with ⟨z2, _⟩ | h
      · exact absurd z z2
      · exact h
    walk_at "gs"
    refine ⟨v, rfl, ?_⟩
    walk_at "gs"
    refine i_new fun t ht => ?_
    walk_at "gs"
    refine i_new fun x hx => ?_
    walk_at "gs"
    have e0 : cells [(e - b, v)] = List.replicate (e - b).toNat v := by rw [cells_cons, cells_nil, List.append_nil]
    refine ⟨m, x, b, e, cs, [(e - b, v)], rfl, ?_, ⟨_, upd_same, dpa_one (dp_mk2 (a := t) (m := e - b) (n := v) (by walk_at "g_st"))⟩,
      hn, one_few, by omega, by rw [e0, List.length_replicate], fun H' k1 hM1 of => ?_⟩
    · exact mem_upd (mem_upd hM (by walk_at "g_fr")) (by walk_at "g_fr")
    · rw [e0] at hM1
      walk_at "gs"
      exact k H' (by walk_at "g_kp") hM1 (fun b hb => of b (tr_upd (tr_upd hb)))
def sp_bring (K : PySem.W.Frag) (C X : Addr) : Sp := fun vs H Q E => ∃ (m : Addr) (b e t : Int) (src : V) (cs : List Int),
  vs = [.ref m, .int b, .int e, .int t, src] ∧ MemAt K C H m cs ∧ (0 ≤ b ∧ b ≤ e ∧ e ≤ cs.length) ∧ ((¬(0 ≤ t ∧ t ≤ cs.length - (e - b)) ∧ E (.ref X) none H) ∨ (∃ (s : Addr) (ds : List Int), MemAt K C H s ds ∧
  ((src = .non ∧ m = s ∧ cs = ds) ∨ src = .ref s) ∧ ds.length = cs.length ∧ (rle cs).length ≤ 10000 ∧ (rle ds).length ≤ 10000 ∧ (0 ≤ t ∧ t ≤ cs.length - (e - b)) ∧
  ∀ H', Kp [m] H H' → MemAt K C H' m (laid cs t.toNat ((ds.drop b.toNat).take (e.toNat - b.toNat)) (t + e - b).toNat) → (∀ b, Tr H b → Off H' m b) → Q .non H'))
theorem sc_Memory_bring : FnScope ["self", "begin", "end", "to", "source", "given"] ["self", "begin", "end", "to", "source"] (defScope s_Memory_bring) :=
  ⟨rfl, rfl, rfl, by decide +kernel, rfl, by decide +kernel, by decide +kernel⟩
theorem ok_Memory_bring {P : Program} {w : World} {K : PySem.W.Frag} {mg : Str → Option Value} {base : Heap} (T : Txt K mg) :
    FnG P w K mg base 4 T.a_Memory_bring T.d_Memory_bring ["self", "begin", "end", "to", "source"] (sp_bring K T.c_Memory T.x_NoStretch) := by
  refine okD T.F_Memory_bring sc_Memory_bring (fun vs H Q E h => ?_) (fun cdv A outer s H vs Q E hr h => ?_)
  · first
      | (obtain ⟨_, rfl, _⟩ := h; rfl)
      | (obtain ⟨_, _, rfl, _⟩ := h; rfl)
      | (obtain ⟨_, _, _, rfl, _⟩ := h; rfl)
      | (obtain ⟨_, _, _, _, rfl, _⟩ := h; rfl)
      | (obtain ⟨_, _, _, _, _, rfl, _⟩ := h; rfl)
      | (obtain ⟨_, _, _, _, _, _, rfl, _⟩ := h; rfl)
      | (obtain ⟨_, _, _, _, _, _, _, rfl, _⟩ := h; rfl)
      | (obtain ⟨_, _, _, _, _, _, _, _, rfl, _⟩ := h; rfl)
      | (obtain ⟨_, _, _, _, _, _, _, _, _, rfl, _⟩ := h; rfl)
      | (obtain ⟨_, _, _, _, _, _, _, _, _, _, rfl, _⟩ := h; rfl)
      | (obtain ⟨_, _, _, _, _, _, _, _, _, _, _, rfl, _⟩ := h; rfl)
      | (obtain ⟨_, _, _, _, _, _, _, _, _, _, _, _, rfl, _⟩ := h; rfl)
      | (obtain ⟨_, _, _, _, _, _, _, _, _, _, _, _, _, rfl, _⟩ := h; rfl)
      | (obtain ⟨_, _, _, _, _, _, _, _, _, _, _, _, _, _, rfl, _⟩ := h; rfl)
      | (obtain ⟨_, _, _, _, _, _, _, _, _, _, _, _, _, _, _, rfl, _⟩ := h; rfl)
      | (obtain ⟨_, _, _, _, _, _, _, _, _, _, _, _, _, _, _, _, rfl, _⟩ := h; rfl)
      | (obtain ⟨_, _, _, _, _, _, _, _, _, _, _, _, _, _, _, _, _, rfl, _⟩ := h; rfl)
      | (obtain ⟨_, _, _, _, _, _, _, _, _, _, _, _, _, _, _, _, _, _, rfl, _⟩ := h; rfl)
      | (obtain ⟨_, _, _, _, _, _, _, _, _, _, _, _, _, _, _, _, _, _, _, rfl, _⟩ := h; rfl)
  · obtain ⟨m, b, e, t, src, cs, rfl, hM, hb, h⟩ := h
    obtain ⟨dx, l, hm, ld⟩ := id hM
    have cl_Memory := T.cl_Memory
    have na_Memory_pairs := T.na_Memory_pairs
    have na_Memory_wide := T.na_Memory_wide
    refine ⟨_, (pss_cons (ps_expr (s1 (ok_want_stretch T) (hr.mono (by decide)) (by rfl) T.m_want_stretch T.F_want_stretch.kp T.b_want_stretch (passAt (takes_of rfl rfl rfl rfl)) (pa_cons (pv 1) (pa_cons (pv 2) (pa_cons (k_fld (K := K) rfl (pv 0) rfl) pa_nil)))))
      (pss_cons (ps_if (pt_not (pt_val (d1 (ok_is_whole T) (hr.mono (by decide)) (by rfl) T.m_is_whole T.F_is_whole.kp T.b_is_whole passL (pa_cons (pv 3) (pa_cons pe_int (pa_cons (pe_op op_sub (k_fld (K := K) rfl (pv 0) rfl) (pe_op op_sub (pv 2) (pv 1))) pa_nil)))))) (pss_one (ps_raise rfl (takes_of rfl rfl rfl rfl) (pmk_own PySem.F.excBase_ValueError T.en_NoStretch T.mx_NoStretch T.ek_NoStretch (raises_own T.ec_NoStretch.hs T.et_NoStretch) rfl))) pss_nil)
      (pss_cons (ps_set (i := 5) sc_Memory_bring.nd rfl (Or.inl rfl) (pe_ifExp (pt_cmpR op_isN1 (pv 4) pe_non (nomark _)) (pv 0) (pv 4)))
      (pss_cons (ps_if (pt_cmpR (k_ne (K := K) rfl hr.r.units) (dm0 T.cl_Memory T.me_Memory_size (ok_Memory_size T) (hr.mono (by decide)) T.b_Memory_size passL (pv 5)) (k_fld (K := K) rfl (pv 0) rfl) (nomark _)) (pss_one ps_never) pss_nil)
      (pss_one (ps_expr (dm T.cl_Memory T.me_Memory_lay (ok_Memory_lay T) (hr.mono (by decide)) T.b_Memory_lay passL (pv 0) (pa_cons (pv 3) (pa_cons (d1 (ok_cut_out T) (hr.mono (by decide)) (by rfl) T.m_cut_out T.F_cut_out.kp T.b_cut_out passL (pa_cons (dm0 T.cl_Memory T.me_Memory_runs (ok_Memory_runs T) (hr.mono (by decide)) T.b_Memory_runs passL (pv 5)) (pa_cons (pv 1) (pa_cons (pv 2) pa_nil)))) (pa_cons (pe_op op_sub (pe_op (k_add (K := K) rfl) (pv 3) (pv 2)) (pv 1)) pa_nil)))))))))), ?_⟩
    dsimp only [cxOf, st_1, st_2, st_3, st_4, st_5, st_6, List.length_cons, List.length_nil, List.replicate_succ, List.replicate_zero, Nat.reduceAdd, Nat.reduceSub]
    walk_at "gs"
    refine ⟨b, e, cs.length, rfl, fun _ => ?_, fun d => absurd hb d⟩
    walk_at "gs"
    refine ⟨t, 0, cs.length - (e - b), rfl, ?_⟩
    walk_at "gs"
    refine i_decN (fun d => ?bad) (fun d => ?_)
    case bad =>
      walk_at "gs"
      rcases h with ⟨_, r⟩ | ⟨_, _, _, _, _, _, _, z2, _⟩
      · exact r
      · exact absurd z2 d
    obtain ⟨s, ds, hS, hs, hl, hn, hn2, ht, k⟩ : ∃ (s : Addr) (ds : List Int), MemAt K T.c_Memory H s ds ∧ ((src = .non ∧ m = s ∧ cs = ds) ∨ src = .ref s) ∧ ds.length = cs.length ∧ (rle cs).length ≤ 10000 ∧ (rle ds).length ≤ 10000 ∧ (0 ≤ t ∧ t ≤ cs.length - (e - b)) ∧
        ∀ H', Kp [m] H H' → MemAt K T.c_Memory H' m (laid cs t.toNat ((ds.drop b.toNat).take (e.toNat - b.toNat)) (t + e - b).toNat) → (∀ b, Tr H b → Off H' m b) → Q .non H' := by
      rcases h with ⟨z2, _⟩ | h
      · exact absurd d z2
      · exact h
    walk_at "gs"
    rcases hs with ⟨e1, e2, e3⟩ | e1
    · subst e1
      subst e2
      subst e3
      walk_at "gs"
      refine ⟨_, _, rfl, hS, ?_⟩
      walk_at "gs"
      refine i_decN (fun d => absurd (by omega) d) (fun _ => ?_)
      walk_at "gs"
      refine ⟨_, _, rfl, hS, fun l1 H1 hl1 k1 ld1 => ?_⟩
      walk_at "gs"
      refine ⟨l1, b, e, _, rfl, ld1.dp, by omega, fun l2 H2 hl2 k2 ld2 => ?_⟩
      walk_at "gs"
      refine ⟨m, l2, t, t + e - b, cs, _, rfl, mem_kp0 (mem_kp0 hM k1) k2, ld2, hn, Nat.le_trans (cut_len _ _ _) hn2, by omega, ?_, fun H' k3 hM' of => ?_⟩
      · rw [cut_rle, List.length_take, List.length_drop]
        omega
      · walk_at "gs"
        rw [cut_rle] at hM'
        exact k H' (by walk_at "g_kp") hM' (fun b hb => of b (tr_kp k2 (tr_kp k1 hb)))
    · subst e1
      obtain ⟨dx2, l2, hms, lds⟩ := id hS
      walk_at "gs"
      refine ⟨_, _, rfl, hS, ?_⟩
      walk_at "gs"
      refine i_decN (fun d => absurd (by omega) d) (fun _ => ?_)
      walk_at "gs"
      refine ⟨_, _, rfl, hS, fun l1 H1 hl1 k1 ld1 => ?_⟩
      walk_at "gs"
      refine ⟨l1, b, e, _, rfl, ld1.dp, by omega, fun l2 H2 hl2 k2 ld2 => ?_⟩
      walk_at "gs"
      refine ⟨m, l2, t, t + e - b, cs, _, rfl, mem_kp0 (mem_kp0 hM k1) k2, ld2, hn, Nat.le_trans (cut_len _ _ _) hn2, by omega, ?_, fun H' k3 hM' of => ?_⟩
      · rw [cut_rle, List.length_take, List.length_drop]
        omega
      · walk_at "gs"
        rw [cut_rle] at hM'
        exact k H' (by walk_at "g_kp") hM' (fun b hb => of b (tr_kp k2 (tr_kp k1 hb)))

theorem cut2F {b e n : Int} (hbe : b ≤ e) : ∀ (ps : List (Int × Int)) (a : Int), 0 ≤ a → (∀ q ∈ ps, 0 < q.1) →
    (cutF 0 b a ps).length + (cutF e n a ps).length ≤ ps.length + (if a < b then 1 else 0)
  | [], a, _, _ => by
    show 0 + 0 ≤ _
    omega
  | p :: t, a, h0, hp => by
    have p0 := hp p List.mem_cons_self
    have ih := cut2F hbe (n := n) t (a + p.1) (by omega) fun q hq => hp q (List.mem_cons_of_mem _ hq)
    unfold cutF
    rw [List.length_append, List.length_append, List.length_cons]
    have c1 : (if max 0 a < min b (a + p.1) then [(min b (a + p.1) - max 0 a, p.2)] else []).length ≤ (if a < b then 1 else 0) := by
      split
      · rw [if_pos (by omega), List.length_singleton]
        omega
      · exact Nat.zero_le _
    have c2 : (if max e a < min n (a + p.1) then [(min n (a + p.1) - max e a, p.2)] else []).length + (if a + p.1 < b then 1 else 0) ≤ 1 := by
      split
      · rw [if_neg (by omega), List.length_singleton]
        omega
      · split <;> simp
    omega

theorem rle_fill {cs : List Int} {p : Part} (h : 0 ≤ p.b ∧ p.b < p.e ∧ p.e ≤ cs.length) : (rle (fillP cs p)).length ≤ (rle cs).length + 2 := by
  unfold fillP
  have e0 : cells [(p.e - p.b, p.g)] = List.replicate (p.e - p.b).toNat p.g := by rw [cells_cons, cells_nil, List.append_nil]
  rw [← e0, ← laid_rle]
  have k := cut2F (b := p.b) (e := p.e) (n := cs.length) (by omega) (rle cs) 0 (Int.le_refl _) (rle_pos cs)
  have j : ∀ l : List (Int × Int), (jnd l).length ≤ l.length := fun l => by
    rw [jnd_wr]
    exact wr_len l
  refine Nat.le_trans (j _) ?_
  rw [List.length_append, List.length_append, List.length_singleton]
  unfold cut
  have : (if (0 : Int) < p.b then 1 else 0) ≤ 1 := by split <;> omega
  omega
theorem fillAll_take {cs : List Int} {P : List Part} {i : Nat} {p : Part} (h : P[i]? = some p) : fillAll cs (P.take (i + 1)) = fillP (fillAll cs (P.take i)) p := by
  unfold fillAll
  rw [List.take_add_one, h, List.foldl_append]
  rfl


def sp_carry (K : PySem.W.Frag) (C X : Addr) : Sp := fun vs H Q E => ∃ (m l : Addr) (xs : List Int) (P : List Part), vs = [.ref m, .ref l] ∧ MemAt K C H m xs ∧ LD K H l (P.map d4) ∧ Sound xs.length P ∧
  (rle xs).length + 2 * P.length ≤ 10000 ∧ (∀ c, First xs P c → Told X H E c) ∧
  ((∀ c, ¬ Clashes xs P c) → ∀ H', Kp [m] H H' → MemAt K C H' m (fillAll xs P) → (∀ b, Tr H b → Off H m b → Off H' m b) → Q .non H')
theorem sc_carry : FnScope ["memory", "thing", "begin", "end", "had", "has"] ["memory", "thing"] (defScope s_carry) :=
  ⟨rfl, rfl, rfl, by decide +kernel, rfl, by decide +kernel, by decide +kernel⟩
theorem ok_carry {P : Program} {w : World} {K : PySem.W.Frag} {mg : Str → Option Value} {base : Heap} (T : Txt K mg) :
    FnG P w K mg base 5 T.a_carry T.d_carry ["memory", "thing"] (sp_carry K T.c_Memory T.x_Clash) := by
  refine okD T.F_carry sc_carry (fun vs H Q E h => ?_) (fun cdv A outer s H vs Q E hr h => ?_)
  · first
      | (obtain ⟨_, rfl, _⟩ := h; rfl)
      | (obtain ⟨_, _, rfl, _⟩ := h; rfl)
      | (obtain ⟨_, _, _, rfl, _⟩ := h; rfl)
      | (obtain ⟨_, _, _, _, rfl, _⟩ := h; rfl)
      | (obtain ⟨_, _, _, _, _, rfl, _⟩ := h; rfl)
      | (obtain ⟨_, _, _, _, _, _, rfl, _⟩ := h; rfl)
      | (obtain ⟨_, _, _, _, _, _, _, rfl, _⟩ := h; rfl)
      | (obtain ⟨_, _, _, _, _, _, _, _, rfl, _⟩ := h; rfl)
      | (obtain ⟨_, _, _, _, _, _, _, _, _, rfl, _⟩ := h; rfl)
      | (obtain ⟨_, _, _, _, _, _, _, _, _, _, rfl, _⟩ := h; rfl)
      | (obtain ⟨_, _, _, _, _, _, _, _, _, _, _, rfl, _⟩ := h; rfl)
      | (obtain ⟨_, _, _, _, _, _, _, _, _, _, _, _, rfl, _⟩ := h; rfl)
      | (obtain ⟨_, _, _, _, _, _, _, _, _, _, _, _, _, rfl, _⟩ := h; rfl)
      | (obtain ⟨_, _, _, _, _, _, _, _, _, _, _, _, _, _, rfl, _⟩ := h; rfl)
      | (obtain ⟨_, _, _, _, _, _, _, _, _, _, _, _, _, _, _, rfl, _⟩ := h; rfl)
      | (obtain ⟨_, _, _, _, _, _, _, _, _, _, _, _, _, _, _, _, rfl, _⟩ := h; rfl)
      | (obtain ⟨_, _, _, _, _, _, _, _, _, _, _, _, _, _, _, _, _, rfl, _⟩ := h; rfl)
      | (obtain ⟨_, _, _, _, _, _, _, _, _, _, _, _, _, _, _, _, _, _, rfl, _⟩ := h; rfl)
      | (obtain ⟨_, _, _, _, _, _, _, _, _, _, _, _, _, _, _, _, _, _, _, rfl, _⟩ := h; rfl)
  · obtain ⟨m, l, xs, P, rfl, M, ld, so, few, kE, kQ⟩ := h
    obtain ⟨vs, hv, hall⟩ := id ld
    have hvl := dpa_len hall
    rw [List.length_map] at hvl
    have nlm : l ≠ m := by
      obtain ⟨dx, l2, e, _⟩ := M
      exact two_ne hv e fun z => nomatch z
    have cl_Memory := T.cl_Memory
    have na_Memory_pairs := T.na_Memory_pairs
    have na_Memory_wide := T.na_Memory_wide
    refine ⟨_, (pss_cons (ps_if (pt_not (pt_val (d1 (ok_is_difference T) (hr.mono (by decide)) (by rfl) T.m_is_difference T.F_is_difference.kp T.b_is_difference passL (pa_cons (pv 1) (pa_cons (dm0 T.cl_Memory T.me_Memory_size (ok_Memory_size T) (hr.mono (by decide)) T.b_Memory_size passL (pv 0)) pa_nil))))) (pss_one (ps_raise rfl (takes_of rfl rfl rfl rfl) (pmk_own PySem.F.excBase_ValueError T.en_NoDifference T.mx_NoDifference T.ek_NoDifference (raises_own T.ec_NoDifference.hs T.et_NoDifference) rfl))) pss_nil)
      (pss_cons (ps_expr (s1 (ok_want_fit T) (hr.mono (by decide)) (by rfl) T.m_want_fit T.F_want_fit.kp T.b_want_fit (passAt (takes_of rfl rfl rfl rfl)) (pa_cons (pv 0) (pa_cons (pv 1) pa_nil))))
      (pss_one (ps_for (passes_of rfl) rfl (k_plist (K := K) rfl (pv 1)) (k_gtup (K := K) 4 rfl rfl (pgs_cons (pg_name (i := 2) sc_carry.nd rfl (Or.inl rfl)) (pgs_cons (pg_name (i := 3) sc_carry.nd rfl (Or.inl rfl)) (pgs_cons (pg_name (i := 4) sc_carry.nd rfl (Or.inl rfl)) (pgs_cons (pg_name (i := 5) sc_carry.nd rfl (Or.inl rfl)) pgs_nil)))))
      (pss_one (ps_expr (sm T.cl_Memory T.me_Memory_fill (ok_Memory_fill T) (hr.mono (by decide)) T.b_Memory_fill (passAt (takes_of rfl rfl rfl rfl)) (pv 0) (pa_cons (pv 2) (pa_cons (pv 3) (pa_cons (pv 5) pa_nil)))))))))), ?_⟩
    dsimp only [cxOf, st_1, st_2, st_3, st_4, st_5, st_6, List.length_cons, List.length_nil, List.replicate_succ, List.replicate_zero, Nat.reduceAdd, Nat.reduceSub]
    walk_at "gs"
    refine ⟨m, xs, rfl, M, ?_⟩
    walk_at "gs"
    refine ⟨l, P, xs.length, rfl, ld.dp, so, fun H1 k1 => ?_⟩
    walk_at "gs"
    have M1 := mem_kp0 M k1
    have ld1 := ld.kp k1 (imms_d4 _) not_nil
    refine ⟨m, l, xs, P, rfl, M1, ld1.dp, so, by omega, fun c hc d H' kk hh => kE c hc d H' (Kp.trans k1 kk) hh, fun no H2 k2 => ?_⟩
    have k02 := Kp.trans k1 k2
    have M2 := mem_kp0 M k02
    walk_at "gs"
    refine i_each (SqL.of (k02.at_ _ _ hv not_nil)) (fun i σ H' => ∃ y2 y3 y4 y5, σ = [some (V.ref m), some (V.ref l), y2, y3, y4, y5] ∧ Kp [m] H H' ∧
      MemAt K T.c_Memory H' m (fillAll xs (P.take i)) ∧ (rle (fillAll xs (P.take i))).length ≤ (rle xs).length + 2 * i ∧ (∀ b, Tr H b → Off H m b → Off H' m b)) ?_ ?_ ?_ ?_
    · refine ⟨none, none, none, none, rfl, Kp.wide k02, M2, Nat.le_refl _, fun b hb ho => off_kp k02 (tr_mem M) not_nil ho⟩
    · rintro i σ H' _ ⟨y2, y3, y4, y5, rfl, k3, _⟩
      exact SqL.of (k3.at_ _ _ hv (not_one nlm))
    · rintro i x σ H' hx ⟨y2, y3, y4, y5, rfl, k3, M3, few3, of3⟩
      obtain ⟨d0, hd0, hdp⟩ := dpa_getV hall hx
      obtain ⟨p, hp, rfl⟩ := map_get hd0
      obtain ⟨t, rfl, hT⟩ := dp_four (dp_imm k3 _ _ rfl hdp)
      have hil := (List.getElem?_eq_some_iff.mp hp).1
      have wp := so.wide p (List.mem_of_getElem? hp)
      have lf := fillAll_len (P.take i) xs rfl fun q hq => so.wide q (List.mem_of_mem_take hq)
      obtain ⟨_, _, hm3, _⟩ := id M3
      walk_at "gs"
      refine i_methX ?_
      walk_at "gs"
      refine i_methXR hm3 rfl ?_
      walk_at "gs"
      refine ⟨m, p.b, p.e, .int p.g, _, rfl, M3, .inr ⟨p.g, rfl, by omega, by omega, fun H4 k4 M4 of4 => ?_⟩⟩
      walk_at "gs"
      rw [fillAll_take hp]
      refine ⟨_, _, _, _, rfl, Kp.trans k3 k4, M4, ?_, fun b hb ho => of4 b (tr_kp k3 hb)⟩
      have := rle_fill (cs := fillAll xs (P.take i)) (p := p) (by omega)
      omega
    · rintro σ H' ⟨y2, y3, y4, y5, rfl, k3, M3, few3, of3⟩
      walk_at "gs"
      rw [List.take_of_length_le (by omega)] at M3
      exact kQ no H' k3 M3 of3

/-! ### l.count(x), over data; room for l.index(x) -/
section
open PyProof PyProof.Rows PySem.Spec
theorem u65 {k : Nat} {A : Around} (z : Room k A) : A.units + 65 < cLine := by
  have := z.un
  omega
def rCountD (K : PySem.W.Frag) : V → List V → Hp → VK → Prop := fun x xs H Q => ∃ (a : Addr) (y : V) (d : PyData) (ds : List PyData), x = V.ref a ∧ xs = [y] ∧ Dp K H (V.ref a) (.list ds) ∧ Dp K H y d ∧
  PyData.plainAll ds = true ∧ d.plain = true ∧ PyData.depthAll ds ≤ 60 ∧ Q (.int ((ds.countP fun z => PyData.eqv z d : Nat) : Int)) H
theorem mt_countD {X : Cx} (hu : X.A.units + 65 < cLine) : MtR X "list.count" (rCountD X.K) := by
  intro pins s σ H x xs v us Q I rx rxs h
  obtain ⟨a, y, d, ds, rfl, rfl, hl, hy, pl, pd, dp, q⟩ := h
  cases rx
  cases rxs with
  | cons ry rt =>
    rename_i uy ut
    cases rt
    obtain ⟨bs, r1⟩ := Dp.reads I d y uy hy ry
    cases hl with
    | lst hs ha =>
      obtain ⟨its, rv, p1, _⟩ := I.list hs
      obtain ⟨as, h4⟩ := Dp.readsAll I ds _ its ha rv
      exact SeqAt.count_list_data (vs := its.toArray) p1.isList h4 r1 pl pd (by omega) ⟨.int _, H, I.tok _, ⟨_, rfl⟩, q⟩
theorem k_countD {X : Cx} {K : PySem.W.Frag} (h : X.K = K) (z : X.A.units + 65 < cLine) : MtR X "list.count" (rCountD K) := h ▸ mt_countD z
theorem k_indexD {X : Cx} {K : PySem.W.Frag} (h : X.K = K) (z : X.A.units + 65 < cLine) : MtR X "list.index" (rIndexD K) := h ▸ mt_indexD z
theorem k_bm {X : Cx} {K : PySem.W.Frag} {T id : String} {name : Str} {r : V → List V → Hp → VK → Prop} {o e : Expr} {es : List Expr} {to : TE} {t : TA} {apos cpos : Pos} (h : X.K = K) (pa : PlainAttrs T) (slot : Slot T name id) (hty : typeOf (.builtin id) = pure (.type "method_descriptor")) (hm : MtR X id r) (ho : PE X o to) (ha : PA X (e :: es) t)
    (hbase : attributeBase o name X.env (eval o X.env) = eval o X.env := by rfl)
    (hfew : ((backTo cpos (starEach (e :: es) X.env)).all (fun x => !x.1) && (backToKw cpos (keywordEach [] X.env)).all (fun x => x.1.isSome)
      && decide ((e :: es).length + ([] : List Keyword).length + (if ([] : List Keyword).isEmpty then 0 else 1) < 30)) = true := by rfl)
    (hline : (apos.endLine == cpos.line) = true := by rfl) (hs : starEach (e :: es) X.env = (false, eval e X.env) :: starEach es X.env := by rfl) (hplain : (backTo cpos (starEach es X.env)).any (·.1) = false := by rfl) :
    PE X (.Call (.Attribute o name apos) (e :: es) [] cpos) (tBM K T r to t) := h ▸ pe_bm pa slot hty hm ho ha hbase hfew hline hs hplain
end

/-! ### _law_raised: what a call raises -/
theorem kit_ty {K : PySem.W.Frag} {D : Addr} {n : String} {b : Bool} (h : PySem.W.subIn K (.ref D) (.type n) = some b) (hm : PySem.W.kitMeta n = true) : PySem.W.kitOne K (.ref D) (.type n) = some b := by
  unfold PySem.W.kitOne PySem.W.kitCls
  rw [if_neg (by simp)]
  simp only [hm, h, if_true]
theorem kit_off {K : PySem.W.Frag} {D C : Addr} (hc : PySem.W.hasDictIn K C = true) (ht : PySem.W.typeIn K (.ref C) = some (.type "type")) (hne : D ≠ C) (h : PySem.W.subIn K (.ref D) (.ref C) = some false) :
    PySem.W.kitOne K (.ref D) (.ref C) = some false := by
  obtain ⟨cd, e, _⟩ := PySem.W.any_some hc
  unfold PySem.W.kitOne PySem.W.kitCls
  rw [if_neg (by simp [hne])]
  simp only [e, ht, h, Option.isSome_some, beq_self_eq_true, Bool.and_self, if_true]
theorem kit_not {K : PySem.W.Frag} {X D : Addr} (h1 : PySem.W.hasDictIn K D = true) (h2 : PySem.W.typeIn K (.ref D) = some (.type "type")) (h3 : PySem.W.subIn K (.ref X) (.ref D) = some false) (h4 : PySem.W.subIn K (.ref X) (.ref X) = some true) : PySem.W.kitOne K (.ref X) (.ref D) = some false := by
  refine kit_off h1 h2 (fun e => ?_) h3
  rw [← e, h4] at h3
  cases h3
/-- each of these classes is told by its word -/
def TTr (xs : List (Addr × Str)) : (XK → Hp → VK → Prop) → Hp → VK → Prop := fun tl H Q =>
  ∀ (W : XK) (Q' : VK), (∀ p ∈ xs, ∀ H1, (∀ H2, Kp [] H1 H2 → Q (.str p.2) H2) → W (.ref p.1) none H1) → (∀ v H1, Q (.str "none") H1 → Q' v H1) → tl W H Q'
theorem sc_law_raised : FnScope ["_law_call", "_law_word", "e", "_law_some"] ["_law_call"] (defScope s_law_raised) :=
  ⟨rfl, rfl, rfl, by decide +kernel, rfl, by decide +kernel, by decide +kernel⟩
theorem gv_law_raised {P : Program} {w : World} {K : PySem.W.Frag} {mg : Str → Option Value} {base : Heap} (T : Txt K mg) (kG : Nat) :
    GivesG P w K mg base kG ["_law_call", "_law_word", "e", "_law_some"] "_law_raised" (defScope s_law_raised) T.a_law_raised (defBody s_law_raised) "_law_call" (TTr [(T.x_NoSize, "size"), (T.x_NoCell, "cell"), (T.x_NoStretch, "stretch")]) := by
  intro cdv A outer f cn q s H Q tl hr act hco h
  have hu65 := u65 hr.r
  refine ⟨_, (pss_cons (ps_set (i := 1) sc_law_raised.nd rfl (Or.inl rfl) pe_str)
      (pss_cons (ps_try_as (i := 2) rfl rfl sc_law_raised.nd rfl rfl ⟨rfl, by decide, .inl T.mx_ForkError⟩ takes0 (fun W pn xe tk _ => (pss_one (ps_expr (act _ _ _ _ _ tk)))) (fun ea eo ecl ed epn hz hf => (pss_cons (ps_set (i := 3) sc_law_raised.nd rfl (Or.inl rfl) (pe_lst (pa_cons (pe_callB (k_isX (K := K) rfl hz hf) (by rfl) T.n_isinstance (by decide +kernel) (pa_cons (pv 2) (pa_cons (pe_glob (v := .ref T.x_NoSize) rfl T.mx_NoSize rfl) pa_nil))) (pa_cons (pe_callB (k_isX (K := K) rfl hz hf) (by rfl) T.n_isinstance (by decide +kernel) (pa_cons (pv 2) (pa_cons (pe_glob (v := .ref T.x_NoNumber) rfl T.mx_NoNumber rfl) pa_nil))) (pa_cons (pe_callB (k_isX (K := K) rfl hz hf) (by rfl) T.n_isinstance (by decide +kernel) (pa_cons (pv 2) (pa_cons (pe_glob (v := .ref T.x_NoCell) rfl T.mx_NoCell rfl) pa_nil))) (pa_cons (pe_callB (k_isX (K := K) rfl hz hf) (by rfl) T.n_isinstance (by decide +kernel) (pa_cons (pv 2) (pa_cons (pe_glob (v := .ref T.x_NoStretch) rfl T.mx_NoStretch rfl) pa_nil))) pa_nil))))))
      (pss_one (ps_set (i := 1) sc_law_raised.nd rfl (Or.inl rfl) (pe_ifExp (pt_cmpR (k_eq (K := K) rfl hr.r.units) (k_bm (K := K) rfl PySem.F.plainAttrs_list PySem.F.slot_list_count PySem.F.type_list_count (k_countD (K := K) rfl hu65) (pv 3) (pa_cons pe_bl pa_nil)) pe_int (nomark _)) (pe_ix (k_ix (K := K) rfl) (pe_lst (pa_cons pe_str (pa_cons pe_str (pa_cons pe_str (pa_cons pe_str pa_nil))))) (k_bm (K := K) rfl PySem.F.plainAttrs_list PySem.F.slot_list_index PySem.F.type_list_index (k_indexD (K := K) rfl hu65) (pv 3) (pa_cons pe_bl pa_nil)) (fun _ _ => rfl)) pe_str))))))
      (pss_one (ps_ret (pv 1))))), ?_⟩
  dsimp only [cxOf, st_1, st_2, st_3, st_4, st_5, st_6, List.length_cons, List.length_nil, List.replicate_succ, List.replicate_zero, Nat.reduceAdd, Nat.reduceSub]
  walk_at "gs"
  refine ⟨rfl, hco, h _ _ (fun p hp H1 hQ => ?_) (fun v H1 hQ => ?_)⟩
  · have boo : ∀ {D C : Addr}, PySem.W.hasDictIn K C = true → PySem.W.typeIn K (.ref C) = some (.type "type") → PySem.W.subIn K (.ref D) (.ref C) = some false → PySem.W.subIn K (.ref D) (.ref D) = some true → PySem.W.kitOne K (.ref D) (.ref C) = some false := fun a b c d => kit_not a b c d
    simp only [List.mem_cons, List.not_mem_nil, or_false] at hp
    rcases hp with rfl | rfl | rfl
    · refine ⟨true, PySem.W.exm_ref T.ec_ForkError.hs T.ec_ForkError.hd T.et_ForkError T.is_NoSize_ForkError, fun _ a ha => ?_, (fun z => by cases z)⟩
      have k1 := kit_me (K := K) (C := T.x_NoSize)
      have k2 := boo T.ec_NoNumber.hd T.et_NoNumber T.is_NoSize_NoNumber T.is_NoSize_NoSize
      have k3 := boo T.ec_NoCell.hd T.et_NoCell T.is_NoSize_NoCell T.is_NoSize_NoSize
      have k4 := boo T.ec_NoStretch.hd T.et_NoStretch T.is_NoSize_NoStretch T.is_NoSize_NoSize
      walk_at "gs"
      refine ⟨_, _, _, _, rfl, T.ec_NoSize, .inl rfl, rfl, .own _, k1, ?_⟩
      walk_at "gs"
      refine ⟨_, _, _, _, rfl, T.ec_NoSize, .inl rfl, rfl, .own _, k2, ?_⟩
      walk_at "gs"
      refine ⟨_, _, _, _, rfl, T.ec_NoSize, .inl rfl, rfl, .own _, k3, ?_⟩
      walk_at "gs"
      refine ⟨_, _, _, _, rfl, T.ec_NoSize, .inl rfl, rfl, .own _, k4, ?_⟩
      walk_at "gs"
      refine i_new fun L fL => ?_
      have dL : Dp K (upd H1 L (.lst [V.bl true, V.bl false, V.bl false, V.bl false])) (.ref L) (.list [.bool true, .bool false, .bool false, .bool false]) := .lst (SqL.of upd_same) (.cons (.bl _) (.cons (.bl _) (.cons (.bl _) (.cons (.bl _) .nil))))
      have kL : Kp [] H1 (upd H1 L (.lst [V.bl true, V.bl false, V.bl false, V.bl false])) := Kp.new fL
      obtain ⟨H2, e2⟩ : ∃ H2, H2 = upd H1 L (.lst [V.bl true, V.bl false, V.bl false, V.bl false]) := ⟨_, rfl⟩
      have hL2 : H2 L = some (.lst [V.bl true, V.bl false, V.bl false, V.bl false]) := by rw [e2]; exact upd_same
      rw [← e2] at dL kL ⊢
      walk_at "gs"
      refine ⟨L, .bl true, .bool true, _, rfl, rfl, dL, .bl _, rfl, rfl, by decide, ?_⟩
      walk_at "gs"
      rw [if_pos (by decide +kernel)]
      walk_at "gs"
      refine i_new fun M fM => ?_
      have kM := Kp.new (ws := []) (o := HO.lst [V.str "size", V.str "number", V.str "cell", V.str "stretch"]) fM
      have dM : SqL K (upd H2 M (.lst [V.str "size", V.str "number", V.str "cell", V.str "stretch"])) M [V.str "size", V.str "number", V.str "cell", V.str "stretch"] := SqL.of upd_same
      have hL3 := kM.at_ _ _ hL2 not_nil
      have dL3 : SqL K _ L [V.bl true, V.bl false, V.bl false, V.bl false] := SqL.of hL3
      walk_at "gs"
      refine ⟨L, .bl true, .bool true, _, 0, .bool true, rfl, rfl, .lst dL3 (.cons (.bl _) (.cons (.bl _) (.cons (.bl _) (.cons (.bl _) .nil)))), .bl _, by decide +kernel, by decide +kernel, rfl, rfl, fun m z hm hz => absurd hm (by omega), ?_⟩
      walk_at "gs"
      exact hQ _ (Kp.trans kL kM)
    · refine ⟨true, PySem.W.exm_ref T.ec_ForkError.hs T.ec_ForkError.hd T.et_ForkError T.is_NoCell_ForkError, fun _ a ha => ?_, (fun z => by cases z)⟩
      have k1 := boo T.ec_NoSize.hd T.et_NoSize T.is_NoCell_NoSize T.is_NoCell_NoCell
      have k2 := boo T.ec_NoNumber.hd T.et_NoNumber T.is_NoCell_NoNumber T.is_NoCell_NoCell
      have k3 := kit_me (K := K) (C := T.x_NoCell)
      have k4 := boo T.ec_NoStretch.hd T.et_NoStretch T.is_NoCell_NoStretch T.is_NoCell_NoCell
      walk_at "gs"
      refine ⟨_, _, _, _, rfl, T.ec_NoCell, .inl rfl, rfl, .own _, k1, ?_⟩
      walk_at "gs"
      refine ⟨_, _, _, _, rfl, T.ec_NoCell, .inl rfl, rfl, .own _, k2, ?_⟩
      walk_at "gs"
      refine ⟨_, _, _, _, rfl, T.ec_NoCell, .inl rfl, rfl, .own _, k3, ?_⟩
      walk_at "gs"
      refine ⟨_, _, _, _, rfl, T.ec_NoCell, .inl rfl, rfl, .own _, k4, ?_⟩
      walk_at "gs"
      refine i_new fun L fL => ?_
      have dL : Dp K (upd H1 L (.lst [V.bl false, V.bl false, V.bl true, V.bl false])) (.ref L) (.list [.bool false, .bool false, .bool true, .bool false]) := .lst (SqL.of upd_same) (.cons (.bl _) (.cons (.bl _) (.cons (.bl _) (.cons (.bl _) .nil))))
      have kL : Kp [] H1 (upd H1 L (.lst [V.bl false, V.bl false, V.bl true, V.bl false])) := Kp.new fL
      obtain ⟨H2, e2⟩ : ∃ H2, H2 = upd H1 L (.lst [V.bl false, V.bl false, V.bl true, V.bl false]) := ⟨_, rfl⟩
      have hL2 : H2 L = some (.lst [V.bl false, V.bl false, V.bl true, V.bl false]) := by rw [e2]; exact upd_same
      rw [← e2] at dL kL ⊢
      walk_at "gs"
      refine ⟨L, .bl true, .bool true, _, rfl, rfl, dL, .bl _, rfl, rfl, by decide, ?_⟩
      walk_at "gs"
      rw [if_pos (by decide +kernel)]
      walk_at "gs"
      refine i_new fun M fM => ?_
      have kM := Kp.new (ws := []) (o := HO.lst [V.str "size", V.str "number", V.str "cell", V.str "stretch"]) fM
      have dM : SqL K (upd H2 M (.lst [V.str "size", V.str "number", V.str "cell", V.str "stretch"])) M [V.str "size", V.str "number", V.str "cell", V.str "stretch"] := SqL.of upd_same
      have hL3 := kM.at_ _ _ hL2 not_nil
      have dL3 : SqL K _ L [V.bl false, V.bl false, V.bl true, V.bl false] := SqL.of hL3
      walk_at "gs"
      refine ⟨L, .bl true, .bool true, _, 2, .bool true, rfl, rfl, .lst dL3 (.cons (.bl _) (.cons (.bl _) (.cons (.bl _) (.cons (.bl _) .nil)))), .bl _, by decide +kernel, by decide +kernel, rfl, rfl, fun m z hm hz => by
          rcases (show m = 0 ∨ m = 1 by omega) with rfl | rfl <;> (cases hz; rfl), ?_⟩
      walk_at "gs"
      exact hQ _ (Kp.trans kL kM)
    · refine ⟨true, PySem.W.exm_ref T.ec_ForkError.hs T.ec_ForkError.hd T.et_ForkError T.is_NoStretch_ForkError, fun _ a ha => ?_, (fun z => by cases z)⟩
      have k1 := boo T.ec_NoSize.hd T.et_NoSize T.is_NoStretch_NoSize T.is_NoStretch_NoStretch
      have k2 := boo T.ec_NoNumber.hd T.et_NoNumber T.is_NoStretch_NoNumber T.is_NoStretch_NoStretch
      have k3 := boo T.ec_NoCell.hd T.et_NoCell T.is_NoStretch_NoCell T.is_NoStretch_NoStretch
      have k4 := kit_me (K := K) (C := T.x_NoStretch)
      walk_at "gs"
      refine ⟨_, _, _, _, rfl, T.ec_NoStretch, .inl rfl, rfl, .own _, k1, ?_⟩
      walk_at "gs"
      refine ⟨_, _, _, _, rfl, T.ec_NoStretch, .inl rfl, rfl, .own _, k2, ?_⟩
      walk_at "gs"
      refine ⟨_, _, _, _, rfl, T.ec_NoStretch, .inl rfl, rfl, .own _, k3, ?_⟩
      walk_at "gs"
      refine ⟨_, _, _, _, rfl, T.ec_NoStretch, .inl rfl, rfl, .own _, k4, ?_⟩
      walk_at "gs"
      refine i_new fun L fL => ?_
      have dL : Dp K (upd H1 L (.lst [V.bl false, V.bl false, V.bl false, V.bl true])) (.ref L) (.list [.bool false, .bool false, .bool false, .bool true]) := .lst (SqL.of upd_same) (.cons (.bl _) (.cons (.bl _) (.cons (.bl _) (.cons (.bl _) .nil))))
      have kL : Kp [] H1 (upd H1 L (.lst [V.bl false, V.bl false, V.bl false, V.bl true])) := Kp.new fL
      obtain ⟨H2, e2⟩ : ∃ H2, H2 = upd H1 L (.lst [V.bl false, V.bl false, V.bl false, V.bl true]) := ⟨_, rfl⟩
      have hL2 : H2 L = some (.lst [V.bl false, V.bl false, V.bl false, V.bl true]) := by rw [e2]; exact upd_same
      rw [← e2] at dL kL ⊢
      walk_at "gs"
      refine ⟨L, .bl true, .bool true, _, rfl, rfl, dL, .bl _, rfl, rfl, by decide, ?_⟩
      walk_at "gs"
      rw [if_pos (by decide +kernel)]
      walk_at "gs"
      refine i_new fun M fM => ?_
      have kM := Kp.new (ws := []) (o := HO.lst [V.str "size", V.str "number", V.str "cell", V.str "stretch"]) fM
      have dM : SqL K (upd H2 M (.lst [V.str "size", V.str "number", V.str "cell", V.str "stretch"])) M [V.str "size", V.str "number", V.str "cell", V.str "stretch"] := SqL.of upd_same
      have hL3 := kM.at_ _ _ hL2 not_nil
      have dL3 : SqL K _ L [V.bl false, V.bl false, V.bl false, V.bl true] := SqL.of hL3
      walk_at "gs"
      refine ⟨L, .bl true, .bool true, _, 3, .bool true, rfl, rfl, .lst dL3 (.cons (.bl _) (.cons (.bl _) (.cons (.bl _) (.cons (.bl _) .nil)))), .bl _, by decide +kernel, by decide +kernel, rfl, rfl, fun m z hm hz => by
          rcases (show m = 0 ∨ m = 1 ∨ m = 2 by omega) with rfl | rfl | rfl <;> (cases hz; rfl), ?_⟩
      walk_at "gs"
      exact hQ _ (Kp.trans kL kM)
  · walk_at "gs"
    exact hQ

/-! ### _law_errors_right: four calls that are refused -/
theorem mem_tab {K : PySem.W.Frag} {C : Addr} {H : Hp} {m P : Addr} {q : Str} {cs : List Int} {TB : List (Addr × Str)} (M : MemAt K C H m cs) (t : LamX.Tabs TB H) (h : (P, q) ∈ TB) : m ≠ P := by
  obtain ⟨dx, l, h1, _⟩ := M
  obtain ⟨ps, h2, _⟩ := t _ h
  intro e
  have h2 : H P = some (.tbl ps) := h2
  rw [e, h2] at h1
  cases h1
theorem mem_kt {K : PySem.W.Frag} {C : Addr} {H H' : Hp} {m P : Addr} {q : Str} {cs : List Int} {TB : List (Addr × Str)} (M : MemAt K C H m cs) (t : LamX.Tabs TB H) (h : (P, q) ∈ TB) (k : Kp [P] H H') : MemAt K C H' m cs := by
  have n := mem_tab M t h
  obtain ⟨dx, l, h1, h2⟩ := M
  refine ⟨dx, l, k.at_ _ _ h1 (not_one n), h2.kp k (imms_d2 _) (not_one fun e => ?_)⟩
  obtain ⟨vs, hv, _⟩ := h2
  obtain ⟨ps, h3, _⟩ := t _ h
  have h3 : H P = some (.tbl ps) := h3
  rw [e, h3] at hv
  cases hv
/-- no table, no code object -/
def Plain (o : HO) : Prop := (∀ ps, o ≠ .tbl ps) ∧ ∀ c q, o ≠ LamX.CodeO c q
theorem ob_lst {xs : List V} : Plain (.lst xs) := ⟨fun ps z => (by cases z), fun c q z => by
  unfold LamX.CodeO at z
  cases z⟩
theorem ob_ins {C dx : Addr} {fs : List (Str × V)} : Plain (.ins C dx fs) := ⟨fun ps z => (by cases z), fun c q z => by
  unfold LamX.CodeO at z
  cases z⟩
theorem tabs_kp {T : List (Addr × Str)} {ws : List Addr} {G G' : Hp} (t : LamX.Tabs T G) (k : Kp ws G G') (h : ∀ b ∈ ws, ∃ o, G b = some o ∧ Plain o) : LamX.Tabs T G' := fun p hp => by
  obtain ⟨ps, h1, h2, h3⟩ := t p hp
  refine ⟨ps, k.at_ _ _ h1 fun z => ?_, h2, fun pos cv hc => ?_⟩
  · obtain ⟨o, e, n, _⟩ := h _ z
    rw [h1] at e
    exact n ps (Option.some.inj e).symm
  · obtain ⟨c, e1, e2⟩ := h3 pos cv hc
    refine ⟨c, e1, k.at_ _ _ e2 fun z => ?_⟩
    obtain ⟨o, e, _, n⟩ := h _ z
    rw [e2] at e
    exact n c _ (Option.some.inj e).symm
def sp_errors (K : PySem.W.Frag) (C : Addr) (TB : List (Addr × Str)) (P : Addr) : Sp := fun vs H Q _ => ∃ (m : Addr) (cs : List Int) (w : Int), vs = [.ref m, .int w] ∧ MemAt K C H m cs ∧ (cs.length : Int) = w ∧ (1 ≤ w ∧ w ≤ 1000000000000000000) ∧ LamX.Tabs TB H ∧
  ∀ H', Kp [P] H H' → LamX.Tabs TB H' → Q (.bl true) H'
theorem sc_law_errors_right : FnScope ["_law_named", "_law_wide", "_law_some"] ["_law_named", "_law_wide"] (defScope s_law_errors_right) :=
  ⟨rfl, rfl, rfl, by decide +kernel, rfl, by decide +kernel, by decide +kernel⟩
theorem ok_law_errors_right {P : Program} {w : World} {K : PySem.W.Frag} {mg : Str → Option Value} {base : Heap} (T : Txt K mg) :
    FnG P w K mg base 9 T.a_law_errors_right T.d_law_errors_right ["_law_named", "_law_wide"] (sp_errors K T.c_Memory (tabsT T) T.tp_law_errors_right) := by
  refine okDL T.F_law_errors_right sc_law_errors_right (fun vs H Q E h => ?_) (fun cdv A outer s H vs Q E hcdv hr h => ?_)
  · first
      | (obtain ⟨_, rfl, _⟩ := h; rfl)
      | (obtain ⟨_, _, rfl, _⟩ := h; rfl)
      | (obtain ⟨_, _, _, rfl, _⟩ := h; rfl)
      | (obtain ⟨_, _, _, _, rfl, _⟩ := h; rfl)
      | (obtain ⟨_, _, _, _, _, rfl, _⟩ := h; rfl)
      | (obtain ⟨_, _, _, _, _, _, rfl, _⟩ := h; rfl)
      | (obtain ⟨_, _, _, _, _, _, _, rfl, _⟩ := h; rfl)
      | (obtain ⟨_, _, _, _, _, _, _, _, rfl, _⟩ := h; rfl)
      | (obtain ⟨_, _, _, _, _, _, _, _, _, rfl, _⟩ := h; rfl)
      | (obtain ⟨_, _, _, _, _, _, _, _, _, _, rfl, _⟩ := h; rfl)
      | (obtain ⟨_, _, _, _, _, _, _, _, _, _, _, rfl, _⟩ := h; rfl)
      | (obtain ⟨_, _, _, _, _, _, _, _, _, _, _, _, rfl, _⟩ := h; rfl)
      | (obtain ⟨_, _, _, _, _, _, _, _, _, _, _, _, _, rfl, _⟩ := h; rfl)
      | (obtain ⟨_, _, _, _, _, _, _, _, _, _, _, _, _, _, rfl, _⟩ := h; rfl)
      | (obtain ⟨_, _, _, _, _, _, _, _, _, _, _, _, _, _, _, rfl, _⟩ := h; rfl)
      | (obtain ⟨_, _, _, _, _, _, _, _, _, _, _, _, _, _, _, _, rfl, _⟩ := h; rfl)
      | (obtain ⟨_, _, _, _, _, _, _, _, _, _, _, _, _, _, _, _, _, rfl, _⟩ := h; rfl)
      | (obtain ⟨_, _, _, _, _, _, _, _, _, _, _, _, _, _, _, _, _, _, rfl, _⟩ := h; rfl)
      | (obtain ⟨_, _, _, _, _, _, _, _, _, _, _, _, _, _, _, _, _, _, _, rfl, _⟩ := h; rfl)
  · obtain ⟨m, cs, w, rfl, M, lw, hw, tT, k⟩ := h
    have hP := tm_law_errors_right T
    have tabK : ∀ {G G' : Hp}, Kp [] G G' → LamX.Tabs (tabsT T) G → LamX.Tabs (tabsT T) G' := fun kk t => t.ext fun b o e => kk.at_ _ _ e not_nil
    have cl_Memory := T.cl_Memory
    have na_Memory_pairs := T.na_Memory_pairs
    have na_Memory_wide := T.na_Memory_wide
    refine ⟨_, (pss_cons (ps_set (i := 2) sc_law_errors_right.nd rfl (Or.inl rfl) (pe_lst (pa_cons (pe_lamG (T := tabsT T) (P := T.tp_law_errors_right) rfl T.m_law_raised T.F_law_raised (lam_binds T.b_law_raised) sc_law_raised rfl (Or.inl rfl) (gv_law_raised T _) (Nat.le_refl _) (hcdv ▸ T.tk_law_errors_right) (tm_law_errors_right T) (tabs_uniq T.tnd (tm_law_errors_right T)) hr (LamX.lamS_by (by rfl)) rfl (fun _ _ _ _ _ => rfl) (fun A2 outer2 s2 H2 E2 f2 cn2 hr => (mkK0 T.mk_Memory (ok_Memory_init T) (hr.mono (by decide)) (by rfl) T.mg_Memory T.kb_Memory_init_1_number_size passLam (pk_cons pe_non (pk_cons pe_int pk_nil))))) pa_nil)))
      (pss_cons (ps_expr (pe_bm PySem.F.plainAttrs_list PySem.F.slot_list_append PySem.F.type_list_append mt_append (pv 2) (pa_cons (pe_lamG (T := tabsT T) (P := T.tp_law_errors_right) rfl T.m_law_raised T.F_law_raised (lam_binds T.b_law_raised) sc_law_raised rfl (Or.inl rfl) (gv_law_raised T _) (Nat.le_refl _) (hcdv ▸ T.tk_law_errors_right) (tm_law_errors_right T) (tabs_uniq T.tnd (tm_law_errors_right T)) hr (LamX.lamS_by (by rfl)) rfl (fun _ _ _ _ _ => rfl) (fun A2 outer2 s2 H2 E2 f2 cn2 hr => (km0 T.cl_Memory T.me_Memory_put (ok_Memory_put T) (hr.mono (by decide)) T.kb_Memory_put_1_number_cell passLam (pv 0) (pk_cons pe_str (pk_cons (pv 1) pk_nil))))) pa_nil)))
      (pss_cons (ps_expr (pe_bm PySem.F.plainAttrs_list PySem.F.slot_list_append PySem.F.type_list_append mt_append (pv 2) (pa_cons (pe_lamG (T := tabsT T) (P := T.tp_law_errors_right) rfl T.m_law_raised T.F_law_raised (lam_binds T.b_law_raised) sc_law_raised rfl (Or.inl rfl) (gv_law_raised T _) (Nat.le_refl _) (hcdv ▸ T.tk_law_errors_right) (tm_law_errors_right T) (tabs_uniq T.tnd (tm_law_errors_right T)) hr (LamX.lamS_by (by rfl)) rfl (fun _ _ _ _ _ => rfl) (fun A2 outer2 s2 H2 E2 f2 cn2 hr => (km0 T.cl_Memory T.me_Memory_fill (ok_Memory_fill T) (hr.mono (by decide)) T.kb_Memory_fill_1_number_end_begin passLam (pv 0) (pk_cons pe_non (pk_cons (pe_op (k_add (K := K) rfl) (pv 1) pe_int) (pk_cons pe_int pk_nil)))))) pa_nil)))
      (pss_cons (ps_expr (pe_bm PySem.F.plainAttrs_list PySem.F.slot_list_append PySem.F.type_list_append mt_append (pv 2) (pa_cons (pe_lamG (T := tabsT T) (P := T.tp_law_errors_right) rfl T.m_law_raised T.F_law_raised (lam_binds T.b_law_raised) sc_law_raised rfl (Or.inl rfl) (gv_law_raised T _) (Nat.le_refl _) (hcdv ▸ T.tk_law_errors_right) (tm_law_errors_right T) (tabs_uniq T.tnd (tm_law_errors_right T)) hr (LamX.lamS_by (by rfl)) rfl (fun _ _ _ _ _ => rfl) (fun A2 outer2 s2 H2 E2 f2 cn2 hr => (km0 T.cl_Memory T.me_Memory_bring (ok_Memory_bring T) (hr.mono (by decide)) T.kb_Memory_bring_1_source_to_end_begin passLam (pv 0) (pk_cons (mk1 T.mk_Memory (ok_Memory_init T) (hr.mono (by decide)) (by rfl) T.mg_Memory T.b_Memory_init passLam (pa_cons (pe_ifExp (pt_cmpR (k_eq (K := K) rfl hr.r.units) (pv 1) pe_int (nomark _)) pe_int pe_int) pa_nil)) (pk_cons (pe_un un_neg pe_int) (pk_cons (pv 1) (pk_cons pe_int pk_nil))))))) pa_nil)))
      (pss_one (ps_ret (pe_cmpR (k_eq (K := K) rfl hr.r.units) (pv 2) (pe_lst (pa_cons pe_str (pa_cons pe_str (pa_cons pe_str (pa_cons pe_str pa_nil))))) (nomark _)))))))), ?_⟩
    dsimp only [cxOf, st_1, st_2, st_3, st_4, st_5, st_6, List.length_cons, List.length_nil, List.replicate_succ, List.replicate_zero, Nat.reduceAdd, Nat.reduceSub]
    walk_at "gs"
    refine i_lamG tT fun H1 k1 t1 W Q' hW hQ' => ?_
    have M1 := mem_kt M tT hP k1
    walk_at "gs"
    refine i_made fun m0 dx0 fm0 fdx0 nd0 => ?_
    refine ⟨m0, dx0, 0, .non, rfl, upd_same, .inl ⟨by omega, hW _ List.mem_cons_self _ fun H2 k2 => ?_⟩⟩
    have k12 : Kp [] H1 H2 := Kp.trans (Kp.upd (Kp.new fdx0) fm0) k2
    have t2 := tabK k12 t1
    have M2 := mem_kp0 M1 k12
    walk_at "gs"
    refine i_new fun S fS => ?_
    have kS : Kp [] H2 (upd H2 S (.lst [.str "size"])) := Kp.new fS
    have hS : (upd H2 S (.lst [.str "size"])) S = some (.lst [.str "size"]) := upd_same
    have t3 := tabK kS t2
    have M3 := mem_kp0 M2 kS
    have k03 : Kp [T.tp_law_errors_right] H (upd H2 S (.lst [.str "size"])) := Kp.trans k1 (Kp.trans k12 kS).wide
    obtain ⟨H3, e3⟩ : ∃ H3, H3 = upd H2 S (.lst [.str "size"]) := ⟨_, rfl⟩
    rw [← e3] at hS t3 M3 k03 ⊢
    have nSP : S ∉ [T.tp_law_errors_right] := fun h => by
      obtain ⟨ps, h2, _⟩ := t2 _ hP
      exact fr_ne h2 fS (List.mem_singleton.mp h).symm
    have inP : ∀ b ∈ [T.tp_law_errors_right], b ∈ [S, T.tp_law_errors_right] := fun b h => List.mem_cons_of_mem _ h
    have inS : ∀ b ∈ [S], b ∈ [S, T.tp_law_errors_right] := fun b h => by rw [List.mem_singleton.mp h]; exact List.mem_cons_self
    have memS : ∀ {G G' : Hp} {xs : List V}, Kp [S] G G' → G S = some (.lst (.str "size" :: xs)) → MemAt K T.c_Memory G m cs → MemAt K T.c_Memory G' m cs := fun {G G' xs} kk hs MM => by
      obtain ⟨dx, l, h1, h2⟩ := MM
      refine ⟨dx, l, kk.at_ _ _ h1 (not_one fun e => ?_), h2.kp kk (imms_d2 _) (not_one fun e => ?_)⟩
      · rw [e, hs] at h1
        cases h1
      · obtain ⟨vs, hv, av⟩ := h2
        rw [e, hs] at hv
        cases hv
        cases hr2 : rle cs with
        | nil =>
          rw [hr2] at av
          cases av
        | cons a r =>
          rw [hr2, List.map_cons] at av
          cases av with
          | cons d _ => cases d
    have tabS : ∀ {G G' : Hp} {xs : List V}, Kp [S] G G' → G S = some (.lst xs) → LamX.Tabs (tabsT T) G → LamX.Tabs (tabsT T) G' := fun {G G' xs} kk hs tt => tabs_kp tt kk fun b hb => ⟨.lst xs, by rw [List.mem_singleton.mp hb]; exact hs, ob_lst⟩
    walk_at "gs"
    refine i_lamG t3 fun H4 k4 t4 W4 Q4 hW4 hQ4 => ?_
    have M4 := mem_kt M3 t3 hP k4
    have hS4 := k4.at_ _ _ hS nSP
    obtain ⟨dx4, l4, hm4, _⟩ := id M4
    walk_at "gs"
    refine ⟨m, w, .str "1", cs, rfl, M4, .inl ⟨by omega, hW4 _ (List.mem_cons_of_mem _ List.mem_cons_self) _ fun H5 k5 => ?_⟩⟩
    have kk5 : Kp [] H4 H5 := k5
    have t5 := tabK kk5 t4
    have M5 := mem_kp0 M4 kk5
    have hS5 := kk5.at_ _ _ hS4 not_nil
    walk_at "gs"
    have kA5 : Kp [S] H5 (upd H5 S (.lst ([V.str "size"] ++ [V.str "cell"]))) := Kp.mut hS5 (fun z => z) List.mem_cons_self
    have hS6 : (upd H5 S (.lst ([V.str "size"] ++ [V.str "cell"]))) S = some (.lst [V.str "size", V.str "cell"]) := upd_same
    have M6 := memS kA5 hS5 M5
    have t6 := tabS kA5 hS5 t5
    have k06 : Kp [S, T.tp_law_errors_right] H3 (upd H5 S (.lst ([V.str "size"] ++ [V.str "cell"]))) := Kp.trans (Kp.refl) (Kp.trans (k4.mono inP) (Kp.trans kk5.wide (kA5.mono inS)))
    obtain ⟨H6, e6⟩ : ∃ H6, H6 = upd H5 S (.lst ([V.str "size"] ++ [V.str "cell"])) := ⟨_, rfl⟩
    rw [← e6] at hS6 M6 t6 k06 ⊢
    walk_at "gs"
    refine i_lamG t6 fun H7 k7 t7 W7 Q7 hW7 hQ7 => ?_
    have M7 := mem_kt M6 t6 hP k7
    have hS7 := k7.at_ _ _ hS6 nSP
    obtain ⟨dx7, l7, hm7, _⟩ := id M7
    walk_at "gs"
    refine ⟨m, 0, w + 1, .non, cs, rfl, M7, .inl ⟨by omega, hW7 _ (List.mem_cons_of_mem _ (List.mem_cons_of_mem _ List.mem_cons_self)) _ fun H8 k8 => ?_⟩⟩
    have kk8 : Kp [] H7 H8 := k8
    have t8 := tabK kk8 t7
    have M8 := mem_kp0 M7 kk8
    have hS8 := kk8.at_ _ _ hS7 not_nil
    walk_at "gs"
    have kA8 : Kp [S] H8 (upd H8 S (.lst ([V.str "size", V.str "cell"] ++ [V.str "stretch"]))) := Kp.mut hS8 (fun z => z) List.mem_cons_self
    have hS9 : (upd H8 S (.lst ([V.str "size", V.str "cell"] ++ [V.str "stretch"]))) S = some (.lst [V.str "size", V.str "cell", V.str "stretch"]) := upd_same
    have M9 := memS kA8 hS8 M8
    have t9 := tabS kA8 hS8 t8
    have k09 : Kp [S, T.tp_law_errors_right] H3 (upd H8 S (.lst ([V.str "size", V.str "cell"] ++ [V.str "stretch"]))) := Kp.trans (k06) (Kp.trans (k7.mono inP) (Kp.trans kk8.wide (kA8.mono inS)))
    obtain ⟨H9, e9⟩ : ∃ H9, H9 = upd H8 S (.lst ([V.str "size", V.str "cell"] ++ [V.str "stretch"])) := ⟨_, rfl⟩
    rw [← e9] at hS9 M9 t9 k09 ⊢
    walk_at "gs"
    refine i_lamG t9 fun H10 k10 t10 W10 Q10 hW10 hQ10 => ?_
    have M10 := mem_kt M9 t9 hP k10
    have hS10 := k10.at_ _ _ hS9 nSP
    obtain ⟨dx10, l10, hm10, _⟩ := id M10
    walk_at "gs"
    by_cases c : w = 1
    case' pos => rw [decide_eq_true c]
    case' neg => rw [decide_eq_false c]
    all_goals
      walk_at "gs"
      refine i_made fun m1 dx1 fm1 fdx1 nd1 => ?_
      refine ⟨m1, dx1, _, .int 0, rfl, upd_same, .inr ⟨0, rfl, by omega, fun Ha ka Ma oa => ⟨rfl, ?_⟩⟩⟩
      have k1a := kp_made fm1 fdx1 ka
      have Ma10 := mem_kp0 M10 k1a
      have hma10 := k1a.at_ _ _ hm10 not_nil
      walk_at "gs"
      refine ⟨m, 0, w, -1, .ref m1, cs, rfl, Ma10, by omega, .inl ⟨by omega, hW10 _ (List.mem_cons_of_mem _ (List.mem_cons_of_mem _ List.mem_cons_self)) _ fun H11 k11 => ?_⟩⟩
      have kk11 : Kp [] H10 H11 := Kp.trans k1a k11
      have t11 := tabK kk11 t10
      have hS11 := kk11.at_ _ _ hS10 not_nil
      walk_at "gs"
      have kA11 : Kp [S] H11 (upd H11 S (.lst ([V.str "size", V.str "cell", V.str "stretch"] ++ [V.str "stretch"]))) := Kp.mut hS11 (fun z => z) List.mem_cons_self
      have hS12 : (upd H11 S (.lst ([V.str "size", V.str "cell", V.str "stretch"] ++ [V.str "stretch"]))) S = some (.lst [V.str "size", V.str "cell", V.str "stretch", V.str "stretch"]) := upd_same
      have t12 := tabS kA11 hS11 t11
      have k012 : Kp [S, T.tp_law_errors_right] H3 (upd H11 S (.lst ([V.str "size", V.str "cell", V.str "stretch"] ++ [V.str "stretch"]))) := Kp.trans k09 (Kp.trans (k10.mono inP) (Kp.trans kk11.wide (kA11.mono inS)))
      obtain ⟨H12, e12⟩ : ∃ H12, H12 = upd H11 S (.lst ([V.str "size", V.str "cell", V.str "stretch"] ++ [V.str "stretch"])) := ⟨_, rfl⟩
      rw [← e12] at hS12 t12 k012 ⊢
      refine i_new fun L fL => ?_
      have kL : Kp [] H12 (upd H12 L (.lst [V.str "size", V.str "cell", V.str "stretch", V.str "stretch"])) := Kp.new fL
      have hL : (upd H12 L (.lst [V.str "size", V.str "cell", V.str "stretch", V.str "stretch"])) L = some (.lst [V.str "size", V.str "cell", V.str "stretch", V.str "stretch"]) := upd_same
      have hS13 := kL.at_ _ _ hS12 not_nil
      have t13 := tabK kL t12
      have kf : Kp [T.tp_law_errors_right] H (upd H12 L (.lst [V.str "size", V.str "cell", V.str "stretch", V.str "stretch"])) := Kp.drop (Kp.trans (Kp.trans (k03.mono inP) k012) kL.wide) ((Kp.trans k1 k12.wide).free fS)
      refine eq_same (d := .list [.str "size", .str "cell", .str "stretch", .str "stretch"]) (.lst (SqL.of hS13) (.cons (.str _) (.cons (.str _) (.cons (.str _) (.cons (.str _) .nil))))) (.lst (SqL.of hL) (.cons (.str _) (.cons (.str _) (.cons (.str _) (.cons (.str _) .nil))))) (by decide +kernel) ?_
      exact k _ kf t13

theorem rle_fillV {cs : List Int} {b e v : Int} (h : 0 ≤ b ∧ b ≤ e ∧ e ≤ cs.length) : (rle (laid cs b.toNat (List.replicate (e - b).toNat v) e.toNat)).length ≤ (rle cs).length + 2 := by
  have e0 : cells [(e - b, v)] = List.replicate (e - b).toNat v := by rw [cells_cons, cells_nil, List.append_nil]
  rw [← e0, ← laid_rle]
  have k := cut2F (b := b) (e := e) (n := cs.length) (by omega) (rle cs) 0 (Int.le_refl _) (rle_pos cs)
  have j : ∀ l : List (Int × Int), (jnd l).length ≤ l.length := fun l => by
    rw [jnd_wr]
    exact wr_len l
  refine Nat.le_trans (j _) ?_
  rw [List.length_append, List.length_append, List.length_singleton]
  unfold cut
  have : (if (0 : Int) < b then 1 else 0) ≤ 1 := by split <;> omega
  omega

/-! ### _law_step: deeds by names, and by places -/
theorem rle_laidP {cs : List Int} {b e : Int} {ps : List (Int × Int)} (h : 0 ≤ b ∧ b ≤ e ∧ e ≤ cs.length) : (rle (laid cs b.toNat (cells ps) e.toNat)).length ≤ (rle cs).length + ps.length + 1 := by
  rw [← laid_rle]
  have k := cut2F (b := b) (e := e) (n := cs.length) (by omega) (rle cs) 0 (Int.le_refl _) (rle_pos cs)
  have j : ∀ l : List (Int × Int), (jnd l).length ≤ l.length := fun l => by
    rw [jnd_wr]
    exact wr_len l
  refine Nat.le_trans (j _) ?_
  rw [List.length_append, List.length_append]
  unfold cut
  have : (if (0 : Int) < b then 1 else 0) ≤ 1 := by split <;> omega
  omega
theorem off_fresh {K : PySem.W.Frag} {C : Addr} {H : Hp} {m S : Addr} {cs : List Int} {o : HO} (M : MemAt K C H m cs) (f : Fr H S) : Off (upd H S o) m S := by
  have n : m ≠ S := fr_tr (tr_mem M) f
  obtain ⟨dx, l, h1, h2⟩ := M
  intro C' dx' n' l' e
  rw [upd_ne n, h1] at e
  cases e
  exact fr_tr (tr_ld h2) f
def sp_step (K : PySem.W.Frag) (C : Addr) : Sp := fun vs H Q _ => ∃ (p m q : Addr) (cs : List Int) (w : Int), vs = [.ref p, .ref m, .ref q, .int w] ∧ PotAt H p ∧ MemAt K C H m cs ∧ MemAt K C H q cs ∧ m ≠ q ∧ (cs.length : Int) = w ∧ (1 ≤ w ∧ w ≤ 1000000000000000000) ∧ (rle cs).length ≤ 3000 ∧
  ∀ cs' H', Kp [p, m, q] H H' → PotAt H' p → MemAt K C H' m cs' → MemAt K C H' q cs' → (cs'.length : Int) = w → (rle cs').length ≤ 2 * (rle cs).length + 9 → Q (.bl true) H'
theorem sc_law_step : FnScope ["_law_pot_here", "_law_named", "_law_placed", "_law_wide", "_law_low", "_law_high", "_law_goal", "_law_what", "_law_at", "_law_results"] ["_law_pot_here", "_law_named", "_law_placed", "_law_wide"] (defScope s_law_step) :=
  ⟨rfl, rfl, rfl, by decide +kernel, rfl, by decide +kernel, by decide +kernel⟩
theorem ok_law_step {P : Program} {w : World} {K : PySem.W.Frag} {mg : Str → Option Value} {base : Heap} (T : Txt K mg) :
    FnG P w K mg base 5 T.a_law_step T.d_law_step ["_law_pot_here", "_law_named", "_law_placed", "_law_wide"] (sp_step K T.c_Memory) := by
  refine okD T.F_law_step sc_law_step (fun vs H Q E h => ?_) (fun cdv A outer s H vs Q E hr h => ?_)
  · first
      | (obtain ⟨_, rfl, _⟩ := h; rfl)
      | (obtain ⟨_, _, rfl, _⟩ := h; rfl)
      | (obtain ⟨_, _, _, rfl, _⟩ := h; rfl)
      | (obtain ⟨_, _, _, _, rfl, _⟩ := h; rfl)
      | (obtain ⟨_, _, _, _, _, rfl, _⟩ := h; rfl)
      | (obtain ⟨_, _, _, _, _, _, rfl, _⟩ := h; rfl)
      | (obtain ⟨_, _, _, _, _, _, _, rfl, _⟩ := h; rfl)
      | (obtain ⟨_, _, _, _, _, _, _, _, rfl, _⟩ := h; rfl)
      | (obtain ⟨_, _, _, _, _, _, _, _, _, rfl, _⟩ := h; rfl)
      | (obtain ⟨_, _, _, _, _, _, _, _, _, _, rfl, _⟩ := h; rfl)
      | (obtain ⟨_, _, _, _, _, _, _, _, _, _, _, rfl, _⟩ := h; rfl)
      | (obtain ⟨_, _, _, _, _, _, _, _, _, _, _, _, rfl, _⟩ := h; rfl)
      | (obtain ⟨_, _, _, _, _, _, _, _, _, _, _, _, _, rfl, _⟩ := h; rfl)
      | (obtain ⟨_, _, _, _, _, _, _, _, _, _, _, _, _, _, rfl, _⟩ := h; rfl)
      | (obtain ⟨_, _, _, _, _, _, _, _, _, _, _, _, _, _, _, rfl, _⟩ := h; rfl)
      | (obtain ⟨_, _, _, _, _, _, _, _, _, _, _, _, _, _, _, _, rfl, _⟩ := h; rfl)
      | (obtain ⟨_, _, _, _, _, _, _, _, _, _, _, _, _, _, _, _, _, rfl, _⟩ := h; rfl)
      | (obtain ⟨_, _, _, _, _, _, _, _, _, _, _, _, _, _, _, _, _, _, rfl, _⟩ := h; rfl)
      | (obtain ⟨_, _, _, _, _, _, _, _, _, _, _, _, _, _, _, _, _, _, _, rfl, _⟩ := h; rfl)
  · obtain ⟨p, m, q, cs, w, rfl, hp, M, N, nmq, lw, hw, few, k⟩ := h
    have cl_Memory := T.cl_Memory
    have na_Memory_pairs := T.na_Memory_pairs
    have na_Memory_wide := T.na_Memory_wide
    refine ⟨_, (pss_cons (ps_set (i := 4) sc_law_step.nd rfl (Or.inl rfl) (d1 (ok_law_place T) (hr.mono (by decide)) (by rfl) T.m_law_place T.F_law_place.kp T.b_law_place passL (pa_cons (pv 0) (pa_cons (pv 3) pa_nil))))
      (pss_cons (ps_set (i := 5) sc_law_step.nd rfl (Or.inl rfl) (pe_op (k_add (K := K) rfl) (pv 4) (d1 (ok_law_place T) (hr.mono (by decide)) (by rfl) T.m_law_place T.F_law_place.kp T.b_law_place passL (pa_cons (pv 0) (pa_cons (pe_op op_sub (pv 3) (pv 4)) pa_nil)))))
      (pss_cons (ps_par3 (i := 6) (j := 7) (l := 8) rfl sc_law_step.nd rfl rfl rfl (by decide) (by decide) (by decide) rfl rfl rfl (pa_cons (d1 (ok_law_place T) (hr.mono (by decide)) (by rfl) T.m_law_place T.F_law_place.kp T.b_law_place passL (pa_cons (pv 0) (pa_cons (pe_op op_sub (pv 3) (pe_op op_sub (pv 5) (pv 4))) pa_nil))) (pa_cons (d1 (ok_law_value T) (hr.mono (by decide)) (by rfl) T.m_law_value T.F_law_value.kp T.b_law_value passL (pa_cons (pv 0) pa_nil)) (pa_cons (d1 (ok_law_draw T) (hr.mono (by decide)) (by rfl) T.m_law_draw T.F_law_draw.kp T.b_law_draw passL (pa_cons (pv 0) (pa_cons (pv 3) pa_nil))) pa_nil))) (by rfl))
      (pss_cons (ps_set (i := 9) sc_law_step.nd rfl (Or.inl rfl) (pe_lst (pa_cons (km0 T.cl_Memory T.me_Memory_put (ok_Memory_put T) (hr.mono (by decide)) T.kb_Memory_put_1_number_cell passL (pv 1) (pk_cons (pv 7) (pk_cons (pv 8) pk_nil))) (pa_cons (km0 T.cl_Memory T.me_Memory_fill (ok_Memory_fill T) (hr.mono (by decide)) T.kb_Memory_fill_1_number_end_begin passL (pv 1) (pk_cons (pe_op (k_add (K := K) rfl) (pv 7) pe_int) (pk_cons (pv 5) (pk_cons (pv 4) pk_nil)))) pa_nil))))
      (pss_cons (ps_expr (dm T.cl_Memory T.me_Memory_put (ok_Memory_put T) (hr.mono (by decide)) T.b_Memory_put passL (pv 2) (pa_cons (pv 8) (pa_cons (pv 7) pa_nil))))
      (pss_cons (ps_expr (dm T.cl_Memory T.me_Memory_fill (ok_Memory_fill T) (hr.mono (by decide)) T.b_Memory_fill passL (pv 2) (pa_cons (pv 4) (pa_cons (pv 5) (pa_cons (pe_op (k_add (K := K) rfl) (pv 7) pe_int) pa_nil)))))
      (pss_cons (ps_expr (pe_bm PySem.F.plainAttrs_list PySem.F.slot_list_append PySem.F.type_list_append mt_append (pv 9) (pa_cons (km0 T.cl_Memory T.me_Memory_bring (ok_Memory_bring T) (hr.mono (by decide)) T.kb_Memory_bring_1_source_to_end_begin passL (pv 1) (pk_cons (pv 2) (pk_cons (pv 6) (pk_cons (pv 5) (pk_cons (pv 4) pk_nil))))) pa_nil)))
      (pss_cons (ps_expr (dm T.cl_Memory T.me_Memory_bring (ok_Memory_bring T) (hr.mono (by decide)) T.b_Memory_bring passL (pv 2) (pa_cons (pv 4) (pa_cons (pv 5) (pa_cons (pv 6) pa_nil)))))
      (pss_one (ps_ret (pe_and (pe_cmpR (k_eq (K := K) rfl hr.r.units) (pv 9) (pe_op o_mul (pe_lst (pa_cons pe_non pa_nil)) pe_int) (nomark _)) (pe_and (pe_cmpR (k_eq (K := K) rfl hr.r.units) (km0 T.cl_Memory T.me_Memory_at (ok_Memory_at T) (hr.mono (by decide)) T.kb_Memory_at_1_cell passL (pv 1) (pk_cons (pv 8) pk_nil)) (dm T.cl_Memory T.me_Memory_at (ok_Memory_at T) (hr.mono (by decide)) T.b_Memory_at passL (pv 2) (pa_cons (pv 8) pa_nil)) (nomark _)) (pe_one (pe_cmpR (k_eq (K := K) rfl hr.r.units) (dm0 T.cl_Memory T.me_Memory_runs (ok_Memory_runs T) (hr.mono (by decide)) T.b_Memory_runs passL (pv 1)) (dm0 T.cl_Memory T.me_Memory_runs (ok_Memory_runs T) (hr.mono (by decide)) T.b_Memory_runs passL (pv 2)) (nomark _))))))))))))))), ?_⟩
    dsimp only [cxOf, st_1, st_2, st_3, st_4, st_5, st_6, List.length_cons, List.length_nil, List.replicate_succ, List.replicate_zero, Nat.reduceAdd, Nat.reduceSub]
    walk_at "gs"
    refine use_place hp (by omega) (by omega) (fun lo H1 lo0 lo1 hp1 k1 => ?_)
    have M1 := mem_kp1 M k1 (oth_pot hp)
    have N1 := mem_kp1 N k1 (oth_pot hp)
    walk_at "gs"
    refine use_place hp1 (by omega) (by omega) (fun r H2 r0 r1 hp2 k2 => ?_)
    have M2 := mem_kp1 M1 k2 (oth_pot hp1)
    have N2 := mem_kp1 N1 k2 (oth_pot hp1)
    obtain ⟨hi, ehi⟩ : ∃ hi, hi = lo + r := ⟨_, rfl⟩
    refine i_addI ?_
    rw [← ehi]
    walk_at "gs"
    refine i_par3 ?_
    walk_at "gs"
    have ewh : w - (hi - lo) = w - r := by omega
    rw [ewh]
    refine use_place hp2 (by omega) (by omega) (fun go H3 g0 g1 hp3 k3 => ?_)
    have M3 := mem_kp1 M2 k3 (oth_pot hp2)
    have N3 := mem_kp1 N2 k3 (oth_pot hp2)
    walk_at "gs"
    refine use_value hp3 (fun v H4 v0 v1 hp4 k4 => ?_)
    have M4 := mem_kp1 M3 k4 (oth_pot hp3)
    have N4 := mem_kp1 N3 k4 (oth_pot hp3)
    walk_at "gs"
    refine use_draw hp4 (by omega) (by omega) (fun at_ H5 a0 a1 hp5 k5 => ?_)
    have M5 := mem_kp1 M4 k5 (oth_pot hp4)
    have N5 := mem_kp1 N4 k5 (oth_pot hp4)
    have k05 : Kp [p] H H5 := Kp.trans k1 (Kp.trans k2 (Kp.trans k3 (Kp.trans k4 k5)))
    walk_at "gs"
    refine ⟨_, _, _, rfl, ?_⟩
    walk_at "gs"
    refine ⟨m, at_, .int v, cs, rfl, M5, .inr ⟨v, rfl, by omega, by omega, fun H6 k6 M6 o6 => ?_⟩⟩
    obtain ⟨cs1, ec1⟩ : ∃ cs1, cs1 = laid cs at_.toNat [v] (at_ + 1).toNat := ⟨_, rfl⟩
    have l1 : (cs1.length : Int) = w := by
      rw [ec1, laid_len (by omega) (by omega) (by rw [List.length_singleton]; omega)]
      exact lw
    have f1 : (rle cs1).length ≤ (rle cs).length + 2 := by
      have := rle_laidP (cs := cs) (b := at_) (e := at_ + 1) (ps := [(1, v)]) (by omega)
      rw [ec1]
      exact this
    rw [← ec1] at M6
    have N6 := mem_kp1 N5 k6 (oth_mem M5 nmq)
    have hp6 := pot_kp_mem hp5 M5 k6
    walk_at "gs"
    refine ⟨m, lo, hi, .int (v + 1), cs1, rfl, M6, .inr ⟨v + 1, rfl, by omega, by omega, fun H7 k7 M7 o7 => ?_⟩⟩
    obtain ⟨cs2, ec2⟩ : ∃ cs2, cs2 = laid cs1 lo.toNat (List.replicate (hi - lo).toNat (v + 1)) hi.toNat := ⟨_, rfl⟩
    have l2 : (cs2.length : Int) = w := by
      rw [ec2, laid_len (by omega) (by omega) (by rw [List.length_replicate]; omega)]
      exact l1
    have f2 : (rle cs2).length ≤ (rle cs1).length + 2 := by
      rw [ec2]
      exact rle_fillV (by omega)
    rw [← ec2] at M7
    have N7 := mem_kp1 N6 k7 (oth_mem M6 nmq)
    have hp7 := pot_kp_mem hp6 M6 k7
    walk_at "gs"
    refine i_new fun S fS => ?_
    have k8 : Kp [] H7 (upd H7 S (.lst [.non, .non])) := Kp.new fS
    have hS8 : (upd H7 S (.lst [.non, .non])) S = some (.lst [.non, .non]) := upd_same
    have M8 := mem_kp0 M7 k8
    have N8 := mem_kp0 N7 k8
    have om8 : Off (upd H7 S (.lst [.non, .non])) m S := off_fresh M7 fS
    have on8 : Off (upd H7 S (.lst [.non, .non])) q S := off_fresh N7 fS
    have hp8 := hp7.kp k8 not_nil
    have k08 : Kp [p, m, q] H (upd H7 S (.lst [.non, .non])) := Kp.trans (k05.mono fun b hb => by rw [List.mem_singleton.mp hb]; exact List.mem_cons_self) (Kp.trans ((Kp.trans k6 k7).mono fun b hb => by rw [List.mem_singleton.mp hb]; exact List.mem_cons_of_mem _ List.mem_cons_self) k8.wide)
    have nSm : S ≠ m := Ne.symm (fr_tr (tr_mem M7) fS)
    have nSq : S ≠ q := Ne.symm (fr_tr (tr_mem N7) fS)
    have nSp : S ≠ p := Ne.symm (hp7.ne fS)
    have fS0 : Fr H S := (Kp.trans (k05.mono (us := [p, m]) fun b hb => by rw [List.mem_singleton.mp hb]; exact List.mem_cons_self) ((Kp.trans k6 k7).mono fun b hb => by rw [List.mem_singleton.mp hb]; exact List.mem_cons_of_mem _ List.mem_cons_self)).free fS
    obtain ⟨H8, e8⟩ : ∃ H8, H8 = upd H7 S (.lst [.non, .non]) := ⟨_, rfl⟩
    rw [← e8] at hS8 M8 N8 om8 on8 hp8 k08 ⊢
    walk_at "gs"
    refine ⟨q, at_, .int v, cs, rfl, N8, .inr ⟨v, rfl, by omega, by omega, fun H9 k9 N9 o9 => ?_⟩⟩
    rw [← ec1] at N9
    have M9 := mem_kp1 M8 k9 (oth_mem N8 (Ne.symm nmq))
    have hp9 := pot_kp_mem hp8 N8 k9
    have hS9 := k9.at_ _ _ hS8 (not_one nSq)
    have om9 := off_kp k9 (tr_mem M8) (not_one nmq) om8
    have on9 := o9 S (tr_of hS8)
    walk_at "gs"
    refine ⟨q, lo, hi, .int (v + 1), cs1, rfl, N9, .inr ⟨v + 1, rfl, by omega, by omega, fun H10 k10 N10 o10 => ?_⟩⟩
    rw [← ec2] at N10
    have M10 := mem_kp1 M9 k10 (oth_mem N9 (Ne.symm nmq))
    have hp10 := pot_kp_mem hp9 N9 k10
    have hS10 := k10.at_ _ _ hS9 (not_one nSq)
    have om10 := off_kp k10 (tr_mem M9) (not_one nmq) om9
    have on10 := o10 S (tr_of hS9)
    walk_at "gs"
    refine ⟨m, lo, hi, go, .ref q, cs2, rfl, M10, by omega, .inr ⟨q, cs2, N10, .inr rfl, rfl, by omega, by omega, by omega, fun H11 k11 M11 o11 => ?_⟩⟩
    obtain ⟨cs3, ec3⟩ : ∃ cs3, cs3 = laid cs2 go.toNat ((cs2.drop lo.toNat).take (hi.toNat - lo.toNat)) (go + hi - lo).toNat := ⟨_, rfl⟩
    have l3 : (cs3.length : Int) = w := by
      rw [ec3, laid_len (by omega) (by omega) (by rw [List.length_take, List.length_drop]; omega)]
      exact l2
    have f3 : (rle cs3).length ≤ 2 * (rle cs2).length + 1 := by
      have h1 := rle_laidP (cs := cs2) (b := go) (e := go + hi - lo) (ps := cut lo hi (rle cs2)) (by omega)
      have h2 := cut_len lo hi (rle cs2)
      rw [cut_rle] at h1
      rw [ec3]
      omega
    rw [← ec3] at M11
    have N11 := mem_kp1 N10 k11 (oth_mem M10 nmq)
    have hp11 := pot_kp_mem hp10 M10 k11
    have hS11 := k11.at_ _ _ hS10 (not_one nSm)
    have om11 := o11 S (tr_of hS10)
    have on11 := off_kp k11 (tr_mem N10) (not_one (Ne.symm nmq)) on10
    walk_at "gs"
    have kA : Kp [S] H11 (upd H11 S (.lst ([.non, .non] ++ [.non]))) := Kp.mut hS11 (fun z => z) List.mem_cons_self
    have hS12 : (upd H11 S (.lst ([.non, .non] ++ [.non]))) S = some (.lst [.non, .non, .non]) := upd_same
    have M12 := mem_kp1 M11 kA (oth_lst hS11 om11)
    have N12 := mem_kp1 N11 kA (oth_lst hS11 on11)
    have hp12 := hp11.kp kA (not_one (Ne.symm nSp))
    have on12 := off_kp kA (tr_mem N11) (not_one (Ne.symm nSq)) on11
    obtain ⟨H12, e12⟩ : ∃ H12, H12 = upd H11 S (.lst ([.non, .non] ++ [.non])) := ⟨_, rfl⟩
    rw [← e12] at kA hS12 M12 N12 hp12 on12 ⊢
    walk_at "gs"
    refine ⟨q, lo, hi, go, .non, cs2, rfl, N12, by omega, .inr ⟨q, cs2, N12, .inl ⟨rfl, rfl, rfl⟩, rfl, by omega, by omega, by omega, fun H13 k13 N13 o13 => ?_⟩⟩
    rw [← ec3] at N13
    have M13 := mem_kp1 M12 k13 (oth_mem N12 (Ne.symm nmq))
    have hp13 := pot_kp_mem hp12 N12 k13
    have hS13 := k13.at_ _ _ hS12 (not_one nSq)
    walk_at "gs"
    refine i_new fun A fA => ?_
    have kA2 : Kp [] H13 (upd H13 A (.lst [.non])) := Kp.new fA
    have hA : (upd H13 A (.lst [.non])) A = some (.lst [.non]) := upd_same
    have M14 := mem_kp0 M13 kA2
    have N14 := mem_kp0 N13 kA2
    have hp14 := hp13.kp kA2 not_nil
    have hS14 := kA2.at_ _ _ hS13 not_nil
    obtain ⟨H14, e14⟩ : ∃ H14, H14 = upd H13 A (.lst [.non]) := ⟨_, rfl⟩
    rw [← e14] at kA2 hA M14 N14 hp14 hS14 ⊢
    walk_at "gs"
    refine .inr (.inr (i_rep (n := 3) hA (by decide) (by decide) (i_new fun B fB => ?_)))
    have kB : Kp [] H14 (upd H14 B (.lst (List.replicate (3 : Int).toNat V.non))) := Kp.new fB
    have hB : (upd H14 B (.lst (List.replicate (3 : Int).toNat V.non))) B = some (.lst [.non, .non, .non]) := upd_same
    have M15 := mem_kp0 M14 kB
    have N15 := mem_kp0 N14 kB
    have hp15 := hp14.kp kB not_nil
    have hS15 := kB.at_ _ _ hS14 not_nil
    obtain ⟨H15, e15⟩ : ∃ H15, H15 = upd H14 B (.lst (List.replicate (3 : Int).toNat V.non)) := ⟨_, rfl⟩
    rw [← e15] at kB hB M15 N15 hp15 hS15 ⊢
    refine eq_same (d := .list [.none, .none, .none]) (.lst (SqL.of hS15) (.cons .non (.cons .non (.cons .non .nil)))) (.lst (SqL.of hB) (.cons .non (.cons .non (.cons .non .nil)))) (by decide +kernel) ?_
    obtain ⟨j, rfl⟩ := Int.eq_ofNat_of_zero_le a0
    obtain ⟨x, hx⟩ : ∃ x, cs3[j]? = some x := ⟨_, List.getElem?_eq_getElem (by omega)⟩
    walk_at "gs"
    refine ⟨m, j, cs3, x, rfl, M15, by omega, hx, fun H16 k16 => ?_⟩
    have M16 := mem_kp0 M15 k16
    have N16 := mem_kp0 N15 k16
    have hp16 := hp15.kp k16 not_nil
    walk_at "gs"
    refine ⟨q, j, cs3, x, rfl, N16, by omega, hx, fun H17 k17 => ?_⟩
    have M17 := mem_kp0 M16 k17
    have N17 := mem_kp0 N16 k17
    have hp17 := hp16.kp k17 not_nil
    walk_at "gs"
    rw [decide_eq_true rfl]
    walk_at "gs"
    refine ⟨m, cs3, rfl, M17, fun r1 H18 fr1 k18 ld18 => ?_⟩
    have M18 := mem_kp0 M17 k18
    have N18 := mem_kp0 N17 k18
    have hp18 := hp17.kp k18 not_nil
    walk_at "gs"
    refine ⟨q, cs3, rfl, N18, fun r2 H19 fr2 k19 ld19 => ?_⟩
    have M19 := mem_kp0 M18 k19
    have N19 := mem_kp0 N18 k19
    have hp19 := hp18.kp k19 not_nil
    walk_at "gs"
    refine eq_same (ld18.kp k19 (imms_d2 _) not_nil).dp ld19.dp (shaped_pairs _) ?_
    have kq : Kp [S, p, m, q] H8 H13 := by
      have iq : ∀ b ∈ [q], b ∈ [S, p, m, q] := fun b hb => by rw [List.mem_singleton.mp hb]; simp
      have im : ∀ b ∈ [m], b ∈ [S, p, m, q] := fun b hb => by rw [List.mem_singleton.mp hb]; simp
      have iS : ∀ b ∈ [S], b ∈ [S, p, m, q] := fun b hb => by rw [List.mem_singleton.mp hb]; simp
      exact Kp.trans (k9.mono iq) (Kp.trans (k10.mono iq) (Kp.trans (k11.mono im) (Kp.trans (kA.mono iS) (k13.mono iq))))
    have kall : Kp [p, m, q] H H19 := Kp.drop (Kp.trans (Kp.trans (k08.mono fun b hb => List.mem_cons_of_mem _ hb) kq) (Kp.trans kA2 (Kp.trans kB (Kp.trans k16 (Kp.trans k17 (Kp.trans k18 k19))))).wide) fS0
    exact k cs3 H19 kall hp19 M19 N19 l3 (by omega)

/-! ### a difference written from left to right; there is but one -/
structure DiffTo (cs ds : List Int) (P : List Part) (at_ : Int) : Prop where
  row : P.Pairwise Beside
  wide : ∀ p ∈ P, 0 ≤ p.b ∧ p.b < p.e ∧ p.e ≤ at_
  un : ∀ p ∈ P, p.h ≠ p.g
  here : ∀ p ∈ P, ∀ x : Nat, p.b ≤ x → (x : Int) < p.e → cs[x]? = some p.h ∧ ds[x]? = some p.g
  all : ∀ x : Nat, (x : Int) < at_ → cs[x]? ≠ ds[x]? → ∃ p ∈ P, p.b ≤ x ∧ (x : Int) < p.e
section
variable {cs ds : List Int} {P : List Part} {a e h g : Int} {p : Part}
theorem DiffTo.diff (t : DiffTo cs ds P cs.length) : Diff cs ds P := ⟨t.row, t.wide, t.un, t.here, fun x hx ne => t.all x (by omega) ne⟩
theorem DiffTo.none : DiffTo cs ds [] 0 := ⟨.nil, fun _ h => (nomatch h), fun _ h => (nomatch h), fun _ h => (nomatch h), fun x hx => by omega⟩
theorem DiffTo.same (t : DiffTo cs ds P a) (h1 : a ≤ e) (hh : ∀ x : Nat, a ≤ x → (x : Int) < e → cs[x]? = ds[x]?) : DiffTo cs ds P e := by
  refine ⟨t.row, fun p hp => ?_, t.un, t.here, fun x hx ne => ?_⟩
  · obtain ⟨a1, a2, a3⟩ := t.wide p hp
    exact ⟨a1, a2, by omega⟩
  · by_cases c : (x : Int) < a
    · exact t.all x c ne
    · exact absurd (hh x (by omega) hx) ne
theorem DiffTo.app (t : DiffTo cs ds P a) (h0 : 0 ≤ a) (h1 : a < e) (n : h ≠ g) (hh : ∀ x : Nat, a ≤ x → (x : Int) < e → cs[x]? = some h ∧ ds[x]? = some g)
    (hl : ∀ p ∈ P, p.e = a → ¬ (p.h = h ∧ p.g = g)) : DiffTo cs ds (P ++ [⟨a, e, h, g⟩]) e := by
  refine ⟨?_, ?_, ?_, ?_, ?_⟩
  · refine List.pairwise_append.mpr ⟨t.row, List.pairwise_singleton _ _, fun p hp q hq => ?_⟩
    rw [List.mem_singleton.mp hq]
    exact ⟨(t.wide p hp).2.2, fun z => hl p hp z⟩
  · intro p hp
    rcases List.mem_append.mp hp with hp | hp
    · obtain ⟨a1, a2, a3⟩ := t.wide p hp
      exact ⟨a1, a2, by omega⟩
    · rw [List.mem_singleton.mp hp]
      exact ⟨h0, h1, Int.le_refl _⟩
  · intro p hp
    rcases List.mem_append.mp hp with hp | hp
    · exact t.un p hp
    · rw [List.mem_singleton.mp hp]
      exact n
  · intro p hp x x0 x1
    rcases List.mem_append.mp hp with hp | hp
    · exact t.here p hp x x0 x1
    · rw [List.mem_singleton.mp hp] at x0 x1 ⊢
      exact hh x x0 x1
  · intro x hx ne
    by_cases c : (x : Int) < a
    · obtain ⟨p, hp, q⟩ := t.all x c ne
      exact ⟨p, List.mem_append_left _ hp, q⟩
    · exact ⟨_, List.mem_append_right _ (List.mem_singleton.mpr rfl), by show a ≤ (x : Int); omega, hx⟩
theorem DiffTo.last (t : DiffTo cs ds (P ++ [p]) a) : ∀ q ∈ P, q.e < a := by
  intro q hq
  have r := (List.pairwise_append.mp t.row).2.2 q hq p (List.mem_singleton.mpr rfl)
  have w := t.wide p (List.mem_append_right _ (List.mem_singleton.mpr rfl))
  have := r.1
  omega
theorem DiffTo.long (t : DiffTo cs ds (P ++ [p]) a) (e0 : p.e = a) (h1 : a < e) (hh : ∀ x : Nat, a ≤ x → (x : Int) < e → cs[x]? = some p.h ∧ ds[x]? = some p.g) :
    DiffTo cs ds (P ++ [⟨p.b, e, p.h, p.g⟩]) e := by
  have lp : p ∈ P ++ [p] := List.mem_append_right _ (List.mem_singleton.mpr rfl)
  have w := t.wide p lp
  refine ⟨?_, ?_, ?_, ?_, ?_⟩
  · obtain ⟨r1, _, r3⟩ := List.pairwise_append.mp t.row
    refine List.pairwise_append.mpr ⟨r1, List.pairwise_singleton _ _, fun q hq r hr => ?_⟩
    rw [List.mem_singleton.mp hr]
    exact r3 q hq p (List.mem_singleton.mpr rfl)
  · intro q hq
    rcases List.mem_append.mp hq with hq | hq
    · obtain ⟨a1, a2, a3⟩ := t.wide q (List.mem_append_left _ hq)
      exact ⟨a1, a2, by omega⟩
    · rw [List.mem_singleton.mp hq]
      exact ⟨w.1, by show p.b < e; omega, Int.le_refl _⟩
  · intro q hq
    rcases List.mem_append.mp hq with hq | hq
    · exact t.un q (List.mem_append_left _ hq)
    · rw [List.mem_singleton.mp hq]
      exact t.un p lp
  · intro q hq x x0 x1
    rcases List.mem_append.mp hq with hq | hq
    · exact t.here q (List.mem_append_left _ hq) x x0 x1
    · rw [List.mem_singleton.mp hq] at x0 x1 ⊢
      by_cases c : (x : Int) < a
      · exact t.here p lp x x0 (by omega)
      · exact hh x (by omega) x1
  · intro x hx ne
    by_cases c : (x : Int) < a
    · obtain ⟨q, hq, q1, q2⟩ := t.all x c ne
      rcases List.mem_append.mp hq with hq | hq
      · exact ⟨q, List.mem_append_left _ hq, q1, q2⟩
      · rw [List.mem_singleton.mp hq] at q1 q2
        exact ⟨_, List.mem_append_right _ (List.mem_singleton.mpr rfl), q1, hx⟩
    · exact ⟨_, List.mem_append_right _ (List.mem_singleton.mpr rfl), by show p.b ≤ (x : Int); omega, hx⟩
/-- the parts from a cell on -/
structure DTail (cs ds : List Int) (P : List Part) (a : Int) : Prop where
  row : P.Pairwise Beside
  wide : ∀ p ∈ P, a ≤ p.b ∧ p.b < p.e ∧ p.e ≤ cs.length
  un : ∀ p ∈ P, p.h ≠ p.g
  here : ∀ p ∈ P, ∀ x : Nat, p.b ≤ x → (x : Int) < p.e → cs[x]? = some p.h ∧ ds[x]? = some p.g
  all : ∀ x : Nat, a ≤ x → x < cs.length → cs[x]? ≠ ds[x]? → ∃ p ∈ P, p.b ≤ x ∧ (x : Int) < p.e
variable {R : List Part} {r : Part}
theorem DTail.unlike (t : DTail cs ds P a) (h0 : 0 ≤ a) (hp : p ∈ P) {x : Nat} (x0 : p.b ≤ x) (x1 : (x : Int) < p.e) : cs[x]? ≠ ds[x]? := by
  obtain ⟨e1, e2⟩ := t.here p hp x x0 x1
  rw [e1, e2]
  exact fun z => t.un p hp (Option.some.inj z)
theorem DTail.begin (tP : DTail cs ds (p :: P) a) (tR : DTail cs ds (r :: R) a) (h0 : 0 ≤ a) : r.b ≤ p.b := by
  have wp := tP.wide p List.mem_cons_self
  have wr := tR.wide r List.mem_cons_self
  obtain ⟨q, hq, q0, q1⟩ := tR.all p.b.toNat (by omega) (by omega) (tP.unlike h0 List.mem_cons_self (by omega) (by omega))
  rcases List.mem_cons.mp hq with rfl | hq
  · omega
  · have := (List.rel_of_pairwise_cons tR.row hq).1
    omega
theorem DTail.same (tP : DTail cs ds (p :: P) a) (tR : DTail cs ds (r :: R) a) (h0 : 0 ≤ a) (e : p.b = r.b) : p.h = r.h ∧ p.g = r.g := by
  have wp := tP.wide p List.mem_cons_self
  have wr := tR.wide r List.mem_cons_self
  obtain ⟨a1, a2⟩ := tP.here p List.mem_cons_self p.b.toNat (by omega) (by omega)
  obtain ⟨b1, b2⟩ := tR.here r List.mem_cons_self p.b.toNat (by omega) (by omega)
  rw [a1] at b1
  rw [a2] at b2
  exact ⟨Option.some.inj b1, Option.some.inj b2⟩
theorem DTail.end_ (tP : DTail cs ds (p :: P) a) (tR : DTail cs ds (r :: R) a) (h0 : 0 ≤ a) (e : p.b = r.b) : ¬ p.e < r.e := by
  intro lt
  have wp := tP.wide p List.mem_cons_self
  have wr := tR.wide r List.mem_cons_self
  obtain ⟨s1, s2⟩ := tP.same tR h0 e
  obtain ⟨q, hq, q0, q1⟩ := tP.all p.e.toNat (by omega) (by omega) (tR.unlike h0 List.mem_cons_self (by omega) (by omega))
  rcases List.mem_cons.mp hq with rfl | hq2
  · omega
  · have b := List.rel_of_pairwise_cons tP.row hq2
    have b1 := b.1
    obtain ⟨a1, a2⟩ := tP.here q hq p.e.toNat q0 q1
    obtain ⟨c1, c2⟩ := tR.here r List.mem_cons_self p.e.toNat (by omega) (by omega)
    rw [a1] at c1
    rw [a2] at c2
    exact b.2 (by omega) ⟨by rw [s1, Option.some.inj c1], by rw [s2, Option.some.inj c2]⟩
theorem DTail.rest (t : DTail cs ds (p :: P) a) (h0 : 0 ≤ a) : DTail cs ds P p.e := by
  have wp := t.wide p List.mem_cons_self
  refine ⟨(List.pairwise_cons.mp t.row).2, fun q hq => ?_, fun q hq => t.un q (List.mem_cons_of_mem _ hq), fun q hq => t.here q (List.mem_cons_of_mem _ hq), fun x x0 x1 ne => ?_⟩
  · have := (List.rel_of_pairwise_cons t.row hq).1
    have := t.wide q (List.mem_cons_of_mem _ hq)
    omega
  · obtain ⟨q, hq, q0, q1⟩ := t.all x (by omega) x1 ne
    rcases List.mem_cons.mp hq with rfl | hq
    · omega
    · exact ⟨q, hq, q0, q1⟩
theorem DTail.uniq : ∀ (P R : List Part) (a : Int), 0 ≤ a → DTail cs ds P a → DTail cs ds R a → P = R
  | [], [], _, _, _, _ => rfl
  | [], r :: R, a, h0, tP, tR => by
    have wr := tR.wide r List.mem_cons_self
    obtain ⟨q, hq, _⟩ := tP.all r.b.toNat (by omega) (by omega) (tR.unlike h0 List.mem_cons_self (by omega) (by omega))
    cases hq
  | p :: P, [], a, h0, tP, tR => by
    have wr := tP.wide p List.mem_cons_self
    obtain ⟨q, hq, _⟩ := tR.all p.b.toNat (by omega) (by omega) (tP.unlike h0 List.mem_cons_self (by omega) (by omega))
    cases hq
  | p :: P, r :: R, a, h0, tP, tR => by
    have b1 := tP.begin tR h0
    have b2 := tR.begin tP h0
    have eb : p.b = r.b := by omega
    have e1 := tP.end_ tR h0 eb
    have e2 := tR.end_ tP h0 eb.symm
    have ee : p.e = r.e := by omega
    obtain ⟨s1, s2⟩ := tP.same tR h0 eb
    have wp := tP.wide p List.mem_cons_self
    have ih := DTail.uniq P R p.e (by omega) (tP.rest h0) (by
      rw [ee]
      exact tR.rest h0)
    have ep : p = r := by
      cases p
      cases r
      simp only at eb ee s1 s2
      rw [eb, ee, s1, s2]
    rw [ep, ih]
theorem Diff.uniq (t : Diff cs ds P) (u : Diff cs ds R) : P = R :=
  DTail.uniq P R 0 (Int.le_refl _) ⟨t.row, t.wide, t.un, t.here, fun x _ h => t.all x h⟩ ⟨u.row, u.wide, u.un, u.here, fun x _ h => u.all x h⟩
theorem Diff.self {cs : List Int} (t : Diff cs cs P) : P = [] := by
  cases P with
  | nil => rfl
  | cons p P =>
    have w := t.wide p List.mem_cons_self
    obtain ⟨e1, e2⟩ := t.here p List.mem_cons_self p.b.toNat (by omega) (by omega)
    rw [e1] at e2
    exact absurd (Option.some.inj e2) (t.un p List.mem_cons_self)
end

/-! ### lists of parts, shown and compared -/
theorem lay_d4 : ∀ P : List Part, PyData.canLayAll0 (P.map d4) = true ∧ PyData.depthAll (P.map d4) ≤ 1
  | [] => ⟨rfl, Nat.zero_le _⟩
  | p :: P => by
    have ih := lay_d4 P
    simp only [List.map_cons, PyData.canLayAll0, PyData.canLay0, PyData.depthAll, PyData.depth, ih.1, Bool.and_self, true_and]
    have := ih.2
    omega
theorem shaped_d4 (P : List Part) : SeqAt.shaped (.list (P.map d4)) = true :=
  shaped_of (lay_d4 P).1 (by simp only [PyData.depth]; have := (lay_d4 P).2; omega)
theorem ne_d4 {K : PySem.W.Frag} {H : Hp} {Q : VK} {l q : Addr} {P : List Part} (h : LD K H l (P.map d4)) (hq : Fr H q) (k : Q (.bl (!P.isEmpty)) (upd H q (.lst []))) :
    uNe K (.ref l) (.ref q) (upd H q (.lst [])) Q := by
  have kq : Kp [] H (upd H q (.lst [])) := Kp.new hq
  refine i_neD (h.kp kq (imms_d4 _) not_nil).dp (.lst (SqL.of upd_same) .nil) (shaped_d4 P) shaped_nil ?_
  rw [eqv_nil]
  have e : (P.map d4).isEmpty = P.isEmpty := by cases P <;> rfl
  rw [e]
  exact k
theorem Diff.okP {cs ds : List Int} {P : List Part} (t : Diff cs ds P) (hc : ∀ v ∈ cs, okI v) (hd : ∀ v ∈ ds, okI v) (hl : cs.length ≤ 1000000000000000000) :
    ∀ p ∈ P, okI p.b ∧ okI p.e ∧ okI p.h ∧ okI p.g := by
  intro p hp
  obtain ⟨w1, w2, w3⟩ := t.wide p hp
  obtain ⟨e1, e2⟩ := t.here p hp p.b.toNat (by omega) (by omega)
  exact ⟨okI_of (by omega) (by omega), okI_of (by omega) (by omega), hc _ (List.mem_of_getElem? e1), hd _ (List.mem_of_getElem? e2)⟩
theorem shws_d4 : ∀ l : List Part, (∀ p ∈ l, okI p.b ∧ okI p.e ∧ okI p.h ∧ okI p.g) → shws (l.map d4) = true
  | [], _ => rfl
  | p :: l, h => by
    have a := h p List.mem_cons_self
    have b := shws_d4 l fun z hz => h z (List.mem_cons_of_mem _ hz)
    simp only [List.map_cons, shws, shw, b, Bool.and_true, Bool.and_eq_true, decide_eq_true_eq]
    exact a
theorem cws_d4 : ∀ l : List Part, cws (l.map d4) ≤ 8000 * l.length
  | [] => Nat.le_refl _
  | p :: l => by
    have ih := cws_d4 l
    simp only [List.map_cons, cws, cw, List.length_cons]
    omega
theorem repr_d4 {K : PySem.W.Frag} {H : Hp} {Q : VK} {x : V} {l : List Part} (hx : Dp K H x (.list (l.map d4))) (h : ∀ p ∈ l, okI p.b ∧ okI p.e ∧ okI p.h ∧ okI p.g)
    (hl : l.length ≤ 1900) (q : Q (.str (PyData.list (l.map d4)).shown) H) : rRepr K [x] H Q := by
  refine i_repr hx ?_ ?_ ?_ q
  · simp only [shw]
    exact shws_d4 l h
  · simp only [PyData.depth]
    have := (lay_d4 l).2
    omega
  · have e : cw (.list (l.map d4)) ≤ 8000 * l.length + 2 := by
      have := cws_d4 l
      simp only [cw]
      omega
    exact Nat.le_trans e (Nat.le_trans (show 8000 * l.length + 2 ≤ 15472002 by omega) (by decide))

/-! ### _law_differences_right -/
theorem Diff.clean {cs ds : List Int} {P : List Part} (t : Diff cs ds P) (c : Int) : ¬ Clashes cs P c := by
  rintro ⟨p, hp, b1, b2, ne⟩
  obtain ⟨c1, rfl⟩ := Int.eq_ofNat_of_zero_le (Int.le_trans (t.wide p hp).1 b1)
  rw [Int.toNat_natCast] at ne
  exact ne (t.here p hp c1 b1 b2).1
def sp_diffs (K : PySem.W.Frag) (C : Addr) : Sp := fun vs H Q _ => ∃ (m : Addr) (cs : List Int) (w : Int), vs = [.ref m, .int w] ∧ MemAt K C H m cs ∧ (cs.length : Int) = w ∧ (1 ≤ w ∧ w ≤ 1000000000000000000) ∧ (rle cs).length ≤ 3000 ∧
  ∀ H', Kp [] H H' → Q (.bl true) H'
theorem sc_law_differences_right : FnScope ["_law_named", "_law_wide", "_law_blank", "_law_parts", "_law_copy"] ["_law_named", "_law_wide"] (defScope s_law_differences_right) :=
  ⟨rfl, rfl, rfl, by decide +kernel, rfl, by decide +kernel, by decide +kernel⟩
theorem ok_law_differences_right {P : Program} {w : World} {K : PySem.W.Frag} {mg : Str → Option Value} {base : Heap} (T : Txt K mg) :
    FnG P w K mg base 9 T.a_law_differences_right T.d_law_differences_right ["_law_named", "_law_wide"] (sp_diffs K T.c_Memory) := by
  refine okD T.F_law_differences_right sc_law_differences_right (fun vs H Q E h => ?_) (fun cdv A outer s H vs Q E hr h => ?_)
  · first
      | (obtain ⟨_, rfl, _⟩ := h; rfl)
      | (obtain ⟨_, _, rfl, _⟩ := h; rfl)
      | (obtain ⟨_, _, _, rfl, _⟩ := h; rfl)
      | (obtain ⟨_, _, _, _, rfl, _⟩ := h; rfl)
      | (obtain ⟨_, _, _, _, _, rfl, _⟩ := h; rfl)
      | (obtain ⟨_, _, _, _, _, _, rfl, _⟩ := h; rfl)
      | (obtain ⟨_, _, _, _, _, _, _, rfl, _⟩ := h; rfl)
      | (obtain ⟨_, _, _, _, _, _, _, _, rfl, _⟩ := h; rfl)
      | (obtain ⟨_, _, _, _, _, _, _, _, _, rfl, _⟩ := h; rfl)
      | (obtain ⟨_, _, _, _, _, _, _, _, _, _, rfl, _⟩ := h; rfl)
      | (obtain ⟨_, _, _, _, _, _, _, _, _, _, _, rfl, _⟩ := h; rfl)
      | (obtain ⟨_, _, _, _, _, _, _, _, _, _, _, _, rfl, _⟩ := h; rfl)
      | (obtain ⟨_, _, _, _, _, _, _, _, _, _, _, _, _, rfl, _⟩ := h; rfl)
      | (obtain ⟨_, _, _, _, _, _, _, _, _, _, _, _, _, _, rfl, _⟩ := h; rfl)
      | (obtain ⟨_, _, _, _, _, _, _, _, _, _, _, _, _, _, _, rfl, _⟩ := h; rfl)
      | (obtain ⟨_, _, _, _, _, _, _, _, _, _, _, _, _, _, _, _, rfl, _⟩ := h; rfl)
      | (obtain ⟨_, _, _, _, _, _, _, _, _, _, _, _, _, _, _, _, _, rfl, _⟩ := h; rfl)
      | (obtain ⟨_, _, _, _, _, _, _, _, _, _, _, _, _, _, _, _, _, _, rfl, _⟩ := h; rfl)
      | (obtain ⟨_, _, _, _, _, _, _, _, _, _, _, _, _, _, _, _, _, _, _, rfl, _⟩ := h; rfl)
  · obtain ⟨m, cs, w, rfl, M, lw, hw, few, k⟩ := h
    have cl_Memory := T.cl_Memory
    have na_Memory_pairs := T.na_Memory_pairs
    have na_Memory_wide := T.na_Memory_wide
    refine ⟨_, (pss_cons (ps_set (i := 2) sc_law_differences_right.nd rfl (Or.inl rfl) (mk1 T.mk_Memory (ok_Memory_init T) (hr.mono (by decide)) (by rfl) T.mg_Memory T.b_Memory_init passL (pa_cons (pv 1) pa_nil)))
      (pss_cons (ps_set (i := 3) sc_law_differences_right.nd rfl (Or.inl rfl) (kc0 (ok_difference T) (hr.mono (by decide)) (by rfl) T.m_difference T.F_difference.kp T.kb_difference_0_other_one passL (pk_cons (pv 2) (pk_cons (pv 0) pk_nil))))
      (pss_cons (ps_if (PW.pt (pw_or (pt_cmpR (k_ne (K := K) rfl hr.r.units) (pv 3) (d1 (ok_difference T) (hr.mono (by decide)) (by rfl) T.m_difference T.F_difference.kp T.b_difference passL (pa_cons (pv 0) (pa_cons (pv 2) pa_nil))) (nomark _)) (pw_or1 (pt_cmpR op_notBl (kc0 (ok_is_difference T) (hr.mono (by decide)) (by rfl) T.m_is_difference T.F_is_difference.kp T.kb_is_difference_0_size_thing passL (pk_cons (pv 1) (pk_cons (pv 3) pk_nil))) pe_bl (nomark _))))) (pss_one (ps_ret pe_bl)) pss_nil)
      (pss_cons (ps_if (pt_cmpR (k_ne (K := K) rfl hr.r.units) (kc0 (ok_turned T) (hr.mono (by decide)) (by rfl) T.m_turned T.F_turned.kp T.kb_turned_0_thing passL (pk_cons (pv 3) pk_nil)) (d1 (ok_turned T) (hr.mono (by decide)) (by rfl) T.m_turned T.F_turned.kp T.b_turned passL (pa_cons (pv 3) pa_nil)) (nomark _)) (pss_one (ps_ret pe_bl)) pss_nil)
      (pss_cons (ps_set (i := 4) sc_law_differences_right.nd rfl (Or.inl rfl) (dm0 T.cl_Memory T.me_Memory_copied (ok_Memory_copied T) (hr.mono (by decide)) T.b_Memory_copied passL (pv 0)))
      (pss_one (ps_ret (pe_and (pe_cmpR op_isN1 (kc0 (ok_carry T) (hr.mono (by decide)) (by rfl) T.m_carry T.F_carry.kp T.kb_carry_0_thing_memory passL (pk_cons (pv 3) (pk_cons (pv 4) pk_nil))) pe_non (nomark _)) (pe_one (pe_cmpR (k_eqM (K := K) rfl T.me_Memory_eq (ok_Memory_eq T) (hr.mono (by decide)) T.b_Memory_eq passL) (pv 4) (pv 2) (nomark _))))))))))), ?_⟩
    dsimp only [cxOf, st_1, st_2, st_3, st_4, st_5, st_6, List.length_cons, List.length_nil, List.replicate_succ, List.replicate_zero, Nat.reduceAdd, Nat.reduceSub]
    walk_at "gs"
    refine i_made fun b dx fb fdx nd => ?_
    refine ⟨b, dx, w, .int 0, rfl, upd_same, .inr ⟨0, rfl, hw, fun H1 k1 B1 o1 => ⟨rfl, ?_⟩⟩⟩
    have k01 := kp_made fb fdx k1
    have M1 := mem_kp0 M k01
    obtain ⟨ds, eds⟩ : ∃ ds, ds = List.replicate w.toNat (0 : Int) := ⟨_, rfl⟩
    have ld0 : (ds.length : Int) = w := by rw [eds, List.length_replicate]; omega
    have fd0 : (rle ds).length ≤ 1 := by rw [eds, rle_one hw.1]; exact Nat.le_refl _
    rw [← eds] at B1
    walk_at "gs"
    refine ⟨m, b, cs, ds, rfl, M1, B1, by omega, by omega, by omega, by omega, fun l H2 P fl k2 ldP dP lP => ?_⟩
    have M2 := mem_kp0 M1 k2
    have B2 := mem_kp0 B1 k2
    walk_at "gs"
    refine ⟨m, b, cs, ds, rfl, M2, B2, by omega, by omega, by omega, by omega, fun l2 H3 P2 fl2 k3 ldP2 dP2 lP2 => ?_⟩
    obtain rfl := dP.uniq dP2
    have M3 := mem_kp0 M2 k3
    have B3 := mem_kp0 B2 k3
    have ldP3 := ldP.kp k3 (imms_d4 _) not_nil
    walk_at "gs"
    refine ne_same ldP3.dp ldP2.dp (shaped_d4 P) ?_
    walk_at "gs"
    refine ⟨l, P, w, rfl, ldP3.dp, by rw [← lw]; exact dP.sound, fun H4 k4 => ?_⟩
    have M4 := mem_kp0 M3 k4
    have B4 := mem_kp0 B3 k4
    have ldP4 := ldP3.kp k4 (imms_d4 _) not_nil
    walk_at "gs"
    refine ⟨true, true, rfl, rfl, ?_⟩
    rw [decide_eq_true rfl]
    walk_at "gs"
    refine ⟨l, P, rfl, ldP4.dp, by omega, fun t1 H5 ft1 k5 ldt1 => ?_⟩
    have ldP5 := ldP4.kp k5 (imms_d4 _) not_nil
    walk_at "gs"
    refine ⟨l, P, rfl, ldP5.dp, by omega, fun t2 H6 ft2 k6 ldt2 => ?_⟩
    have ldP6 := ldP5.kp k6 (imms_d4 _) not_nil
    have M6 := mem_kp0 (mem_kp0 M4 k5) k6
    have B6 := mem_kp0 (mem_kp0 B4 k5) k6
    walk_at "gs"
    refine ne_same (ldt1.kp k6 (imms_d4 _) not_nil).dp ldt2.dp (shaped_d4 _) ?_
    walk_at "gs"
    refine ⟨m, cs, rfl, M6, by omega, by omega, fun c H7 fc k7 C7 o7 => ?_⟩
    have B7 := mem_kp0 B6 k7
    have ldP7 := ldP6.kp k7 (imms_d4 _) not_nil
    have ncb : b ≠ c := fr_tr (tr_mem B6) fc
    walk_at "gs"
    refine ⟨c, l, cs, P, rfl, C7, ldP7, dP.sound, by omega, fun x hx => absurd hx.1 (dP.clean x), fun _ H8 k8 C8 o8 => ?_⟩
    rw [dP.carried (by omega)] at C8
    have B8 := mem_kp1 B7 k8 (oth_mem C7 (Ne.symm ncb))
    obtain ⟨dx8, l8, hc8, _⟩ := id C8
    walk_at "gs"
    refine i_cmpM hc8 (ty_mem T.ic_Memory B8) (by simp [PySem.W.notFirst]) ⟨c, ds, .ref b, rfl, C8, .inl ⟨b, ds, rfl, B8, fun H9 k9 => ⟨_, rfl, ?_⟩⟩⟩
    rw [decide_eq_true rfl]
    have kc8 : Kp [] H H8 := Kp.drop (Kp.trans (Kp.trans k01 (Kp.trans k2 (Kp.trans k3 (Kp.trans k4 (Kp.trans k5 (Kp.trans k6 k7)))))).wide k8) ((Kp.trans k01 (Kp.trans k2 (Kp.trans k3 (Kp.trans k4 (Kp.trans k5 k6))))).free fc)
    exact k _ (Kp.trans kc8 k9)

/-! ### _law_runs_right -/
def sp_runsr (K : PySem.W.Frag) (C : Addr) : Sp := fun vs H Q _ => ∃ (m : Addr) (cs : List Int) (w v : Int), vs = [.ref m, .int w, .int v] ∧ MemAt K C H m cs ∧ (cs.length : Int) = w ∧ (1 ≤ w ∧ w ≤ 1000000000000000000) ∧ (rle cs).length ≤ 3000 ∧
  ∀ H', Kp [] H H' → Q (.bl true) H'
theorem sc_law_runs_right : FnScope ["_law_named", "_law_wide", "_law_what", "_law_told"] ["_law_named", "_law_wide", "_law_what"] (defScope s_law_runs_right) :=
  ⟨rfl, rfl, rfl, by decide +kernel, rfl, by decide +kernel, by decide +kernel⟩
theorem ok_law_runs_right {P : Program} {w : World} {K : PySem.W.Frag} {mg : Str → Option Value} {base : Heap} (T : Txt K mg) :
    FnG P w K mg base 8 T.a_law_runs_right T.d_law_runs_right ["_law_named", "_law_wide", "_law_what"] (sp_runsr K T.c_Memory) := by
  refine okD T.F_law_runs_right sc_law_runs_right (fun vs H Q E h => ?_) (fun cdv A outer s H vs Q E hr h => ?_)
  · first
      | (obtain ⟨_, rfl, _⟩ := h; rfl)
      | (obtain ⟨_, _, rfl, _⟩ := h; rfl)
      | (obtain ⟨_, _, _, rfl, _⟩ := h; rfl)
      | (obtain ⟨_, _, _, _, rfl, _⟩ := h; rfl)
      | (obtain ⟨_, _, _, _, _, rfl, _⟩ := h; rfl)
      | (obtain ⟨_, _, _, _, _, _, rfl, _⟩ := h; rfl)
      | (obtain ⟨_, _, _, _, _, _, _, rfl, _⟩ := h; rfl)
      | (obtain ⟨_, _, _, _, _, _, _, _, rfl, _⟩ := h; rfl)
      | (obtain ⟨_, _, _, _, _, _, _, _, _, rfl, _⟩ := h; rfl)
      | (obtain ⟨_, _, _, _, _, _, _, _, _, _, rfl, _⟩ := h; rfl)
      | (obtain ⟨_, _, _, _, _, _, _, _, _, _, _, rfl, _⟩ := h; rfl)
      | (obtain ⟨_, _, _, _, _, _, _, _, _, _, _, _, rfl, _⟩ := h; rfl)
      | (obtain ⟨_, _, _, _, _, _, _, _, _, _, _, _, _, rfl, _⟩ := h; rfl)
      | (obtain ⟨_, _, _, _, _, _, _, _, _, _, _, _, _, _, rfl, _⟩ := h; rfl)
      | (obtain ⟨_, _, _, _, _, _, _, _, _, _, _, _, _, _, _, rfl, _⟩ := h; rfl)
      | (obtain ⟨_, _, _, _, _, _, _, _, _, _, _, _, _, _, _, _, rfl, _⟩ := h; rfl)
      | (obtain ⟨_, _, _, _, _, _, _, _, _, _, _, _, _, _, _, _, _, rfl, _⟩ := h; rfl)
      | (obtain ⟨_, _, _, _, _, _, _, _, _, _, _, _, _, _, _, _, _, _, rfl, _⟩ := h; rfl)
      | (obtain ⟨_, _, _, _, _, _, _, _, _, _, _, _, _, _, _, _, _, _, _, rfl, _⟩ := h; rfl)
  · obtain ⟨m, cs, w, v, rfl, M, lw, hw, few, k⟩ := h
    have cl_Memory := T.cl_Memory
    have na_Memory_pairs := T.na_Memory_pairs
    have na_Memory_wide := T.na_Memory_wide
    refine ⟨_, (pss_cons (ps_set (i := 3) sc_law_runs_right.nd rfl (Or.inl rfl) (dm0 T.cl_Memory T.me_Memory_runs (ok_Memory_runs T) (hr.mono (by decide)) T.b_Memory_runs passL (pv 0)))
      (pss_cons (ps_if (PW.pt (pw_or (pt_cmpR (k_neM (K := K) rfl T.me_Memory_eq T.ne_Memory T.ic_Memory.hm (ok_Memory_eq T) (hr.mono (by decide)) T.b_Memory_eq passL) (kc0 (ok_memory_of T) (hr.mono (by decide)) (by rfl) T.m_memory_of T.F_memory_of.kp T.kb_memory_of_0_runs passL (pk_cons (pv 3) pk_nil)) (pv 0) (nomark _)) (pw_or (pt_cmpR (k_ne (K := K) rfl hr.r.units) (kc0 (ok_joined T) (hr.mono (by decide)) (by rfl) T.m_joined T.F_joined.kp T.kb_joined_0_pairs passL (pk_cons (pv 3) pk_nil)) (pv 3) (nomark _)) (pw_or1 (pt_cmpR op_notBl (kc0 (ok_are_runs T) (hr.mono (by decide)) (by rfl) T.m_are_runs T.F_are_runs.kp T.kb_are_runs_0_size_thing passL (pk_cons (pv 1) (pk_cons (pv 3) pk_nil))) pe_bl (nomark _)))))) (pss_one (ps_ret pe_bl)) pss_nil)
      (pss_one (ps_ret (pe_and (pe_cmpR op_isBl (kc0 (ok_is_size T) (hr.mono (by decide)) (by rfl) T.m_is_size T.F_is_size.kp T.kb_is_size_0_thing passL (pk_cons (pv 1) pk_nil)) pe_bl (nomark _)) (pe_one (pe_cmpR op_isBl (kc0 (ok_is_number T) (hr.mono (by decide)) (by rfl) T.m_is_number T.F_is_number.kp T.kb_is_number_0_thing passL (pk_cons (pv 2) pk_nil)) pe_bl (nomark _)))))))), ?_⟩
    dsimp only [cxOf, st_1, st_2, st_3, st_4, st_5, st_6, List.length_cons, List.length_nil, List.replicate_succ, List.replicate_zero, Nat.reduceAdd, Nat.reduceSub]
    walk_at "gs"
    refine ⟨m, cs, rfl, M, fun l H1 fl k1 ld1 => ?_⟩
    have M1 := mem_kp0 M k1
    walk_at "gs"
    refine ⟨l, cs, rfl, ld1.dp, by omega, by omega, fun n H2 fn k2 N2 o2 => ?_⟩
    have M2 := mem_kp0 M1 k2
    have ld2 := ld1.kp k2 (imms_d2 _) not_nil
    obtain ⟨dx2, l2, hn2, _⟩ := id N2
    walk_at "gs"
    refine i_cmpM hn2 (ty_mem T.ic_Memory M2) (by simp [PySem.W.notFirst]) ⟨n, cs, .ref m, rfl, N2, .inl ⟨m, cs, rfl, M2, fun H3 k3 => ⟨_, rfl, ?_⟩⟩⟩
    rw [decide_eq_true rfl]
    have ld3 := ld2.kp k3 (imms_d2 _) not_nil
    walk_at "gs"
    refine ⟨l, rle cs, rfl, ld3.dp, by omega, fun j H4 fj k4 ldj => ?_⟩
    rw [jnd_rle, cells_rle] at ldj
    have ld4 := ld3.kp k4 (imms_d2 _) not_nil
    walk_at "gs"
    refine ne_same ldj.dp ld4.dp (shaped_pairs _) ?_
    walk_at "gs"
    refine ⟨l, rle cs, w, rfl, ld4.dp, rle_pos cs, (by have h := apart_wr (rle cs); rwa [wr_rle, cells_rle] at h), by omega, by rw [wide_rle]; exact lw, fun H5 k5 => ?_⟩
    walk_at "gs"
    refine ⟨true, true, rfl, rfl, ?_⟩
    rw [decide_eq_true rfl]
    walk_at "gs"
    refine ⟨w, rfl, ?_⟩
    rw [decide_eq_true hw]
    walk_at "gs"
    refine ⟨true, true, rfl, rfl, ?_⟩
    walk_at "gs"
    rw [decide_eq_true rfl]
    walk_at "gs"
    refine ⟨v, rfl, ?_⟩
    walk_at "gs"
    refine ⟨true, true, rfl, rfl, ?_⟩
    rw [decide_eq_true rfl]
    exact k _ (Kp.trans k1 (Kp.trans k2 (Kp.trans k3 (Kp.trans k4 k5))))

/-! ### the law -/
def sp_law (K : PySem.W.Frag) (TB : List (Addr × Str)) : Sp := fun vs H Q _ => ∃ (a : Addr) (ns : List Int), vs = [.ref a] ∧ LamX.Tabs TB H ∧ SqL K H a (ns.map V.int) ∧ (∀ q ∈ TB, a ≠ q.1) ∧ ns.length ≤ 63 ∧ ∀ H', Q (.bl true) H'
theorem sc_law : FnScope ["_law_script", "_law_k", "_law_pot_here", "_law_wide", "_law_what", "_law_named", "_law_placed", "_law_turn"] ["_law_script"] (defScope s_law) :=
  ⟨rfl, rfl, rfl, by decide +kernel, rfl, by decide +kernel, by decide +kernel⟩
theorem ok_law {P : Program} {w : World} {K : PySem.W.Frag} {mg : Str → Option Value} {base : Heap} (T : Txt K mg) :
    FnG P w K mg base 10 T.a_law T.d_law ["_law_script"] (sp_law K (tabsT T)) := by
  refine okD T.F_law sc_law (fun vs H Q E h => ?_) (fun cdv A outer s H vs Q E hr h => ?_)
  · first
      | (obtain ⟨_, rfl, _⟩ := h; rfl)
      | (obtain ⟨_, _, rfl, _⟩ := h; rfl)
      | (obtain ⟨_, _, _, rfl, _⟩ := h; rfl)
      | (obtain ⟨_, _, _, _, rfl, _⟩ := h; rfl)
      | (obtain ⟨_, _, _, _, _, rfl, _⟩ := h; rfl)
      | (obtain ⟨_, _, _, _, _, _, rfl, _⟩ := h; rfl)
      | (obtain ⟨_, _, _, _, _, _, _, rfl, _⟩ := h; rfl)
      | (obtain ⟨_, _, _, _, _, _, _, _, rfl, _⟩ := h; rfl)
      | (obtain ⟨_, _, _, _, _, _, _, _, _, rfl, _⟩ := h; rfl)
      | (obtain ⟨_, _, _, _, _, _, _, _, _, _, rfl, _⟩ := h; rfl)
      | (obtain ⟨_, _, _, _, _, _, _, _, _, _, _, rfl, _⟩ := h; rfl)
      | (obtain ⟨_, _, _, _, _, _, _, _, _, _, _, _, rfl, _⟩ := h; rfl)
      | (obtain ⟨_, _, _, _, _, _, _, _, _, _, _, _, _, rfl, _⟩ := h; rfl)
      | (obtain ⟨_, _, _, _, _, _, _, _, _, _, _, _, _, _, rfl, _⟩ := h; rfl)
      | (obtain ⟨_, _, _, _, _, _, _, _, _, _, _, _, _, _, _, rfl, _⟩ := h; rfl)
      | (obtain ⟨_, _, _, _, _, _, _, _, _, _, _, _, _, _, _, _, rfl, _⟩ := h; rfl)
      | (obtain ⟨_, _, _, _, _, _, _, _, _, _, _, _, _, _, _, _, _, rfl, _⟩ := h; rfl)
      | (obtain ⟨_, _, _, _, _, _, _, _, _, _, _, _, _, _, _, _, _, _, rfl, _⟩ := h; rfl)
      | (obtain ⟨_, _, _, _, _, _, _, _, _, _, _, _, _, _, _, _, _, _, _, rfl, _⟩ := h; rfl)
  · obtain ⟨a, ns, rfl, tT, hs, na, hl, k⟩ := h
    have naP : a ∉ [T.tp_law_errors_right] := fun z => na _ (tm_law_errors_right T) (List.mem_singleton.mp z)
    have tab0 : ∀ {G G' : Hp}, Kp [] G G' → LamX.Tabs (tabsT T) G → LamX.Tabs (tabsT T) G' := fun kk t => t.ext fun b o e => kk.at_ _ _ e not_nil
    refine ⟨_, (pss_cons (ps_for (passes_of rfl) rfl (pi_range1 (by rfl) T.n_range (pa_cons (pe_callB (c_max2 rfl) (by rfl) T.n_max (by decide +kernel) (pa_cons pe_int (pa_cons (pe_callB (c_min2 rfl) (by rfl) T.n_min (by decide +kernel) (pa_cons (pe_callB (k_len (K := K) rfl) (by rfl) T.n_len (by decide +kernel) (pa_cons (pv 0) pa_nil)) (pa_cons pe_int pa_nil))) pa_nil))) pa_nil)) (pg_name (i := 1) sc_law.nd rfl (Or.inl rfl))
      (pss_cons (ps_set (i := 2) sc_law.nd rfl (Or.inl rfl) (d1 (ok_law_pot T) (hr.mono (by decide)) (by rfl) T.m_law_pot T.F_law_pot.kp T.b_law_pot passL (pa_cons (pv 0) (pa_cons (pv 1) pa_nil))))
      (pss_cons (ps_par (i := 3) (j := 4) (by rfl) sc_law.nd rfl rfl (by decide) rfl rfl (pa_cons (d1 (ok_law_size T) (hr.mono (by decide)) (by rfl) T.m_law_size T.F_law_size.kp T.b_law_size passL (pa_cons (pv 2) pa_nil)) (pa_cons (d1 (ok_law_value T) (hr.mono (by decide)) (by rfl) T.m_law_value T.F_law_value.kp T.b_law_value passL (pa_cons (pv 2) pa_nil)) pa_nil)) (by rfl))
      (pss_cons (ps_par (i := 5) (j := 6) (by rfl) sc_law.nd rfl rfl (by decide) rfl rfl (pa_cons (mkK0 T.mk_Memory (ok_Memory_init T) (hr.mono (by decide)) (by rfl) T.mg_Memory T.kb_Memory_init_1_number_size passL (pk_cons (pv 4) (pk_cons (pv 3) pk_nil))) (pa_cons (mkK T.mk_Memory (ok_Memory_init T) (hr.mono (by decide)) (by rfl) T.mg_Memory T.kb_Memory_init_2_number passL (pa_cons (pv 3) pa_nil) (pk_cons (pv 4) pk_nil)) pa_nil)) (by rfl))
      (pss_cons (ps_for (passes_of rfl) rfl (pi_range1 (by rfl) T.n_range (pa_cons pe_int pa_nil)) (pg_name (i := 7) sc_law.nd rfl (Or.inl rfl))
      (pss_one (ps_if (pt_not (pt_val (d1 (ok_law_step T) (hr.mono (by decide)) (by rfl) T.m_law_step T.F_law_step.kp T.b_law_step passL (pa_cons (pv 2) (pa_cons (pv 5) (pa_cons (pv 6) (pa_cons (pv 3) pa_nil))))))) (pss_one (ps_ret pe_bl)) pss_nil)))
      (pss_cons (ps_if (PW.pt (pw_or (pt_not (pt_val (d1 (ok_law_differences_right T) (hr.mono (by decide)) (by rfl) T.m_law_differences_right T.F_law_differences_right.kp T.b_law_differences_right passL (pa_cons (pv 5) (pa_cons (pv 3) pa_nil))))) (pw_or1 (pt_not (pt_val (d1 (ok_law_runs_right T) (hr.mono (by decide)) (by rfl) T.m_law_runs_right T.F_law_runs_right.kp T.b_law_runs_right passL (pa_cons (pv 5) (pa_cons (pv 3) (pa_cons (pv 4) pa_nil))))))))) (pss_one (ps_ret pe_bl)) pss_nil)
      (pss_one (ps_if (pt_not (pt_val (d1 (ok_law_errors_right T) (hr.mono (by decide)) (by rfl) T.m_law_errors_right T.F_law_errors_right.kp T.b_law_errors_right passL (pa_cons (pv 5) (pa_cons (pv 3) pa_nil))))) (pss_one (ps_ret pe_bl)) pss_nil))))))))
      (pss_one (ps_ret pe_bl))), ?_⟩
    dsimp only [cxOf, st_1, st_2, st_3, st_4, st_5, st_6, List.length_cons, List.length_nil, List.replicate_succ, List.replicate_zero, Nat.reduceAdd, Nat.reduceSub]
    walk_at "gs"
    rw [List.length_map]
    refine i_turns (by omega) (by omega) (fun i σ H' => ∃ o1 o2 o3 o4 o5 o6 o7 : Option V, σ = [some (.ref a), o1, o2, o3, o4, o5, o6, o7] ∧ Kp [T.tp_law_errors_right] H H' ∧ LamX.Tabs (tabsT T) H') ?_ ?_ ?_
    · exact ⟨_, _, _, _, _, _, _, rfl, Kp.refl, tT⟩
    · rintro i σ H1 hi ⟨o1, o2, o3, o4, o5, o6, o7, rfl, k1, t1⟩
      walk_at "gs"
      refine ⟨a, ns, i, rfl, k1.seqL naP hs, by omega, fun p H2 fp k2 hp2 => ?_⟩
      walk_at "gs"
      refine use_size hp2 (fun w H3 w0 w1 hp3 k3 => ?_)
      walk_at "gs"
      refine use_value hp3 (fun v H4 v0 v1 hp4 k4 => ?_)
      walk_at "gs"
      refine i_made fun m dx fm fdx nd => ?_
      refine ⟨m, dx, w, .int v, rfl, upd_same, .inr ⟨v, rfl, ⟨w0, w1⟩, fun H5 k5 M5 o5' => ⟨rfl, ?_⟩⟩⟩
      have k45 := kp_made fm fdx k5
      have hp5 := hp4.kp k45 not_nil
      walk_at "gs"
      refine i_made fun q dq fq fdq ndq => ?_
      refine ⟨q, dq, w, .int v, rfl, upd_same, .inr ⟨v, rfl, ⟨w0, w1⟩, fun H6 k6 N6 o6' => ⟨rfl, ?_⟩⟩⟩
      have k56 := kp_made fq fdq k6
      have hp6 := hp5.kp k56 not_nil
      have M6 := mem_kp0 M5 k56
      have nmq : m ≠ q := fr_tr (tr_mem M5) fq
      obtain ⟨cs, ecs⟩ : ∃ cs, cs = List.replicate w.toNat v := ⟨_, rfl⟩
      have lcs : (cs.length : Int) = w := by rw [ecs, List.length_replicate]; omega
      have fcs : (rle cs).length = 1 := by rw [ecs, rle_one w0]; rfl
      rw [← ecs] at M6 N6
      have t6 : LamX.Tabs (tabsT T) H6 := by
        refine tab0 k56 (tab0 k45 (tabs_kp (tab0 k2 t1) (Kp.trans k3 k4) fun b hb => ?_))
        obtain ⟨x1, y1, e1, _⟩ := hp2
        exact ⟨_, by rw [List.mem_singleton.mp hb]; exact e1, ob_lst⟩
      walk_at "gs"
      refine i_turns (by decide) (by decide) (fun j σ H' => ∃ (o7 : Option V) (cs : List Int), σ = [some (.ref a), some (.int i), some (.ref p), some (.int w), some (.int v), some (.ref m), some (.ref q), o7] ∧ Kp [p, m, q] H6 H' ∧ PotAt H' p ∧ MemAt K T.c_Memory H' m cs ∧ MemAt K T.c_Memory H' q cs ∧ (cs.length : Int) = w ∧ (rle cs).length + 9 ≤ 10 * 2 ^ j) ?_ ?_ ?_
      · exact ⟨_, cs, rfl, Kp.refl, hp6, M6, N6, lcs, by omega⟩
      · rintro j σ H7 hj ⟨o7, cs, rfl, k7, hp7, M7, N7, l7, f7⟩
        have pj : 2 ^ j ≤ 2 ^ 5 := Nat.pow_le_pow_right (by decide) (by omega)
        walk_at "gs"
        refine ⟨p, m, q, cs, w, rfl, hp7, M7, N7, nmq, l7, ⟨w0, w1⟩, by omega, fun cs' H8 k8 hp8 M8 N8 l8 f8 => ?_⟩
        walk_at "gs"
        refine ⟨_, cs', rfl, Kp.trans k7 k8, hp8, M8, N8, l8, ?_⟩
        rw [Nat.pow_succ]
        omega
      · rintro σ H7 ⟨o7, cs, rfl, k7, hp7, M7, N7, l7, f7⟩
        have f7 : (rle cs).length + 9 ≤ 10 * 64 := f7
        walk_at "gs"
        refine ⟨m, cs, w, rfl, M7, l7, ⟨w0, w1⟩, by omega, fun H8 k8 => ?_⟩
        have M8 := mem_kp0 M7 k8
        walk_at "gs"
        refine ⟨m, cs, w, v, rfl, M8, l7, ⟨w0, w1⟩, by omega, fun H9 k9 => ?_⟩
        have M9 := mem_kp0 M8 k9
        have t9 : LamX.Tabs (tabsT T) H9 := by
          refine tab0 (Kp.trans k8 k9) (tabs_kp t6 k7 fun b hb => ?_)
          simp only [List.mem_cons, List.not_mem_nil, or_false] at hb
          rcases hb with rfl | rfl | rfl
          · obtain ⟨x1, y1, e1, _⟩ := hp6
            exact ⟨_, e1, ob_lst⟩
          · obtain ⟨d1, y1, e1, _⟩ := M6
            exact ⟨_, e1, ob_ins⟩
          · obtain ⟨d1, y1, e1, _⟩ := N6
            exact ⟨_, e1, ob_ins⟩
        walk_at "gs"
        refine ⟨m, cs, w, rfl, M9, l7, ⟨w0, w1⟩, t9, fun H10 k10 t10 => ?_⟩
        walk_at "gs"
        refine ⟨_, _, _, _, _, _, _, rfl, ?_, t10⟩
        have wide : Kp [T.tp_law_errors_right, p, m, q] H1 H10 := by
          have ip : ∀ b ∈ [p], b ∈ [T.tp_law_errors_right, p, m, q] := fun b hb => by rw [List.mem_singleton.mp hb]; simp
          have i3 : ∀ b ∈ [p, m, q], b ∈ [T.tp_law_errors_right, p, m, q] := fun b hb => List.mem_cons_of_mem _ hb
          have iP : ∀ b ∈ [T.tp_law_errors_right], b ∈ [T.tp_law_errors_right, p, m, q] := fun b hb => by rw [List.mem_singleton.mp hb]; simp
          exact Kp.trans k2.wide (Kp.trans ((Kp.trans k3 k4).mono ip) (Kp.trans (Kp.trans k45 k56).wide (Kp.trans (k7.mono i3) (Kp.trans (Kp.trans k8 k9).wide (k10.mono iP)))))
        refine Kp.trans k1 (wide.dropAll fun b hb => ?_)
        have k24 : Kp [p] H1 H4 := Kp.trans k2.wide (Kp.trans k3 k4)
        simp only [List.mem_cons, List.not_mem_nil, or_false] at hb
        rcases hb with rfl | rfl | rfl | rfl
        · exact .inl List.mem_cons_self
        · exact .inr fp
        · exact .inr (k24.free fm)
        · exact .inr (Kp.free (Kp.trans k24 k45.wide) fq)
    · rintro σ H1 ⟨o1, o2, o3, o4, o5, o6, o7, rfl, k1, t1⟩
      walk_at "gs"
      exact k _
theorem law_end {K : PySem.W.Frag} {TB : List (Addr × Str)} {H : Hp} {a : Addr} {ns : List Int} (hl : ns.length ≤ 63) (_ : ∀ z ∈ ns, Builtin.Int.intBits z ≤ 1048576) (hT : ∀ r ∈ TB, H r.1 = some (.tbl #[])) (hs : SqL K H a (ns.map V.int)) (hA : ∀ r ∈ TB, a ≠ r.1) :
    sp_law K TB [.ref a] H (fun v _ => v = .bl true) fun _ _ _ => False :=
  ⟨a, ns, rfl, fun r hr => LamX.TabS.nil (hT r hr), hs, hA, hl, fun _ => rfl⟩

section
open PySem.Spec PyProof.Rows LamX
/-- the law's entry, where defs make lambdas: their tables, yet empty, are tracked too -/
theorem lawGT {P : Program} {w : World} {K : PySem.W.Frag} {mg mb : Str → Option Value} {k : Nat} {fa a : Addr} {fd : FuncData} {x : Str} {sp : Sp} {s0 : Shared} {vs : List Value} {ns : List Int} {TB : List (Addr × Str)}
    (kin : K.In s0.heap) (hns : s0.heap.Ns mainGlobals mg) (hb : s0.heap.Ns builtinsNs mb) (hbb : ∀ y : Str, y ≠ "__name__" → mb y = bootBuiltins y) (lim : s0.heap.NoLimit) (hg : s0.gens = #[])
    (ha : s0.heap.get? a = some { cls := .type "list", data := .seq vs.toArray }) (hi : IntsAre vs ns) (hl : ns.length ≤ sizeLine) (z : RoomG k callerA)
    (tE : ∀ r ∈ TB, s0.heap.get? r.1 = some { cls := .none, data := .fields #[] }) (tN : ∀ r ∈ TB, K.lookup r.1 = none) (tC : ∀ r ∈ TB, ∃ cd, TabK K mg cd r.1)
    (F : ∀ base : Heap, K.In base → base.Ns mainGlobals mg → FnG P w K mg base k fa fd [x] sp) (bd : ∀ (s : Shared) (u : Value), BindsTo s fd ⟨[u], []⟩ [(x, u)])
    (hsp : ∀ H : Hp, (∀ r ∈ TB, H r.1 = some (.tbl #[])) → SqL K H a (ns.map V.int) → (∀ r ∈ TB, a ≠ r.1) → sp [.ref a] H (fun v _ => v = .bl true) fun _ _ _ => False) :
    codeAny (model P w) callerA (.call (.ref fa) ⟨[.ref a], []⟩) (fun r s' => r = .ok (.ret (.bool true)) ∧ OldK s0.heap s'.heap ∧ s'.os = s0.os ∧ AllBare s'.gens) s0 := by
  have rv := vals_ints hi
  have lv := hi.length
  have anT : ∀ r ∈ TB, a ≠ r.1 := fun r hr e => by
    have q := tE r hr
    rw [← e, ha] at q
    have q2 : Data.seq vs.toArray _ = Data.fields #[] := congrArg Obj.data (Option.some.inj q)
    cases q2
  -- the heap of the entry
  let tabAt : Addr → Prop := fun b => ∃ r ∈ TB, r.1 = b
  have emptyAt : ∀ {b : Addr}, tabAt b → s0.heap.get? b = some { cls := .none, data := .fields #[] } := fun {b} ⟨r, hr, e⟩ => by
    rw [← e]
    exact tE r hr
  have core : ∀ H : Hp, (∀ r ∈ TB, H r.1 = some (.tbl #[])) → (∀ b, H b = none ∨ tabAt b ∨ ∃ o xs, H b = some (.frz o (.lst xs))) → SqL K H a (ns.map V.int) → HOk P w H s0.heap →
      (∀ b, H b ≠ none → b = a ∨ tabAt b) → (H a ≠ none → K.lookup a = none) →
      codeAny (model P w) callerA (.call (.ref fa) ⟨[.ref a], []⟩) (fun r s' => r = .ok (.ret (.bool true)) ∧ OldK s0.heap s'.heap ∧ s'.os = s0.os ∧ AllBare s'.gens) s0 := by
    intro H hT only sq hok where_ notK
    have untracked : ∀ {b : Addr} {o : Obj}, s0.heap.get? b = some o → (∀ us n, o.data ≠ .seq us n) → o.data ≠ .fields #[] → H b = none := by
      intro b o e n1 n2
      cases q : H b with
      | none => rfl
      | some u =>
        rcases where_ b (by rw [q]; exact fun y => nomatch y) with rfl | t
        · rw [ha] at e
          cases e
          exact absurd rfl (n1 _ _)
        · rw [emptyAt t] at e
          cases e
          exact absurd rfl n2
    have dicts : ∀ {b : Addr} {o : Obj} {es : Array DictEntry} {ep : Nat}, s0.heap.get? b = some o → o.data = .dict es ep → H b = none := by
      intro b o es ep e d
      refine untracked e (fun us n q => ?_) fun q => ?_
      · rw [d] at q
        cases q
      · rw [d] at q
        cases q
    have spaces : ∀ {b : Addr} {g : Str → Option Value}, s0.heap.Ns b g → (hidT s0.heap H).Ns b g := by
      rintro b g ⟨o, es, ep, e, d, r⟩
      exact ⟨o, es, ep, hidT_get e (dicts e d), d, r⟩
    have kb : K.In (hidT s0.heap H) := by
      intro b o e
      refine hidT_get (kin b o e) ?_
      cases q : H b with
      | none => rfl
      | some u =>
        rcases where_ b (by rw [q]; exact fun y => nomatch y) with rfl | ⟨r, hr, er⟩
        · rw [notK (by rw [q]; exact fun y => nomatch y)] at e
          cases e
        · rw [← er, tN r hr] at e
          cases e
    have md : L2.Mod K mg (hidT s0.heap H) := by
      obtain ⟨mc, l1, l2⟩ := lim
      exact ⟨kb, spaces hns, ⟨mb, spaces hb, hbb⟩, ⟨mc, spaces l1, l2⟩⟩
    have e0 : Env0 P w K mg (hidT s0.heap H) callerA [] s0 H :=
      ⟨rfl, md, fun b o e => of_hidT e, Nat.le_of_eq (hidT_size _ _), trivial, fun b q => absurd (show b ∈ ([] : List Addr) from q) List.not_mem_nil, hok, .of_eq hg⟩
    have run := (F _ kb (spaces hns)).run callerA [] s0 H ⟨[.ref a], []⟩ [.ref a] [.ref a] _ _ z e0 (bd s0 (.ref a)) (.cons rfl .nil) (hsp H hT sq anT)
    refine codeAny_mono run ?_
    intro r s' h
    match r, h with
    | .error e, h =>
      obtain ⟨_, _, _, _, _, _, _, _, _, _, _, _, y⟩ := h
      exact y.elim
    | .ok .next, h => exact False.elim h
    | .ok .brk, h => exact False.elim h
    | .ok .cont, h => exact False.elim h
    | .ok (.ret u), h =>
      obtain ⟨v, H', os, bare, un, hok', r', q⟩ := h
      have q' : v = .bl true := q
      subst q'
      obtain rfl : u = Value.bool true := r'
      have stays : ∀ b o, ¬ tabAt b → s0.heap.get? b = some o → s'.heap.get? b = some o := by
        intro b o nt e
        cases q : H b with
        | none => exact un.keep b o e q (fun y => absurd (show b ∈ ([] : List Addr) from y) List.not_mem_nil) List.not_mem_nil
        | some u =>
          rcases only b with y | y | ⟨ob, xs, y⟩
          · rw [q] at y
            cases y
          · exact absurd y nt
          · obtain ⟨e1, _⟩ := hok b _ y
            obtain ⟨e2, _⟩ := hok' b _ (un.frzs b ob _ y)
            rw [e] at e1
            cases e1
            exact e2
      have more : ∀ {b : Addr}, tabAt b → ∃ us : Array Value, s'.heap.get? b = some { cls := .none, data := .fields us } := by
        rintro b ⟨r, hr, rfl⟩
        obtain ⟨us, y⟩ := un.tbls r.1 #[] (hT r hr)
        exact ⟨_, hok' r.1 _ y⟩
      refine ⟨rfl, ⟨fun b o e => ?_, fun b o e => ?_⟩, os, bare⟩
      · by_cases t : tabAt b
        · obtain ⟨us, hus⟩ := more t
          obtain ⟨r, hr, rfl⟩ := t
          obtain ⟨cd, tk⟩ := tC r hr
          obtain ⟨c, _, B⟩ := tk.tab kin
          rw [tE r hr] at e
          cases e
          exact .inr (.inl ⟨(B.code.tab (tE r hr)).isCodeTable, rfl, #[], us, rfl, by rw [Array.empty_append]; exact hus⟩)
        · exact .inl (stays b o t e)
      · by_cases t : tabAt b
        · obtain ⟨us, hus⟩ := more t
          exact ⟨_, hus⟩
        · exact ⟨o, stays b o t e⟩
  have tabS : ∀ {b : Addr} {r : Addr × Str}, r ∈ TB → r.1 = b → tabAt b := fun h e => ⟨_, h, e⟩
  classical
  cases hk : K.lookup a with
  | some o =>
    have e := kin a o hk
    rw [ha] at e
    cases e
    refine core (fun b => if tabAt b then some (.tbl #[]) else none) (fun r hr => if_pos ⟨r, hr, rfl⟩) (fun b => ?_) (.inr ⟨_, vs.toArray, _, hk, rfl, rfl, rfl, ?_, ?_⟩) (fun b u y => ?_) (fun b y => ?_) fun y => absurd (if_neg fun ⟨r, hr, er⟩ => anT r hr er.symm) y
    · by_cases t : tabAt b
      · exact .inr (.inl t)
      · exact .inl (if_neg t)
    · rw [List.size_toArray, lv]
      exact hl
    · simpa using rv
    · by_cases t : tabAt b
      · have y' := (if_pos t).symm.trans y
        cases y'
        exact emptyAt t
      · have y' := (if_neg t).symm.trans y
        cases y'
    · by_cases t : tabAt b
      · exact .inr t
      · exact absurd (if_neg t) y
  | none =>
    have nta : ¬ tabAt a := fun ⟨r, hr, er⟩ => anT r hr er.symm
    refine core (fun b => if b = a then some (.frz { cls := .type "list", data := .seq vs.toArray } (.lst (ns.map V.int))) else if tabAt b then some (.tbl #[]) else none) (fun r hr => ?_) (fun b => ?_) (.inl (.inr ⟨_, if_pos rfl⟩)) (fun b u y => ?_) (fun b y => ?_) fun _ => hk
    · rw [if_neg (Ne.symm (anT r hr))]
      exact if_pos ⟨r, hr, rfl⟩
    · by_cases q : b = a
      · exact .inr (.inr ⟨_, _, if_pos q⟩)
      · by_cases t : tabAt b
        · exact .inr (.inl t)
        · exact .inl (by rw [if_neg q]; exact if_neg t)
    · by_cases q : b = a
      · have y' := (if_pos q).symm.trans y
        cases y'
        subst q
        refine ⟨ha, ?_, vs, _, rv, ha⟩
        rw [List.length_map]
        exact hl
      · have y1 := (if_neg q).symm.trans y
        by_cases t : tabAt b
        · have y' := (if_pos t).symm.trans y1
          cases y'
          exact emptyAt t
        · have y' := (if_neg t).symm.trans y1
          cases y'
    · by_cases q : b = a
      · exact .inl q
      · by_cases t : tabAt b
        · exact .inr t
        · exact absurd (by show (if b = a then _ else _) = none; rw [if_neg q]; exact if_neg t) y
theorem walkHT {l : PySem.W.OpenLaw} {n k : Nat} {q : Program} {loose : List Str} {XP : (Str → Option Value) → Heap → Prop} {YP : World → Heap → Prop} {d : DefRec} {sp : PySem.W.Frag → List (Addr × Str) → Sp} {x : Str} (hn : l.most = some n)
    (hn2 : n ≤ PySem.sizeLine) (hdf : d.params.defaults = []) (hr : Room k PySem.callerA)
    (F : ∀ (w : World) (mg : Str → Option Value) (fa : Addr) (h : Heap), YP w h → h.Ns mainGlobals mg → mg d.name = some (.ref fa) →
      ∃ (K : PySem.W.Frag) (fd : FuncData) (TB : List (Addr × Str)), K.In h ∧ (∀ r ∈ TB, h.get? r.1 = some { cls := .none, data := .fields #[] }) ∧ (∀ r ∈ TB, K.lookup r.1 = none) ∧ (∀ r ∈ TB, ∃ cd, TabK K mg cd r.1) ∧ (∀ (s : Shared) (u : Value), BindsTo s fd ⟨[u], []⟩ [(x, u)]) ∧
        ∀ base : Heap, K.In base → base.Ns mainGlobals mg → FnG l.prog w K mg base k fa fd [x] (sp K TB))
    (hsp : ∀ (K : PySem.W.Frag) (TB : List (Addr × Str)) (H : Hp) (a : Addr) (ns : List Int), ns.length ≤ n → (∀ z ∈ ns, Builtin.Int.intBits z ≤ 1048576) → (∀ r ∈ TB, H r.1 = some (.tbl #[])) → SqL K H a (ns.map V.int) → (∀ r ∈ TB, a ≠ r.1) →
      sp K TB [.ref a] H (fun v _ => v = .bl true) fun _ _ _ => False) :
    PySem.W.WalkO q loose XP YP l.row.toRowW d [] (fun f vs => PySem.call f vs) := by
  refine Att.attach_callB hn hdf ?_
  intro w s0 s1 mg mb fa o pm cd doc a vs ns T Y ho hd hcd hmg hobj hints hlen hbits hg
  obtain ⟨K, fd, TB, kin, tE, tN, tC, hb, hF⟩ := F w mg fa _ Y T.T.g hmg
  exact lawGT kin T.T.g T.T.b T.T.builtins T.T.nolimit hg hobj hints (Nat.le_trans hlen hn2) ⟨hr, rfl⟩ tE tN tC hF hb (fun H hT hS hA => hsp _ _ H a ns hlen hbits hT hS hA)
end

theorem all_mkH {P : Program} {w : World} {K K2 : PySem.W.Frag} {h : Heap} {mg : Str → Option Value} {fa : Addr} (X : K.In h) (X2 : K2.In h) (G : h.Ns mainGlobals mg) (hfa : mg "law" = some (.ref fa)) (c : He.SaysD [] fnH K) (e : exH K = true) (eT : exT K K2 = true) :
    ∃ (fd : FuncData) (TB : List (Addr × Str)), (∀ r ∈ TB, h.get? r.1 = some { cls := .none, data := .fields #[] }) ∧ (∀ r ∈ TB, K.lookup r.1 = none) ∧ (∀ r ∈ TB, ∃ cd, TabK K mg cd r.1) ∧ (∀ (s : Shared) (v : Value), BindsTo s fd ⟨[v], []⟩ [("_law_script", v)]) ∧
      ∀ base : Heap, K.In base → base.Ns mainGlobals mg →
        FnG P w K mg base 10 fa fd ["_law_script"] (sp_law K TB) := by
  obtain ⟨e0, e⟩ := He.ba e
  obtain ⟨e1, e⟩ := He.ba e
  obtain ⟨e2, e⟩ := He.ba e
  obtain ⟨e3, e⟩ := He.ba e
  obtain ⟨e4, e⟩ := He.ba e
  obtain ⟨e5, e⟩ := He.ba e
  obtain ⟨e6, e⟩ := He.ba e
  obtain ⟨e7, e⟩ := He.ba e
  obtain ⟨e8, e⟩ := He.ba e
  obtain ⟨e9, e⟩ := He.ba e
  obtain ⟨e10, e⟩ := He.ba e
  obtain ⟨e11, e⟩ := He.ba e
  obtain ⟨e12, e⟩ := He.ba e
  obtain ⟨e13, e⟩ := He.ba e
  obtain ⟨e14, e⟩ := He.ba e
  have e15 := e
  obtain ⟨h_is_number, e0⟩ := He.ba e0
  obtain ⟨h_is_whole, e0⟩ := He.ba e0
  obtain ⟨h_is_size, e0⟩ := He.ba e0
  obtain ⟨h_is_run, e0⟩ := He.ba e0
  obtain ⟨h_are_runs, e0⟩ := He.ba e0
  obtain ⟨h_joined, e0⟩ := He.ba e0
  obtain ⟨h_cut_out, e0⟩ := He.ba e0
  obtain ⟨h_want_size, e0⟩ := He.ba e0
  obtain ⟨h_want_number, e0⟩ := He.ba e0
  obtain ⟨h_want_cell, e0⟩ := He.ba e0
  obtain ⟨h_want_stretch, e0⟩ := He.ba e0
  have h_Memory_size := e0
  obtain ⟨h_Memory_at, e1⟩ := He.ba e1
  obtain ⟨h_Memory_runs, e1⟩ := He.ba e1
  obtain ⟨h_Memory_lay, e1⟩ := He.ba e1
  obtain ⟨h_Memory_put, e1⟩ := He.ba e1
  obtain ⟨h_Memory_fill, e1⟩ := He.ba e1
  obtain ⟨h_Memory_bring, e1⟩ := He.ba e1
  obtain ⟨h_Memory_copied, e1⟩ := He.ba e1
  obtain ⟨h_Memory_eq, e1⟩ := He.ba e1
  obtain ⟨h_Memory_len, e1⟩ := He.ba e1
  obtain ⟨h_Memory_repr, e1⟩ := He.ba e1
  obtain ⟨h_memory_of, e1⟩ := He.ba e1
  have h_side_by_side := e1
  obtain ⟨h_difference, e2⟩ := He.ba e2
  obtain ⟨h_is_part, e2⟩ := He.ba e2
  obtain ⟨h_is_difference, e2⟩ := He.ba e2
  obtain ⟨h_turned, e2⟩ := He.ba e2
  obtain ⟨h_want_fit, e2⟩ := He.ba e2
  obtain ⟨h_carry, e2⟩ := He.ba e2
  obtain ⟨h_law_pot, e2⟩ := He.ba e2
  obtain ⟨h_law_draw, e2⟩ := He.ba e2
  obtain ⟨h_law_size, e2⟩ := He.ba e2
  obtain ⟨h_law_value, e2⟩ := He.ba e2
  obtain ⟨h_law_place, e2⟩ := He.ba e2
  have h_law_step := e2
  obtain ⟨h_law_differences_right, e3⟩ := He.ba e3
  obtain ⟨h_law_runs_right, e3⟩ := He.ba e3
  obtain ⟨h_law_raised, e3⟩ := He.ba e3
  obtain ⟨h_law_errors_right, e3⟩ := He.ba e3
  obtain ⟨h_law, e3⟩ := He.ba e3
  obtain ⟨hg_Memory, e3⟩ := He.ba e3
  obtain ⟨hc_Memory, e3⟩ := He.ba e3
  obtain ⟨hm_Memory, e3⟩ := He.ba e3
  obtain ⟨hn_Memory_pairs, e3⟩ := He.ba e3
  obtain ⟨hn_Memory_wide, e3⟩ := He.ba e3
  obtain ⟨oa_Memory, e3⟩ := He.ba e3
  have om_Memory := e3
  obtain ⟨ok_Memory_NoneType, e4⟩ := He.ba e4
  obtain ⟨ok_Memory_int, e4⟩ := He.ba e4
  obtain ⟨ok_Memory_bool, e4⟩ := He.ba e4
  obtain ⟨ok_Memory_str, e4⟩ := He.ba e4
  obtain ⟨ok_Memory_list, e4⟩ := He.ba e4
  obtain ⟨ok_Memory_tuple, e4⟩ := He.ba e4
  obtain ⟨ok_Memory_dict, e4⟩ := He.ba e4
  obtain ⟨ne_Memory, e4⟩ := He.ba e4
  obtain ⟨on, e4⟩ := He.ba e4
  obtain ⟨ot, e4⟩ := He.ba e4
  obtain ⟨xg_ForkError, e4⟩ := He.ba e4
  have xa_ForkError := e4
  obtain ⟨xb_ForkError, e5⟩ := He.ba e5
  obtain ⟨xc_ForkError, e5⟩ := He.ba e5
  obtain ⟨xd_ForkError, e5⟩ := He.ba e5
  obtain ⟨xe_ForkError, e5⟩ := He.ba e5
  obtain ⟨xf_ForkError, e5⟩ := He.ba e5
  obtain ⟨xt_ForkError, e5⟩ := He.ba e5
  obtain ⟨xg_NoSize, e5⟩ := He.ba e5
  obtain ⟨xa_NoSize, e5⟩ := He.ba e5
  obtain ⟨xb_NoSize, e5⟩ := He.ba e5
  obtain ⟨xc_NoSize, e5⟩ := He.ba e5
  obtain ⟨xd_NoSize, e5⟩ := He.ba e5
  have xe_NoSize := e5
  obtain ⟨xf_NoSize, e6⟩ := He.ba e6
  obtain ⟨xt_NoSize, e6⟩ := He.ba e6
  obtain ⟨xk_NoSize, e6⟩ := He.ba e6
  obtain ⟨xn_NoSize, e6⟩ := He.ba e6
  obtain ⟨xs_NoSize_ForkError, e6⟩ := He.ba e6
  obtain ⟨xs_NoSize_NoSize, e6⟩ := He.ba e6
  obtain ⟨xs_NoSize_NoNumber, e6⟩ := He.ba e6
  obtain ⟨xs_NoSize_NoCell, e6⟩ := He.ba e6
  obtain ⟨xs_NoSize_NoStretch, e6⟩ := He.ba e6
  obtain ⟨xs_NoSize_NoDifference, e6⟩ := He.ba e6
  obtain ⟨xs_NoSize_Clash, e6⟩ := He.ba e6
  have xg_NoNumber := e6
  obtain ⟨xa_NoNumber, e7⟩ := He.ba e7
  obtain ⟨xb_NoNumber, e7⟩ := He.ba e7
  obtain ⟨xc_NoNumber, e7⟩ := He.ba e7
  obtain ⟨xd_NoNumber, e7⟩ := He.ba e7
  obtain ⟨xe_NoNumber, e7⟩ := He.ba e7
  obtain ⟨xf_NoNumber, e7⟩ := He.ba e7
  obtain ⟨xt_NoNumber, e7⟩ := He.ba e7
  obtain ⟨xg_NoCell, e7⟩ := He.ba e7
  obtain ⟨xa_NoCell, e7⟩ := He.ba e7
  obtain ⟨xb_NoCell, e7⟩ := He.ba e7
  obtain ⟨xc_NoCell, e7⟩ := He.ba e7
  have xd_NoCell := e7
  obtain ⟨xe_NoCell, e8⟩ := He.ba e8
  obtain ⟨xf_NoCell, e8⟩ := He.ba e8
  obtain ⟨xt_NoCell, e8⟩ := He.ba e8
  obtain ⟨xk_NoCell, e8⟩ := He.ba e8
  obtain ⟨xn_NoCell, e8⟩ := He.ba e8
  obtain ⟨xs_NoCell_ForkError, e8⟩ := He.ba e8
  obtain ⟨xs_NoCell_NoSize, e8⟩ := He.ba e8
  obtain ⟨xs_NoCell_NoNumber, e8⟩ := He.ba e8
  obtain ⟨xs_NoCell_NoCell, e8⟩ := He.ba e8
  obtain ⟨xs_NoCell_NoStretch, e8⟩ := He.ba e8
  obtain ⟨xs_NoCell_NoDifference, e8⟩ := He.ba e8
  have xs_NoCell_Clash := e8
  obtain ⟨xg_NoStretch, e9⟩ := He.ba e9
  obtain ⟨xa_NoStretch, e9⟩ := He.ba e9
  obtain ⟨xb_NoStretch, e9⟩ := He.ba e9
  obtain ⟨xc_NoStretch, e9⟩ := He.ba e9
  obtain ⟨xd_NoStretch, e9⟩ := He.ba e9
  obtain ⟨xe_NoStretch, e9⟩ := He.ba e9
  obtain ⟨xf_NoStretch, e9⟩ := He.ba e9
  obtain ⟨xt_NoStretch, e9⟩ := He.ba e9
  obtain ⟨xk_NoStretch, e9⟩ := He.ba e9
  obtain ⟨xn_NoStretch, e9⟩ := He.ba e9
  obtain ⟨xs_NoStretch_ForkError, e9⟩ := He.ba e9
  have xs_NoStretch_NoSize := e9
  obtain ⟨xs_NoStretch_NoNumber, e10⟩ := He.ba e10
  obtain ⟨xs_NoStretch_NoCell, e10⟩ := He.ba e10
  obtain ⟨xs_NoStretch_NoStretch, e10⟩ := He.ba e10
  obtain ⟨xs_NoStretch_NoDifference, e10⟩ := He.ba e10
  obtain ⟨xs_NoStretch_Clash, e10⟩ := He.ba e10
  obtain ⟨xg_NoDifference, e10⟩ := He.ba e10
  obtain ⟨xa_NoDifference, e10⟩ := He.ba e10
  obtain ⟨xb_NoDifference, e10⟩ := He.ba e10
  obtain ⟨xc_NoDifference, e10⟩ := He.ba e10
  obtain ⟨xd_NoDifference, e10⟩ := He.ba e10
  obtain ⟨xe_NoDifference, e10⟩ := He.ba e10
  have xf_NoDifference := e10
  obtain ⟨xt_NoDifference, e11⟩ := He.ba e11
  obtain ⟨xk_NoDifference, e11⟩ := He.ba e11
  obtain ⟨xn_NoDifference, e11⟩ := He.ba e11
  obtain ⟨xs_NoDifference_ForkError, e11⟩ := He.ba e11
  obtain ⟨xs_NoDifference_NoSize, e11⟩ := He.ba e11
  obtain ⟨xs_NoDifference_NoNumber, e11⟩ := He.ba e11
  obtain ⟨xs_NoDifference_NoCell, e11⟩ := He.ba e11
  obtain ⟨xs_NoDifference_NoStretch, e11⟩ := He.ba e11
  obtain ⟨xs_NoDifference_NoDifference, e11⟩ := He.ba e11
  obtain ⟨xs_NoDifference_Clash, e11⟩ := He.ba e11
  obtain ⟨xg_Clash, e11⟩ := He.ba e11
  have xa_Clash := e11
  obtain ⟨xb_Clash, e12⟩ := He.ba e12
  obtain ⟨xc_Clash, e12⟩ := He.ba e12
  obtain ⟨xd_Clash, e12⟩ := He.ba e12
  obtain ⟨xe_Clash, e12⟩ := He.ba e12
  obtain ⟨xf_Clash, e12⟩ := He.ba e12
  obtain ⟨xt_Clash, e12⟩ := He.ba e12
  obtain ⟨xk_Clash, e12⟩ := He.ba e12
  obtain ⟨xs_Clash_ForkError, e12⟩ := He.ba e12
  obtain ⟨xs_Clash_NoSize, e12⟩ := He.ba e12
  obtain ⟨xs_Clash_NoNumber, e12⟩ := He.ba e12
  obtain ⟨xs_Clash_NoCell, e12⟩ := He.ba e12
  have xs_Clash_NoStretch := e12
  obtain ⟨xs_Clash_NoDifference, e13⟩ := He.ba e13
  obtain ⟨xs_Clash_Clash, e13⟩ := He.ba e13
  obtain ⟨xI_Clash, e13⟩ := He.ba e13
  obtain ⟨xT_Clash, e13⟩ := He.ba e13
  obtain ⟨xQ_Clash, e13⟩ := He.ba e13
  obtain ⟨xW_Clash, e13⟩ := He.ba e13
  obtain ⟨xZ_Clash, e13⟩ := He.ba e13
  obtain ⟨xV_Clash, e13⟩ := He.ba e13
  obtain ⟨hk_LARGEST, e13⟩ := He.ba e13
  obtain ⟨hb_RuntimeError, e13⟩ := He.ba e13
  obtain ⟨hb_ValueError, e13⟩ := He.ba e13
  have hb_abs := e13
  obtain ⟨hb_all, e14⟩ := He.ba e14
  obtain ⟨hb_any, e14⟩ := He.ba e14
  obtain ⟨hb_bool, e14⟩ := He.ba e14
  obtain ⟨hb_divmod, e14⟩ := He.ba e14
  obtain ⟨hb_int, e14⟩ := He.ba e14
  obtain ⟨hb_isinstance, e14⟩ := He.ba e14
  obtain ⟨hb_len, e14⟩ := He.ba e14
  obtain ⟨hb_list, e14⟩ := He.ba e14
  obtain ⟨hb_max, e14⟩ := He.ba e14
  obtain ⟨hb_min, e14⟩ := He.ba e14
  obtain ⟨hb_range, e14⟩ := He.ba e14
  have hb_sum := e14
  obtain ⟨hb_tuple, e15⟩ := He.ba e15
  have hb_zip := e15
  have eL := hfa.symm.trans (He.glo_ok X G h_law)
  cases eL
  obtain ⟨fd0, FF0⟩ := c.def_ 0 (d := dd0) rfl
  have F0 : FunD K "__init__" "Clash.__init__" (defArgs s_Clash_init) (defBody s_Clash_init) (defScope s_Clash_init) [] ([] : List (Str × V)) (He.ma K (He.ga K "Clash") "__init__") fd0 := FF0
  have b0 := bindN (ps := ["self", "cell"]) F0 fun _ _ _ _ _ _ us hl => match us, hl with | [_, _], _ => rfl
  obtain ⟨fd1, FF1⟩ := c.def_ 1 (d := dd1) rfl
  have F1 : FunD K "is_number" "is_number" (defArgs s_is_number) (defBody s_is_number) (defScope s_is_number) [] ([] : List (Str × V)) (He.ga K "is_number") fd1 := FF1
  have b1 := bindN (ps := ["thing"]) F1 fun _ _ _ _ _ _ us hl => match us, hl with | [_], _ => rfl
  obtain ⟨fd2, FF2⟩ := c.def_ 2 (d := dd2) rfl
  have F2 : FunD K "is_whole" "is_whole" (defArgs s_is_whole) (defBody s_is_whole) (defScope s_is_whole) [] ([] : List (Str × V)) (He.ga K "is_whole") fd2 := FF2
  have b2 := bindN (ps := ["thing", "least", "most"]) F2 fun _ _ _ _ _ _ us hl => match us, hl with | [_, _, _], _ => rfl
  obtain ⟨fd3, FF3⟩ := c.def_ 3 (d := dd3) rfl
  have F3 : FunD K "is_size" "is_size" (defArgs s_is_size) (defBody s_is_size) (defScope s_is_size) [] ([] : List (Str × V)) (He.ga K "is_size") fd3 := FF3
  have b3 := bindN (ps := ["thing"]) F3 fun _ _ _ _ _ _ us hl => match us, hl with | [_], _ => rfl
  obtain ⟨fd4, FF4⟩ := c.def_ 4 (d := dd4) rfl
  have F4 : FunD K "is_run" "is_run" (defArgs s_is_run) (defBody s_is_run) (defScope s_is_run) [] ([] : List (Str × V)) (He.ga K "is_run") fd4 := FF4
  have b4 := bindN (ps := ["thing"]) F4 fun _ _ _ _ _ _ us hl => match us, hl with | [_], _ => rfl
  obtain ⟨fd5, FF5⟩ := c.def_ 5 (d := dd5) rfl
  have F5 : FunD K "are_runs" "are_runs" (defArgs s_are_runs) (defBody s_are_runs) (defScope s_are_runs) [] ([] : List (Str × V)) (He.ga K "are_runs") fd5 := FF5
  have b5 := bindN (ps := ["thing", "size"]) F5 fun _ _ _ _ _ _ us hl => match us, hl with | [_, _], _ => rfl
  obtain ⟨fd6, FF6⟩ := c.def_ 6 (d := dd6) rfl
  have F6 : FunD K "joined" "joined" (defArgs s_joined) (defBody s_joined) (defScope s_joined) [] ([] : List (Str × V)) (He.ga K "joined") fd6 := FF6
  have b6 := bindN (ps := ["pairs"]) F6 fun _ _ _ _ _ _ us hl => match us, hl with | [_], _ => rfl
  obtain ⟨fd7, FF7⟩ := c.def_ 7 (d := dd7) rfl
  have F7 : FunD K "cut_out" "cut_out" (defArgs s_cut_out) (defBody s_cut_out) (defScope s_cut_out) [] ([] : List (Str × V)) (He.ga K "cut_out") fd7 := FF7
  have b7 := bindN (ps := ["pairs", "begin", "end"]) F7 fun _ _ _ _ _ _ us hl => match us, hl with | [_, _, _], _ => rfl
  obtain ⟨fd8, FF8⟩ := c.def_ 8 (d := dd8) rfl
  have F8 : FunD K "want_size" "want_size" (defArgs s_want_size) (defBody s_want_size) (defScope s_want_size) [] ([] : List (Str × V)) (He.ga K "want_size") fd8 := FF8
  have b8 := bindN (ps := ["thing"]) F8 fun _ _ _ _ _ _ us hl => match us, hl with | [_], _ => rfl
  obtain ⟨fd9, FF9⟩ := c.def_ 9 (d := dd9) rfl
  have F9 : FunD K "want_number" "want_number" (defArgs s_want_number) (defBody s_want_number) (defScope s_want_number) [] ([] : List (Str × V)) (He.ga K "want_number") fd9 := FF9
  have b9 := bindN (ps := ["thing"]) F9 fun _ _ _ _ _ _ us hl => match us, hl with | [_], _ => rfl
  obtain ⟨fd10, FF10⟩ := c.def_ 10 (d := dd10) rfl
  have F10 : FunD K "want_cell" "want_cell" (defArgs s_want_cell) (defBody s_want_cell) (defScope s_want_cell) [] ([] : List (Str × V)) (He.ga K "want_cell") fd10 := FF10
  have b10 := bindN (ps := ["thing", "size"]) F10 fun _ _ _ _ _ _ us hl => match us, hl with | [_, _], _ => rfl
  obtain ⟨fd11, FF11⟩ := c.def_ 11 (d := dd11) rfl
  have F11 : FunD K "want_stretch" "want_stretch" (defArgs s_want_stretch) (defBody s_want_stretch) (defScope s_want_stretch) [] ([] : List (Str × V)) (He.ga K "want_stretch") fd11 := FF11
  have b11 := bindN (ps := ["begin", "end", "size"]) F11 fun _ _ _ _ _ _ us hl => match us, hl with | [_, _, _], _ => rfl
  obtain ⟨fd12, FF12⟩ := c.def_ 12 (d := dd12) rfl
  have F12 : FunD K "__init__" "Memory.__init__" (defArgs s_Memory_init) (defBody s_Memory_init) (defScope s_Memory_init) [] ([("number", V.int 0)] : List (Str × V)) (He.ma K (He.ga K "Memory") "__init__") fd12 := FF12
  have b12 := bindK (ps := ["self", "size", "number"]) F12 2 (by simp) rfl fun _ _ _ _ _ _ us ks h1 h2 => match us, ks, h1, h2 with | [_, _], [_], _, _ => ⟨_, _, _, _, _, _, rfl, rfl, rfl⟩
  obtain ⟨fd13, FF13⟩ := c.def_ 13 (d := dd13) rfl
  have F13 : FunD K "size" "Memory.size" (defArgs s_Memory_size) (defBody s_Memory_size) (defScope s_Memory_size) [] ([] : List (Str × V)) (He.ma K (He.ga K "Memory") "size") fd13 := FF13
  have b13 := bindN (ps := ["self"]) F13 fun _ _ _ _ _ _ us hl => match us, hl with | [_], _ => rfl
  obtain ⟨fd14, FF14⟩ := c.def_ 14 (d := dd14) rfl
  have F14 : FunD K "at" "Memory.at" (defArgs s_Memory_at) (defBody s_Memory_at) (defScope s_Memory_at) [] ([] : List (Str × V)) (He.ma K (He.ga K "Memory") "at") fd14 := FF14
  have b14 := bindN (ps := ["self", "cell"]) F14 fun _ _ _ _ _ _ us hl => match us, hl with | [_, _], _ => rfl
  obtain ⟨fd15, FF15⟩ := c.def_ 15 (d := dd15) rfl
  have F15 : FunD K "runs" "Memory.runs" (defArgs s_Memory_runs) (defBody s_Memory_runs) (defScope s_Memory_runs) [] ([] : List (Str × V)) (He.ma K (He.ga K "Memory") "runs") fd15 := FF15
  have b15 := bindN (ps := ["self"]) F15 fun _ _ _ _ _ _ us hl => match us, hl with | [_], _ => rfl
  obtain ⟨fd16, FF16⟩ := c.def_ 16 (d := dd16) rfl
  have F16 : FunD K "lay" "Memory.lay" (defArgs s_Memory_lay) (defBody s_Memory_lay) (defScope s_Memory_lay) [] ([] : List (Str × V)) (He.ma K (He.ga K "Memory") "lay") fd16 := FF16
  have b16 := bindN (ps := ["self", "begin", "pairs", "end"]) F16 fun _ _ _ _ _ _ us hl => match us, hl with | [_, _, _, _], _ => rfl
  obtain ⟨fd17, FF17⟩ := c.def_ 17 (d := dd17) rfl
  have F17 : FunD K "put" "Memory.put" (defArgs s_Memory_put) (defBody s_Memory_put) (defScope s_Memory_put) [] ([] : List (Str × V)) (He.ma K (He.ga K "Memory") "put") fd17 := FF17
  have b17 := bindN (ps := ["self", "cell", "number"]) F17 fun _ _ _ _ _ _ us hl => match us, hl with | [_, _, _], _ => rfl
  obtain ⟨fd18, FF18⟩ := c.def_ 18 (d := dd18) rfl
  have F18 : FunD K "fill" "Memory.fill" (defArgs s_Memory_fill) (defBody s_Memory_fill) (defScope s_Memory_fill) [] ([] : List (Str × V)) (He.ma K (He.ga K "Memory") "fill") fd18 := FF18
  have b18 := bindN (ps := ["self", "begin", "end", "number"]) F18 fun _ _ _ _ _ _ us hl => match us, hl with | [_, _, _, _], _ => rfl
  obtain ⟨fd19, FF19⟩ := c.def_ 19 (d := dd19) rfl
  have F19 : FunD K "bring" "Memory.bring" (defArgs s_Memory_bring) (defBody s_Memory_bring) (defScope s_Memory_bring) [] ([("source", V.non)] : List (Str × V)) (He.ma K (He.ga K "Memory") "bring") fd19 := FF19
  have b19 := bindK (ps := ["self", "begin", "end", "to", "source"]) F19 4 (by simp) rfl fun _ _ _ _ _ _ us ks h1 h2 => match us, ks, h1, h2 with | [_, _, _, _], [_], _, _ => ⟨_, _, _, _, _, _, rfl, rfl, rfl⟩
  obtain ⟨fd20, FF20⟩ := c.def_ 20 (d := dd20) rfl
  have F20 : FunD K "copied" "Memory.copied" (defArgs s_Memory_copied) (defBody s_Memory_copied) (defScope s_Memory_copied) [] ([] : List (Str × V)) (He.ma K (He.ga K "Memory") "copied") fd20 := FF20
  have b20 := bindN (ps := ["self"]) F20 fun _ _ _ _ _ _ us hl => match us, hl with | [_], _ => rfl
  obtain ⟨fd21, FF21⟩ := c.def_ 21 (d := dd21) rfl
  have F21 : FunD K "__eq__" "Memory.__eq__" (defArgs s_Memory_eq) (defBody s_Memory_eq) (defScope s_Memory_eq) [] ([] : List (Str × V)) (He.ma K (He.ga K "Memory") "__eq__") fd21 := FF21
  have b21 := bindN (ps := ["self", "other"]) F21 fun _ _ _ _ _ _ us hl => match us, hl with | [_, _], _ => rfl
  obtain ⟨fd22, FF22⟩ := c.def_ 22 (d := dd22) rfl
  have F22 : FunD K "__len__" "Memory.__len__" (defArgs s_Memory_len) (defBody s_Memory_len) (defScope s_Memory_len) [] ([] : List (Str × V)) (He.ma K (He.ga K "Memory") "__len__") fd22 := FF22
  have b22 := bindN (ps := ["self"]) F22 fun _ _ _ _ _ _ us hl => match us, hl with | [_], _ => rfl
  obtain ⟨fd23, FF23⟩ := c.def_ 23 (d := dd23) rfl
  have F23 : FunD K "__repr__" "Memory.__repr__" (defArgs s_Memory_repr) (defBody s_Memory_repr) (defScope s_Memory_repr) [] ([] : List (Str × V)) (He.ma K (He.ga K "Memory") "__repr__") fd23 := FF23
  have b23 := bindN (ps := ["self"]) F23 fun _ _ _ _ _ _ us hl => match us, hl with | [_], _ => rfl
  obtain ⟨fd24, FF24⟩ := c.def_ 24 (d := dd24) rfl
  have F24 : FunD K "memory_of" "memory_of" (defArgs s_memory_of) (defBody s_memory_of) (defScope s_memory_of) [] ([] : List (Str × V)) (He.ga K "memory_of") fd24 := FF24
  have b24 := bindN (ps := ["runs"]) F24 fun _ _ _ _ _ _ us hl => match us, hl with | [_], _ => rfl
  obtain ⟨fd25, FF25⟩ := c.def_ 25 (d := dd25) rfl
  have F25 : FunD K "side_by_side" "side_by_side" (defArgs s_side_by_side) (defBody s_side_by_side) (defScope s_side_by_side) [] ([] : List (Str × V)) (He.ga K "side_by_side") fd25 := FF25
  have b25 := bindN (ps := ["some", "others"]) F25 fun _ _ _ _ _ _ us hl => match us, hl with | [_, _], _ => rfl
  obtain ⟨fd26, FF26⟩ := c.def_ 26 (d := dd26) rfl
  have F26 : FunD K "difference" "difference" (defArgs s_difference) (defBody s_difference) (defScope s_difference) [] ([] : List (Str × V)) (He.ga K "difference") fd26 := FF26
  have b26 := bindN (ps := ["one", "other"]) F26 fun _ _ _ _ _ _ us hl => match us, hl with | [_, _], _ => rfl
  obtain ⟨fd27, FF27⟩ := c.def_ 27 (d := dd27) rfl
  have F27 : FunD K "is_part" "is_part" (defArgs s_is_part) (defBody s_is_part) (defScope s_is_part) [] ([] : List (Str × V)) (He.ga K "is_part") fd27 := FF27
  have b27 := bindN (ps := ["thing", "least", "size"]) F27 fun _ _ _ _ _ _ us hl => match us, hl with | [_, _, _], _ => rfl
  obtain ⟨fd28, FF28⟩ := c.def_ 28 (d := dd28) rfl
  have F28 : FunD K "is_difference" "is_difference" (defArgs s_is_difference) (defBody s_is_difference) (defScope s_is_difference) [] ([] : List (Str × V)) (He.ga K "is_difference") fd28 := FF28
  have b28 := bindN (ps := ["thing", "size"]) F28 fun _ _ _ _ _ _ us hl => match us, hl with | [_, _], _ => rfl
  obtain ⟨fd29, FF29⟩ := c.def_ 29 (d := dd29) rfl
  have F29 : FunD K "turned" "turned" (defArgs s_turned) (defBody s_turned) (defScope s_turned) [] ([] : List (Str × V)) (He.ga K "turned") fd29 := FF29
  have b29 := bindN (ps := ["thing"]) F29 fun _ _ _ _ _ _ us hl => match us, hl with | [_], _ => rfl
  obtain ⟨fd30, FF30⟩ := c.def_ 30 (d := dd30) rfl
  have F30 : FunD K "want_fit" "want_fit" (defArgs s_want_fit) (defBody s_want_fit) (defScope s_want_fit) [] ([] : List (Str × V)) (He.ga K "want_fit") fd30 := FF30
  have b30 := bindN (ps := ["memory", "thing"]) F30 fun _ _ _ _ _ _ us hl => match us, hl with | [_, _], _ => rfl
  obtain ⟨fd31, FF31⟩ := c.def_ 31 (d := dd31) rfl
  have F31 : FunD K "carry" "carry" (defArgs s_carry) (defBody s_carry) (defScope s_carry) [] ([] : List (Str × V)) (He.ga K "carry") fd31 := FF31
  have b31 := bindN (ps := ["memory", "thing"]) F31 fun _ _ _ _ _ _ us hl => match us, hl with | [_, _], _ => rfl
  obtain ⟨fd32, FF32⟩ := c.def_ 32 (d := dd32) rfl
  have F32 : FunD K "_law_pot" "_law_pot" (defArgs s_law_pot) (defBody s_law_pot) (defScope s_law_pot) [] ([] : List (Str × V)) (He.ga K "_law_pot") fd32 := FF32
  have b32 := bindN (ps := ["_law_script", "_law_k"]) F32 fun _ _ _ _ _ _ us hl => match us, hl with | [_, _], _ => rfl
  obtain ⟨fd33, FF33⟩ := c.def_ 33 (d := dd33) rfl
  have F33 : FunD K "_law_draw" "_law_draw" (defArgs s_law_draw) (defBody s_law_draw) (defScope s_law_draw) [] ([] : List (Str × V)) (He.ga K "_law_draw") fd33 := FF33
  have b33 := bindN (ps := ["_law_pot_here", "_law_many"]) F33 fun _ _ _ _ _ _ us hl => match us, hl with | [_, _], _ => rfl
  obtain ⟨fd34, FF34⟩ := c.def_ 34 (d := dd34) rfl
  have F34 : FunD K "_law_size" "_law_size" (defArgs s_law_size) (defBody s_law_size) (defScope s_law_size) [] ([] : List (Str × V)) (He.ga K "_law_size") fd34 := FF34
  have b34 := bindN (ps := ["_law_pot_here"]) F34 fun _ _ _ _ _ _ us hl => match us, hl with | [_], _ => rfl
  obtain ⟨fd35, FF35⟩ := c.def_ 35 (d := dd35) rfl
  have F35 : FunD K "_law_value" "_law_value" (defArgs s_law_value) (defBody s_law_value) (defScope s_law_value) [] ([] : List (Str × V)) (He.ga K "_law_value") fd35 := FF35
  have b35 := bindN (ps := ["_law_pot_here"]) F35 fun _ _ _ _ _ _ us hl => match us, hl with | [_], _ => rfl
  obtain ⟨fd36, FF36⟩ := c.def_ 36 (d := dd36) rfl
  have F36 : FunD K "_law_place" "_law_place" (defArgs s_law_place) (defBody s_law_place) (defScope s_law_place) [] ([] : List (Str × V)) (He.ga K "_law_place") fd36 := FF36
  have b36 := bindN (ps := ["_law_pot_here", "_law_most"]) F36 fun _ _ _ _ _ _ us hl => match us, hl with | [_, _], _ => rfl
  obtain ⟨fd37, FF37⟩ := c.def_ 37 (d := dd37) rfl
  have F37 : FunD K "_law_step" "_law_step" (defArgs s_law_step) (defBody s_law_step) (defScope s_law_step) [] ([] : List (Str × V)) (He.ga K "_law_step") fd37 := FF37
  have b37 := bindN (ps := ["_law_pot_here", "_law_named", "_law_placed", "_law_wide"]) F37 fun _ _ _ _ _ _ us hl => match us, hl with | [_, _, _, _], _ => rfl
  obtain ⟨fd38, FF38⟩ := c.def_ 38 (d := dd38) rfl
  have F38 : FunD K "_law_differences_right" "_law_differences_right" (defArgs s_law_differences_right) (defBody s_law_differences_right) (defScope s_law_differences_right) [] ([] : List (Str × V)) (He.ga K "_law_differences_right") fd38 := FF38
  have b38 := bindN (ps := ["_law_named", "_law_wide"]) F38 fun _ _ _ _ _ _ us hl => match us, hl with | [_, _], _ => rfl
  obtain ⟨fd39, FF39⟩ := c.def_ 39 (d := dd39) rfl
  have F39 : FunD K "_law_runs_right" "_law_runs_right" (defArgs s_law_runs_right) (defBody s_law_runs_right) (defScope s_law_runs_right) [] ([] : List (Str × V)) (He.ga K "_law_runs_right") fd39 := FF39
  have b39 := bindN (ps := ["_law_named", "_law_wide", "_law_what"]) F39 fun _ _ _ _ _ _ us hl => match us, hl with | [_, _, _], _ => rfl
  obtain ⟨fd40, FF40⟩ := c.def_ 40 (d := dd40) rfl
  have F40 : FunD K "_law_raised" "_law_raised" (defArgs s_law_raised) (defBody s_law_raised) (defScope s_law_raised) [] ([] : List (Str × V)) (He.ga K "_law_raised") fd40 := FF40
  have b40 := bindN (ps := ["_law_call"]) F40 fun _ _ _ _ _ _ us hl => match us, hl with | [_], _ => rfl
  obtain ⟨fd41, FF41⟩ := c.def_ 41 (d := dd41) rfl
  have F41 : FunD K "_law_errors_right" "_law_errors_right" (defArgs s_law_errors_right) (defBody s_law_errors_right) (defScope s_law_errors_right) [] ([] : List (Str × V)) (He.ga K "_law_errors_right") fd41 := FF41
  have b41 := bindN (ps := ["_law_named", "_law_wide"]) F41 fun _ _ _ _ _ _ us hl => match us, hl with | [_, _], _ => rfl
  obtain ⟨fd42, FF42⟩ := c.def_ 42 (d := dd42) rfl
  have F42 : FunD K "law" "law" (defArgs s_law) (defBody s_law) (defScope s_law) [] ([] : List (Str × V)) (He.ga K "law") fd42 := FF42
  have b42 := bindN (ps := ["_law_script"]) F42 fun _ _ _ _ _ _ us hl => match us, hl with | [_], _ => rfl
  obtain ⟨t_LARGEST, g_LARGEST⟩ := He.int_ok X G hk_LARGEST
  unfold exT at eT
  simp only [cdOf_ok F41, Bool.and_eq_true] at eT
  obtain ⟨⟨ta0, tb0, tc0⟩, ndT⟩ := eT
  let T : Txt K mg := {
    c_Memory := _, cl_Memory := He.cls_ok hc_Memory, mg_Memory := He.glo_ok X G hg_Memory
    na_Memory_pairs := He.noat_ok hn_Memory_pairs
    na_Memory_wide := He.noat_ok hn_Memory_wide
    ic_Memory := ⟨He.cls_ok hc_Memory, He.eqO_ok oa_Memory, He.eqO_ok on, of_decide_eq_true ot, of_decide_eq_true om_Memory, kit_me⟩
    ot_Memory := by
      intro n hn
      simp only [tyNames, List.mem_cons, List.not_mem_nil, or_false] at hn
      rcases hn with rfl | rfl | rfl | rfl | rfl | rfl | rfl
      · exact of_decide_eq_true ok_Memory_NoneType
      · exact of_decide_eq_true ok_Memory_int
      · exact of_decide_eq_true ok_Memory_bool
      · exact of_decide_eq_true ok_Memory_str
      · exact of_decide_eq_true ok_Memory_list
      · exact of_decide_eq_true ok_Memory_tuple
      · exact of_decide_eq_true ok_Memory_dict
    ne_Memory := He.eqO_ok ne_Memory
    x_ForkError := _, mx_ForkError := He.glo_ok X G xg_ForkError, ec_ForkError := ⟨He.eqO_ok xa_ForkError, He.eqO_ok xb_ForkError, of_decide_eq_true xc_ForkError, xd_ForkError, He.eqO_ok xe_ForkError, He.eqO_ok on, of_decide_eq_true ot, of_decide_eq_true xf_ForkError⟩, et_ForkError := of_decide_eq_true xt_ForkError
    x_NoSize := _, mx_NoSize := He.glo_ok X G xg_NoSize, ec_NoSize := ⟨He.eqO_ok xa_NoSize, He.eqO_ok xb_NoSize, of_decide_eq_true xc_NoSize, xd_NoSize, He.eqO_ok xe_NoSize, He.eqO_ok on, of_decide_eq_true ot, of_decide_eq_true xf_NoSize⟩, et_NoSize := of_decide_eq_true xt_NoSize
    ek_NoSize := xk_NoSize
    en_NoSize := xn_NoSize
    is_NoSize_ForkError := of_decide_eq_true xs_NoSize_ForkError
    is_NoSize_NoSize := of_decide_eq_true xs_NoSize_NoSize
    is_NoSize_NoNumber := of_decide_eq_true xs_NoSize_NoNumber
    is_NoSize_NoCell := of_decide_eq_true xs_NoSize_NoCell
    is_NoSize_NoStretch := of_decide_eq_true xs_NoSize_NoStretch
    is_NoSize_NoDifference := of_decide_eq_true xs_NoSize_NoDifference
    is_NoSize_Clash := of_decide_eq_true xs_NoSize_Clash
    x_NoNumber := _, mx_NoNumber := He.glo_ok X G xg_NoNumber, ec_NoNumber := ⟨He.eqO_ok xa_NoNumber, He.eqO_ok xb_NoNumber, of_decide_eq_true xc_NoNumber, xd_NoNumber, He.eqO_ok xe_NoNumber, He.eqO_ok on, of_decide_eq_true ot, of_decide_eq_true xf_NoNumber⟩, et_NoNumber := of_decide_eq_true xt_NoNumber
    x_NoCell := _, mx_NoCell := He.glo_ok X G xg_NoCell, ec_NoCell := ⟨He.eqO_ok xa_NoCell, He.eqO_ok xb_NoCell, of_decide_eq_true xc_NoCell, xd_NoCell, He.eqO_ok xe_NoCell, He.eqO_ok on, of_decide_eq_true ot, of_decide_eq_true xf_NoCell⟩, et_NoCell := of_decide_eq_true xt_NoCell
    ek_NoCell := xk_NoCell
    en_NoCell := xn_NoCell
    is_NoCell_ForkError := of_decide_eq_true xs_NoCell_ForkError
    is_NoCell_NoSize := of_decide_eq_true xs_NoCell_NoSize
    is_NoCell_NoNumber := of_decide_eq_true xs_NoCell_NoNumber
    is_NoCell_NoCell := of_decide_eq_true xs_NoCell_NoCell
    is_NoCell_NoStretch := of_decide_eq_true xs_NoCell_NoStretch
    is_NoCell_NoDifference := of_decide_eq_true xs_NoCell_NoDifference
    is_NoCell_Clash := of_decide_eq_true xs_NoCell_Clash
    x_NoStretch := _, mx_NoStretch := He.glo_ok X G xg_NoStretch, ec_NoStretch := ⟨He.eqO_ok xa_NoStretch, He.eqO_ok xb_NoStretch, of_decide_eq_true xc_NoStretch, xd_NoStretch, He.eqO_ok xe_NoStretch, He.eqO_ok on, of_decide_eq_true ot, of_decide_eq_true xf_NoStretch⟩, et_NoStretch := of_decide_eq_true xt_NoStretch
    ek_NoStretch := xk_NoStretch
    en_NoStretch := xn_NoStretch
    is_NoStretch_ForkError := of_decide_eq_true xs_NoStretch_ForkError
    is_NoStretch_NoSize := of_decide_eq_true xs_NoStretch_NoSize
    is_NoStretch_NoNumber := of_decide_eq_true xs_NoStretch_NoNumber
    is_NoStretch_NoCell := of_decide_eq_true xs_NoStretch_NoCell
    is_NoStretch_NoStretch := of_decide_eq_true xs_NoStretch_NoStretch
    is_NoStretch_NoDifference := of_decide_eq_true xs_NoStretch_NoDifference
    is_NoStretch_Clash := of_decide_eq_true xs_NoStretch_Clash
    x_NoDifference := _, mx_NoDifference := He.glo_ok X G xg_NoDifference, ec_NoDifference := ⟨He.eqO_ok xa_NoDifference, He.eqO_ok xb_NoDifference, of_decide_eq_true xc_NoDifference, xd_NoDifference, He.eqO_ok xe_NoDifference, He.eqO_ok on, of_decide_eq_true ot, of_decide_eq_true xf_NoDifference⟩, et_NoDifference := of_decide_eq_true xt_NoDifference
    ek_NoDifference := xk_NoDifference
    en_NoDifference := xn_NoDifference
    is_NoDifference_ForkError := of_decide_eq_true xs_NoDifference_ForkError
    is_NoDifference_NoSize := of_decide_eq_true xs_NoDifference_NoSize
    is_NoDifference_NoNumber := of_decide_eq_true xs_NoDifference_NoNumber
    is_NoDifference_NoCell := of_decide_eq_true xs_NoDifference_NoCell
    is_NoDifference_NoStretch := of_decide_eq_true xs_NoDifference_NoStretch
    is_NoDifference_NoDifference := of_decide_eq_true xs_NoDifference_NoDifference
    is_NoDifference_Clash := of_decide_eq_true xs_NoDifference_Clash
    x_Clash := _, mx_Clash := He.glo_ok X G xg_Clash, ec_Clash := ⟨He.eqO_ok xa_Clash, He.eqO_ok xb_Clash, of_decide_eq_true xc_Clash, xd_Clash, He.eqO_ok xe_Clash, He.eqO_ok on, of_decide_eq_true ot, of_decide_eq_true xf_Clash⟩, et_Clash := of_decide_eq_true xt_Clash
    ek_Clash := xk_Clash
    is_Clash_ForkError := of_decide_eq_true xs_Clash_ForkError
    is_Clash_NoSize := of_decide_eq_true xs_Clash_NoSize
    is_Clash_NoNumber := of_decide_eq_true xs_Clash_NoNumber
    is_Clash_NoCell := of_decide_eq_true xs_Clash_NoCell
    is_Clash_NoStretch := of_decide_eq_true xs_Clash_NoStretch
    is_Clash_NoDifference := of_decide_eq_true xs_Clash_NoDifference
    is_Clash_Clash := of_decide_eq_true xs_Clash_Clash
    a_Clash_init := _, d_Clash_init := _, F_Clash_init := F0, b_Clash_init := b0, xi_Clash := (He.meth_ok xI_Clash).at_, xt_Clash := of_decide_eq_true xT_Clash, xc_Clash := ⟨under_RuntimeError, excB_ok xQ_Clash, He.eqO_ok xW_Clash, of_decide_eq_true xc_Clash, of_decide_eq_true xt_Clash, xk_Clash⟩, xn_Clash := He.eqO_ok xZ_Clash, xv_Clash := foundB_ok xV_Clash, xf_Clash := ⟨He.eqO_ok xa_Clash, He.eqO_ok xb_Clash, of_decide_eq_true xc_Clash, xd_Clash⟩
    a_is_number := _, d_is_number := _, F_is_number := F1, b_is_number := b1, m_is_number := He.glo_ok X G h_is_number
    a_is_whole := _, d_is_whole := _, F_is_whole := F2, b_is_whole := b2, m_is_whole := He.glo_ok X G h_is_whole
    a_is_size := _, d_is_size := _, F_is_size := F3, b_is_size := b3, m_is_size := He.glo_ok X G h_is_size
    a_is_run := _, d_is_run := _, F_is_run := F4, b_is_run := b4, m_is_run := He.glo_ok X G h_is_run
    a_are_runs := _, d_are_runs := _, F_are_runs := F5, b_are_runs := b5, m_are_runs := He.glo_ok X G h_are_runs
    a_joined := _, d_joined := _, F_joined := F6, b_joined := b6, m_joined := He.glo_ok X G h_joined
    a_cut_out := _, d_cut_out := _, F_cut_out := F7, b_cut_out := b7, m_cut_out := He.glo_ok X G h_cut_out
    a_want_size := _, d_want_size := _, F_want_size := F8, b_want_size := b8, m_want_size := He.glo_ok X G h_want_size
    a_want_number := _, d_want_number := _, F_want_number := F9, b_want_number := b9, m_want_number := He.glo_ok X G h_want_number
    a_want_cell := _, d_want_cell := _, F_want_cell := F10, b_want_cell := b10, m_want_cell := He.glo_ok X G h_want_cell
    a_want_stretch := _, d_want_stretch := _, F_want_stretch := F11, b_want_stretch := b11, m_want_stretch := He.glo_ok X G h_want_stretch
    a_Memory_init := _, d_Memory_init := _, F_Memory_init := F12, b_Memory_init := b12, mk_Memory := He.mkr_ok hm_Memory
    a_Memory_size := _, d_Memory_size := _, F_Memory_size := F13, b_Memory_size := b13, me_Memory_size := He.meth_ok h_Memory_size
    a_Memory_at := _, d_Memory_at := _, F_Memory_at := F14, b_Memory_at := b14, me_Memory_at := He.meth_ok h_Memory_at
    a_Memory_runs := _, d_Memory_runs := _, F_Memory_runs := F15, b_Memory_runs := b15, me_Memory_runs := He.meth_ok h_Memory_runs
    a_Memory_lay := _, d_Memory_lay := _, F_Memory_lay := F16, b_Memory_lay := b16, me_Memory_lay := He.meth_ok h_Memory_lay
    a_Memory_put := _, d_Memory_put := _, F_Memory_put := F17, b_Memory_put := b17, me_Memory_put := He.meth_ok h_Memory_put
    a_Memory_fill := _, d_Memory_fill := _, F_Memory_fill := F18, b_Memory_fill := b18, me_Memory_fill := He.meth_ok h_Memory_fill
    a_Memory_bring := _, d_Memory_bring := _, F_Memory_bring := F19, b_Memory_bring := b19, me_Memory_bring := He.meth_ok h_Memory_bring
    a_Memory_copied := _, d_Memory_copied := _, F_Memory_copied := F20, b_Memory_copied := b20, me_Memory_copied := He.meth_ok h_Memory_copied
    a_Memory_eq := _, d_Memory_eq := _, F_Memory_eq := F21, b_Memory_eq := b21, me_Memory_eq := He.meth_ok h_Memory_eq
    a_Memory_len := _, d_Memory_len := _, F_Memory_len := F22, b_Memory_len := b22, me_Memory_len := He.meth_ok h_Memory_len
    a_Memory_repr := _, d_Memory_repr := _, F_Memory_repr := F23, b_Memory_repr := b23, me_Memory_repr := He.meth_ok h_Memory_repr
    a_memory_of := _, d_memory_of := _, F_memory_of := F24, b_memory_of := b24, m_memory_of := He.glo_ok X G h_memory_of
    a_side_by_side := _, d_side_by_side := _, F_side_by_side := F25, b_side_by_side := b25, m_side_by_side := He.glo_ok X G h_side_by_side
    a_difference := _, d_difference := _, F_difference := F26, b_difference := b26, m_difference := He.glo_ok X G h_difference
    a_is_part := _, d_is_part := _, F_is_part := F27, b_is_part := b27, m_is_part := He.glo_ok X G h_is_part
    a_is_difference := _, d_is_difference := _, F_is_difference := F28, b_is_difference := b28, m_is_difference := He.glo_ok X G h_is_difference
    a_turned := _, d_turned := _, F_turned := F29, b_turned := b29, m_turned := He.glo_ok X G h_turned
    a_want_fit := _, d_want_fit := _, F_want_fit := F30, b_want_fit := b30, m_want_fit := He.glo_ok X G h_want_fit
    a_carry := _, d_carry := _, F_carry := F31, b_carry := b31, m_carry := He.glo_ok X G h_carry
    a_law_pot := _, d_law_pot := _, F_law_pot := F32, b_law_pot := b32, m_law_pot := He.glo_ok X G h_law_pot
    a_law_draw := _, d_law_draw := _, F_law_draw := F33, b_law_draw := b33, m_law_draw := He.glo_ok X G h_law_draw
    a_law_size := _, d_law_size := _, F_law_size := F34, b_law_size := b34, m_law_size := He.glo_ok X G h_law_size
    a_law_value := _, d_law_value := _, F_law_value := F35, b_law_value := b35, m_law_value := He.glo_ok X G h_law_value
    a_law_place := _, d_law_place := _, F_law_place := F36, b_law_place := b36, m_law_place := He.glo_ok X G h_law_place
    a_law_step := _, d_law_step := _, F_law_step := F37, b_law_step := b37, m_law_step := He.glo_ok X G h_law_step
    a_law_differences_right := _, d_law_differences_right := _, F_law_differences_right := F38, b_law_differences_right := b38, m_law_differences_right := He.glo_ok X G h_law_differences_right
    a_law_runs_right := _, d_law_runs_right := _, F_law_runs_right := F39, b_law_runs_right := b39, m_law_runs_right := He.glo_ok X G h_law_runs_right
    a_law_raised := _, d_law_raised := _, F_law_raised := F40, b_law_raised := b40, m_law_raised := He.glo_ok X G h_law_raised
    a_law_errors_right := _, d_law_errors_right := _, F_law_errors_right := F41, b_law_errors_right := b41, m_law_errors_right := He.glo_ok X G h_law_errors_right
    a_law := _, d_law := _, F_law := F42, b_law := b42, m_law := He.glo_ok X G h_law
    kb_Memory_put_1_number_cell := kbN (ps := ["self", "cell", "number"]) F17 1 ["number", "cell"] [1, 0] fun _ _ _ _ _ _ us ws h1 h2 => match us, ws, h1, h2 with | [_], [_, _], _, _ => rfl
    kb_Memory_fill_1_number_end_begin := kbN (ps := ["self", "begin", "end", "number"]) F18 1 ["number", "end", "begin"] [2, 1, 0] fun _ _ _ _ _ _ us ws h1 h2 => match us, ws, h1, h2 with | [_], [_, _, _], _, _ => rfl
    kb_Memory_bring_1_source_to_end_begin := kbK (ps := ["self", "begin", "end", "to", "source"]) F19 1 ["source", "to", "end", "begin"] ([] : List (Str × V)) [3, 2, 1, 0] (by simp) (by simp) fun _ _ _ _ _ _ us mv ws h1 h2 h3 => match us, mv, ws, h1, h2, h3 with | [_], [], [_, _, _, _], _, _, _ => rfl
    kb_Memory_at_1_cell := kbN (ps := ["self", "cell"]) F14 1 ["cell"] [0] fun _ _ _ _ _ _ us ws h1 h2 => match us, ws, h1, h2 with | [_], [_], _, _ => rfl
    kb_difference_0_other_one := kbN (ps := ["one", "other"]) F26 0 ["other", "one"] [1, 0] fun _ _ _ _ _ _ us ws h1 h2 => match us, ws, h1, h2 with | [], [_, _], _, _ => rfl
    kb_is_difference_0_size_thing := kbN (ps := ["thing", "size"]) F28 0 ["size", "thing"] [1, 0] fun _ _ _ _ _ _ us ws h1 h2 => match us, ws, h1, h2 with | [], [_, _], _, _ => rfl
    kb_turned_0_thing := kbN (ps := ["thing"]) F29 0 ["thing"] [0] fun _ _ _ _ _ _ us ws h1 h2 => match us, ws, h1, h2 with | [], [_], _, _ => rfl
    kb_carry_0_thing_memory := kbN (ps := ["memory", "thing"]) F31 0 ["thing", "memory"] [1, 0] fun _ _ _ _ _ _ us ws h1 h2 => match us, ws, h1, h2 with | [], [_, _], _, _ => rfl
    kb_memory_of_0_runs := kbN (ps := ["runs"]) F24 0 ["runs"] [0] fun _ _ _ _ _ _ us ws h1 h2 => match us, ws, h1, h2 with | [], [_], _, _ => rfl
    kb_joined_0_pairs := kbN (ps := ["pairs"]) F6 0 ["pairs"] [0] fun _ _ _ _ _ _ us ws h1 h2 => match us, ws, h1, h2 with | [], [_], _, _ => rfl
    kb_are_runs_0_size_thing := kbN (ps := ["thing", "size"]) F5 0 ["size", "thing"] [1, 0] fun _ _ _ _ _ _ us ws h1 h2 => match us, ws, h1, h2 with | [], [_, _], _, _ => rfl
    kb_is_size_0_thing := kbN (ps := ["thing"]) F3 0 ["thing"] [0] fun _ _ _ _ _ _ us ws h1 h2 => match us, ws, h1, h2 with | [], [_], _, _ => rfl
    kb_is_number_0_thing := kbN (ps := ["thing"]) F1 0 ["thing"] [0] fun _ _ _ _ _ _ us ws h1 h2 => match us, ws, h1, h2 with | [], [_], _, _ => rfl
    kb_Memory_init_1_number_size := kbK (ps := ["self", "size", "number"]) F12 1 ["number", "size"] ([] : List (Str × V)) [1, 0] (by simp) (by simp) fun _ _ _ _ _ _ us mv ws h1 h2 h3 => match us, mv, ws, h1, h2, h3 with | [_], [], [_, _], _, _, _ => rfl
    kb_Memory_init_2_number := kbK (ps := ["self", "size", "number"]) F12 2 ["number"] ([] : List (Str × V)) [0] (by simp) (by simp) fun _ _ _ _ _ _ us mv ws h1 h2 h3 => match us, mv, ws, h1, h2, h3 with | [_, _], [], [_], _, _, _ => rfl
    t_LARGEST := t_LARGEST, g_LARGEST := g_LARGEST
    n_RuntimeError := He.free_ok X G hb_RuntimeError
    n_ValueError := He.free_ok X G hb_ValueError
    n_abs := He.free_ok X G hb_abs
    n_all := He.free_ok X G hb_all
    n_any := He.free_ok X G hb_any
    n_bool := He.free_ok X G hb_bool
    n_divmod := He.free_ok X G hb_divmod
    n_int := He.free_ok X G hb_int
    n_isinstance := He.free_ok X G hb_isinstance
    n_len := He.free_ok X G hb_len
    n_list := He.free_ok X G hb_list
    n_max := He.free_ok X G hb_max
    n_min := He.free_ok X G hb_min
    n_range := He.free_ok X G hb_range
    n_sum := He.free_ok X G hb_sum
    n_tuple := He.free_ok X G hb_tuple
    n_zip := He.free_ok X G hb_zip
    tp_law_errors_right := _, tk_law_errors_right := tabB_ok X G ta0
    tnd := of_decide_eq_true ndT
  }
  have bL := FunD.bindsA (ps := ["_law_script"]) F42 fun _ _ _ _ _ _ us hl => match us, hl with | [_], _ => rfl
  have allT : ∀ {A : Addr → Prop}, A (T.tp_law_errors_right) → ∀ r ∈ tabsT T, A r.1 := by
    intro A a0 r hr
    simp only [tabsT, List.mem_cons, List.not_mem_nil, or_false] at hr
    rcases hr with rfl
    · exact a0
  exact ⟨_, tabsT T, allT (A := fun P => h.get? P = some { cls := .none, data := .fields #[] }) (emptyB_ok X2 tb0), allT (A := fun P => K.lookup P = none) (Option.isNone_iff_eq_none.mp tc0), allT (A := fun P => ∃ cd, TabK K mg cd P) ⟨_, T.tk_law_errors_right⟩, fun s v => bL s [v] rfl, fun base _ _ => ok_law T⟩
end My
open PySem PySem.W PySem.Calls PyProof.Rows in
set_option maxRecDepth 100000 in
set_option maxHeartbeats 0 in
theorem PySem.Challenge.cw_forkthrift_k10_calls_by_names_holds : PySem.Challenge.rw_forkthrift_k10_calls_by_names.Holds := by
  w_on; o_law
  refine HandSHeadRun.head_any (r := OpenLaw.row PySem.Challenge.rw_forkthrift_k10_calls_by_names) (q := view (OpenLaw.row PySem.Challenge.rw_forkthrift_k10_calls_by_names).prog [45]) (H := My.hkH) (ob := My.obH) (M := 200000) (loose := My.lsH) (d := HandSHeadRun.topDef (OpenLaw.row PySem.Challenge.rw_forkthrift_k10_calls_by_names).prog 45) (kwd := []) My.obH_eq
    (by kernel_rfl) (fun s => by kernel_rfl) My.runH (by kernel_rfl) (by kernel_rfl) (by kernel_rfl) (by rfl) (by first | assumption | decide +kernel) (by decide +kernel) ⟨rfl, rfl, rfl, rfl, rfl, by decide +kernel⟩ ?hw ?hc
  case hw => w_witness2
  case hc =>
    refine My.walkHT (l := PySem.Challenge.rw_forkthrift_k10_calls_by_names) (sp := My.sp_law) (n := 63) (k := 10) (x := "_law_script") rfl (by decide) (by kernel_rfl) ⟨rfl, by decide, by decide⟩ ?F ?S
    case S => exact fun K TB H a ns hl hb hT hs hA => My.law_end hl hb hT hs hA
    case F =>
      intro w mg fa h Y G hmg0
      obtain ⟨K, K2, KX, KX2, c, e, e2⟩ := Y
      have hmg : mg ("law" : PySem.Str) = some (.ref fa) := by
        have e : (HandSHeadRun.topDef (OpenLaw.row PySem.Challenge.rw_forkthrift_k10_calls_by_names).prog 45).name = ("law" : PySem.Str) := by kernel_rfl
        rw [← e]
        exact hmg0
      obtain ⟨fd, TB, tE, tN, tC, hb, hF⟩ := My.all_mkH (P := (PySem.Challenge.rw_forkthrift_k10_calls_by_names).prog) (w := w) KX KX2 G hmg c e e2
      exact ⟨K, fd, TB, KX, tE, tN, tC, hb, hF⟩
#print axioms PySem.Challenge.cw_forkthrift_k10_calls_by_names_holds

